import PyProof.Rows.All
import Wide.All
import OpenK.AllK
import Wide.FinOn
import HandS.ForMost
import HandS.ForExc
import HandS.Defaults
import HandS.Star
import HandS.Flow
import HandS.ExcInit
import HandS.Deep
import HandS.TupAny
import HandS.Wide
import KE.KExcSuper
import HandS.IsInst
import HandS.TupMul
import HandS.Style
import HandS.CallSlots
import HandS.ExcField
import HandS.ExcIs
import HandS.Zip
import HandS.ExcSuper
import HandS.TryMany
import HandS.HeadHook1
import HandS.HeadHook2
import HandS.Codes
import HandS.Ends
import HandS.Head0
import HandS.Head1
import HandS.Head2
import HandS.HeadEnd
import HandS.Words
import PySem.Challenge.RW_carriedfields_k93_callers_made
set_option Elab.async false
set_option linter.all false
set_option maxRecDepth 100000
set_option maxHeartbeats 4000000
/-! A small evaluator over plain data: tuples, lists, objects that no longer change are trees (D); what is changed stands in numbered cells. -/
namespace Dv
open PySem
/-! ### data -/
inductive D where
  | non | bl (b : Bool) | int (i : Int) | str (x : Str)
  | tup (xs : List D) | lst (xs : List D)
  | obj (c : Nat) (ks : List Nat) (vs : List D)
  | exn (c : Nat) (ks : List Nat) (vs : List D)
  | ref (n : Nat)
  | scr (ns : List Int)
mutual
def D.beq : D → D → Bool
  | .non, .non => true
  | .bl a, .bl b => a == b
  | .int a, .int b => a == b
  | .str a, .str b => decide (a = b)
  | .tup a, .tup b => D.beqs a b
  | .lst a, .lst b => D.beqs a b
  | .obj c k v, .obj c' k' v' => c == c' && (decide (k = k') && D.beqs v v')
  | .exn c k v, .exn c' k' v' => c == c' && (decide (k = k') && D.beqs v v')
  | .ref a, .ref b => a == b
  | .scr a, .scr b => decide (a = b)
  | _, _ => false
def D.beqs : List D → List D → Bool
  | [], [] => true
  | a :: as, b :: bs => D.beq a b && D.beqs as bs
  | _, _ => false
end
mutual
theorem D.beq_iff : ∀ a b : D, D.beq a b = true ↔ a = b
  | .non, b => by cases b <;> simp [D.beq]
  | .bl a, b => by cases b <;> simp [D.beq]
  | .int a, b => by cases b <;> simp [D.beq]
  | .str a, b => by cases b <;> simp [D.beq]
  | .tup a, b => by cases b <;> simp [D.beq, D.beqs_iff a]
  | .lst a, b => by cases b <;> simp [D.beq, D.beqs_iff a]
  | .obj c k v, b => by cases b <;> simp [D.beq, D.beqs_iff v]
  | .exn c k v, b => by cases b <;> simp [D.beq, D.beqs_iff v]
  | .ref a, b => by cases b <;> simp [D.beq]
  | .scr a, b => by cases b <;> simp [D.beq]
theorem D.beqs_iff : ∀ a b : List D, D.beqs a b = true ↔ a = b
  | [], b => by cases b <;> simp [D.beqs]
  | x :: xs, b => by
    cases b with
    | nil => simp [D.beqs]
    | cons y ys => simp [D.beqs, D.beq_iff x y, D.beqs_iff xs ys]
end
instance : DecidableEq D := fun a b => if h : D.beq a b = true then .isTrue ((D.beq_iff a b).mp h) else .isFalse fun e => h ((D.beq_iff a b).mpr e)
mutual
/-- no cell is named within -/
def D.pure : D → Bool
  | .tup a => D.pures a
  | .lst a => D.pures a
  | .obj _ _ v => D.pures v
  | .exn _ _ v => D.pures v
  | .ref _ => false
  | _ => true
def D.pures : List D → Bool
  | [] => true
  | a :: as => D.pure a && D.pures as
end
mutual
/-- cells named within stand below n -/
def D.und (n : Nat) : D → Bool
  | .tup a => D.unds n a
  | .lst a => D.unds n a
  | .obj _ _ v => D.unds n v
  | .exn _ _ v => D.unds n v
  | .ref m => decide (m < n)
  | _ => true
def D.unds (n : Nat) : List D → Bool
  | [] => true
  | a :: as => D.und n a && D.unds n as
end
mutual
/-- as the library's data, where it is such -/
def D.py : D → Option PyData
  | .non => some .none
  | .bl b => some (.bool b)
  | .int i => some (.int i)
  | .str x => some (.str x)
  | .tup a => (D.pys a).map .tuple
  | .lst a => (D.pys a).map .list
  | _ => none
def D.pys : List D → Option (List PyData)
  | [] => some []
  | a :: as => match D.py a, D.pys as with
    | some d, some ds => some (d :: ds)
    | _, _ => none
end
/-- a cell -/
inductive Cell where
  | lst (xs : List D) | ins (c : Nat) (ks : List Nat) (vs : List D) | dead
  deriving DecidableEq
def Cell.pure : Cell → Bool
  | .lst xs => D.pures xs
  | .ins _ _ vs => D.pures vs
  | .dead => true
def Cell.und (n : Nat) : Cell → Bool
  | .lst xs => D.unds n xs
  | .ins _ _ vs => D.unds n vs
  | .dead => true
abbrev Store := List Cell
abbrev Env := List (Option D)
structure Exn where
  c : Nat
  ks : List Nat
  vs : List D
/-- an answer: a value, an exception, or nothing is said -/
inductive Rs (α : Type) where
  | ok (a : α) (M : Store) | ex (x : Exn) (M : Store) | no
def Rs.bind {α β : Type} (r : Rs α) (f : α → Store → Rs β) : Rs β := match r with
  | .ok a M => f a M
  | .ex x M => .ex x M
  | .no => .no
def Rs.of {α : Type} (o : Option α) (M : Store) : Rs α := match o with
  | some a => .ok a M
  | none => .no
/-! ### the program's form -/
inductive BOp where
  | add | sub | mul | mod | fdiv | pow
inductive COp where
  | eq | ne | lt | le | gt | ge | isIn | notIn | is_ | isNot
inductive Ty where
  | int | bool | str | tuple | list | own (c : Nat)
inductive Bi where
  | len | abs | int | min | max | all | any | tuple | list (r : Bool) | nset
inductive Bm where
  | append | pop | popAt | extend | insert | split | join | upper | index
inductive Tg where
  | n (i : Nat) | t2 (a b : Tg) | t3 (a b c : Tg)
inductive Src where
  | seq | rng | enum | zip
mutual
inductive E where
  | k (d : D) | v (i : Nat) | g (x : Nat)
  | tup (es : Es) | lst (r : Bool) (es : Es)
  | bin (o : BOp) (a b : E) | neg (a : E)
  | not (a : E) | and (es : Es) | or (es : Es)
  | cmp (o : COp) (a b : E) | cmp2 (o p : COp) (a b c : E)
  | ite (c a b : E)
  | ix (a i : E) | sl (a : E) (lo hi : Es) | rev (a : E)
  | call (f : Nat) (sh : Nat) (es ks : Es) | mk (c : Nat) (sh : Nat) (es ks : Es) | meth (m : Nat) (sh : Nat) (a : E) (es : Es)
  | bi (b : Bi) (es : Es) | bm (m : Bm) (a : E) (es : Es)
  | attr (a : E) (f : Nat) | isi (a : E) (ts : List Ty)
  | lc (r : Bool) (s : Src) (es : Es) (tg : Tg) (ifs : Es) (elt : E)
inductive Es where
  | nil | cons (e : E) (es : Es) | star (e : E) (es : Es)
end
mutual
inductive S where
  | set (tg : Tg) (e : E) | par (i j : Nat) (a b : E) | sub (o i e : E) | fld (o : E) (f : Nat) (e : E)
  | aug (i : Nat) (o : BOp) (e : E)
  | ex (e : E) | ret (z : Bool) (e : E) | retN
  | ite (c : E) (a b : Ss) | for_ (s : Src) (es : Es) (tg : Tg) (b : Ss) | while_ (n : Nat) (c : E) (b : Ss)
  | raise (c : Nat) (es : Es) | try_ (b : Ss) (hs : Hs)
  | pass | brk | cont
inductive Ss where
  | nil | cons (s : S) (ss : Ss)
inductive Hs where
  | nil | cons (c : Nat) (i : Option Nat) (b : Ss) (hs : Hs)
end
/-! ### operations on data -/
abbrev big : Nat := 16777216
def small (i : Int) : Bool := decide (-(2 ^ 64) < i) && decide (i < 2 ^ 64)
def lg (i : Int) : Nat := i.natAbs.log2
def binI (o : BOp) (i j : Int) : Option D := match o with
  | .add => some (.int (i + j))
  | .sub => some (.int (i - j))
  | .mul => if small i || small j || decide (lg i + lg j < 1000000) then some (.int (i * j)) else none
  | .mod => if 0 < j then some (.int (i % j)) else none
  | .fdiv => if 0 < j ∧ lg j < 9000 then some (.int (i / j)) else none
  | .pow => if 0 ≤ j ∧ ((lg i + 1 : Nat) : Int) * j ≤ 2 ^ 27 then some (.int (i ^ j.toNat)) else none
/-- the items of a list or tuple, or of a cell's list -/
def seqOf (M : Store) : D → Option (List D)
  | .tup xs => some xs
  | .lst xs => some xs
  | .scr ns => some (ns.map .int)
  | .ref n => match M[n]? with
    | some (.lst xs) => some xs
    | _ => none
  | _ => none
def bin (o : BOp) (M : Store) (a b : D) : Option D := match a, b with
  | .int i, .int j => binI o i j
  | .str x, .str y => match o with
    | .add => if x.length + y.length ≤ big then some (.str (x ++ y)) else none
    | _ => none
  | .tup xs, .tup ys => match o with
    | .add => if xs.length + ys.length ≤ big then some (.tup (xs ++ ys)) else none
    | _ => none
  | .tup xs, .int k => match o with
    | .mul => if 2 ≤ k ∧ k ≤ 1000 ∧ xs.length ≤ 1000 then some (.tup (List.replicate k.toNat xs).flatten) else none
    | _ => none
  | .lst xs, .lst ys => match o with
    | .add => if xs.length + ys.length ≤ big then some (.lst (xs ++ ys)) else none
    | _ => none
  | _, _ => none
def truth (M : Store) : D → Option Bool
  | .non => some false
  | .bl b => some b
  | .int i => some (i != 0)
  | .str x => if x.length ≤ big then some (x.length != 0) else none
  | .tup xs => some (!xs.isEmpty)
  | .lst xs => some (!xs.isEmpty)
  | .ref n => match M[n]? with
    | some (.lst xs) => some (!xs.isEmpty)
    | _ => none
  | _ => none
mutual
/-- a cell's list seen as a list -/
def D.see (M : Store) : Nat → D → D
  | 0, d => d
  | n + 1, .ref m => match M[m]? with
    | some (.lst xs) => .lst xs
    | _ => .ref m
  | _, d => d
end
def eqD (a b : D) : Option Bool := match D.py a, D.py b with
  | some x, some y => if SeqAt.shaped x && SeqAt.shaped y then some (PyData.eqv x y) else none
  | _, _ => none
def isNone : D → Bool
  | .non => true
  | _ => false
def inD (M : Store) (x y : D) : Option Bool := match x, y with
  | .str i, .str j => some (!(Builtin.Str.occurrences j i 0 j.length 1).isEmpty)
  | x, y => match seqOf M y with
    | some ys => match D.py x, D.pys ys with
      | some d, some ds => if SeqAt.shaped d && SeqAt.shaped (.list ds) then some (ds.any fun z => PyData.eqv z d) else none
      | _, _ => none
    | none => none
def cmp (o : COp) (M : Store) (a b : D) : Option D := match o with
  | .eq => (eqD (D.see M 1 a) (D.see M 1 b)).map .bl
  | .ne => (eqD (D.see M 1 a) (D.see M 1 b)).map fun c => .bl (!c)
  | .isIn => (inD M a b).map .bl
  | .notIn => (inD M a b).map fun c => .bl (!c)
  | .is_ => match b with
    | .non => some (.bl (isNone a))
    | .bl c => match a with
      | .bl d => some (.bl (c == d))
      | .int _ => some (.bl false)
      | .non => some (.bl false)
      | .str _ => some (.bl false)
      | _ => none
    | _ => none
  | .isNot => match b with
    | .non => some (.bl (!isNone a))
    | _ => none
  | _ => match a, b with
    | .int i, .int j => match o with
      | .lt => some (.bl (decide (i < j)))
      | .le => some (.bl (decide (i ≤ j)))
      | .gt => some (.bl (decide (j < i)))
      | .ge => some (.bl (decide (j ≤ i)))
      | _ => none
    | _, _ => none
def ixD (M : Store) (a i : D) : Option D := match i with
  | .int i => match a with
    | .str z => if z.length ≤ big then (L2.atI z.cps.toList i).map fun c => .str ⟨#[c]⟩ else none
    | a => match seqOf M a with
      | some xs => L2.atI xs i
      | none => none
  | _ => none
def cutD {α : Type} (xs : List α) (lo hi : Option Int) : List α := (xs.drop (HT.sIx xs.length 0 lo)).take (HT.sIx xs.length xs.length hi - HT.sIx xs.length 0 lo)
def slD (M : Store) (a : D) (lo hi : Option Int) : Option D := match a with
  | .str z => if z.length ≤ big then some (.str ⟨(cutD z.cps.toList lo hi).toArray⟩) else none
  | .tup xs => some (.tup (cutD xs lo hi))
  | .lst xs => some (.lst (cutD xs lo hi))
  | .ref n => match M[n]? with
    | some (.lst xs) => some (.lst (cutD xs lo hi))
    | _ => none
  | _ => none
def look {α : Type} (f : Nat) : List Nat → List α → Option α
  | k :: ks, v :: vs => if k = f then some v else look f ks vs
  | _, _ => none
def put {α : Type} (f : Nat) (x : α) : List Nat → List α → List Nat × List α
  | k :: ks, v :: vs => if k = f then (k :: ks, x :: vs) else let r := put f x ks vs; (k :: r.1, v :: r.2)
  | _, _ => ([f], [x])
def attrD (exk : Nat → Nat → Bool) (M : Store) (a : D) (f : Nat) : Option D := match a with
  | .obj _ ks vs => look f ks vs
  | .exn c ks vs => if exk c f then look f ks vs else none
  | .ref n => match M[n]? with
    | some (.ins _ ks vs) => look f ks vs
    | _ => none
  | _ => none
def clsD (M : Store) (a : D) : Option Nat := match a with
  | .obj c _ _ => some c
  | .ref n => match M[n]? with
    | some (.ins c _ _) => some c
    | _ => none
  | _ => none
def tyOwn (cok : Nat → Bool) (sub : Nat → Nat → Bool) (c : Nat) (t : Ty) : Option Bool := match t with
  | .own d => if cok c && cok d then some (sub c d) else none
  | _ => if cok c then some false else none
def tyBlt (cok : Nat → Bool) (t : Ty) (own : Bool) : Option Bool := match t with
  | .own d => if cok d then some false else none
  | _ => some own
def isiOne (cok : Nat → Bool) (sub : Nat → Nat → Bool) (M : Store) (a : D) (t : Ty) : Option Bool := match a with
  | .non => tyBlt cok t false
  | .bl _ => tyBlt cok t (match t with | .int => true | .bool => true | _ => false)
  | .int _ => tyBlt cok t (match t with | .int => true | _ => false)
  | .str _ => tyBlt cok t (match t with | .str => true | _ => false)
  | .tup _ => tyBlt cok t (match t with | .tuple => true | _ => false)
  | .lst _ => tyBlt cok t (match t with | .list => true | _ => false)
  | .scr _ => none
  | .obj c _ _ => tyOwn cok sub c t
  | .exn c _ _ => match t with
    | .own d => if cok c && cok d then some (sub c d) else none
    | _ => none
  | .ref n => match M[n]? with
    | some (.lst _) => tyBlt cok t (match t with | .list => true | _ => false)
    | some (.ins c _ _) => tyOwn cok sub c t
    | _ => none
def isiD (cok : Nat → Bool) (sub : Nat → Nat → Bool) (M : Store) (a : D) : List Ty → Option Bool
  | [] => some false
  | t :: ts => match isiOne cok sub M a t with
    | some true => some true
    | some false => isiD cok sub M a ts
    | none => none
def bools : List D → Option (List Bool)
  | [] => some []
  | .bl b :: xs => (bools xs).map (b :: ·)
  | _ => none
def txts : List D → Option (List Str)
  | [] => some []
  | .str b :: xs => (txts xs).map (b :: ·)
  | _ => none
/-- a new list: a cell, or a tree -/
def newL (r : Bool) (xs : List D) (M : Store) : Rs D := if r then .ok (.ref M.length) (M ++ [.lst xs]) else .ok (.lst xs) M
def lenD (M : Store) : List D → Rs D
  | [.str z] => if z.length ≤ big then .ok (.int z.length) M else .no
  | [d] => match seqOf M d with
    | some xs => .ok (.int xs.length) M
    | none => .no
  | _ => .no
def absD (M : Store) : List D → Rs D
  | [.int i] => .ok (.int (if i < 0 then -i else i)) M
  | _ => .no
def intD (M : Store) : List D → Rs D
  | [.int i] => .ok (.int i) M
  | [.bl b] => .ok (.int (if b then 1 else 0)) M
  | _ => .no
def minD (M : Store) : List D → Rs D
  | [.int i, .int j] => .ok (.int (if j < i then j else i)) M
  | _ => .no
def maxD (M : Store) : List D → Rs D
  | [.int i, .int j] => .ok (.int (if j > i then j else i)) M
  | _ => .no
def allD (M : Store) : List D → Rs D
  | [.lst xs] => match bools xs with
    | some bs => .ok (.bl (bs.all id)) M
    | none => .no
  | _ => .no
def anyD (M : Store) : List D → Rs D
  | [.lst xs] => match bools xs with
    | some bs => .ok (.bl (bs.any id)) M
    | none => .no
  | _ => .no
def tupleD (M : Store) : List D → Rs D
  | [d] => match seqOf M d with
    | some xs => .ok (.tup xs) M
    | none => .no
  | _ => .no
def listD (r : Bool) (M : Store) : List D → Rs D
  | [d] => match seqOf M d with
    | some xs => newL r xs M
    | none => .no
  | _ => .no
def biD (b : Bi) (M : Store) (ds : List D) : Rs D := match b with
  | .len => lenD M ds
  | .abs => absD M ds
  | .int => intD M ds
  | .min => minD M ds
  | .max => maxD M ds
  | .all => allD M ds
  | .any => anyD M ds
  | .tuple => tupleD M ds
  | .list r => listD r M ds
  | .nset => .no
def appendD (M : Store) (o : D) (ds : List D) : Rs D := match o, ds with
  | .ref n, [d] => match M[n]? with
    | some (.lst xs) => if xs.length < big then .ok .non (M.set n (.lst (xs ++ [d]))) else .no
    | _ => .no
  | _, _ => .no
def popD (M : Store) (o : D) (ds : List D) : Rs D := match o, ds with
  | .ref n, [] => match M[n]? with
    | some (.lst xs) => match xs[xs.length - 1]? with
      | some y => .ok y (M.set n (.lst xs.dropLast))
      | none => .no
    | _ => .no
  | _, _ => .no
def popAtD (M : Store) (o : D) (ds : List D) : Rs D := match o, ds with
  | .ref n, [.int i] => match M[n]? with
    | some (.lst xs) => if 0 ≤ i ∧ i < xs.length then match xs[i.toNat]? with
      | some y => .ok y (M.set n (.lst (xs.eraseIdx i.toNat)))
      | none => .no else .no
    | _ => .no
  | _, _ => .no
def extendD (M : Store) (o : D) (ds : List D) : Rs D := match o, ds with
  | .ref n, [.lst ys] => match M[n]? with
    | some (.lst xs) => if xs.length + ys.length ≤ big then .ok .non (M.set n (.lst (xs ++ ys))) else .no
    | _ => .no
  | _, _ => .no
def joinD (M : Store) (o : D) (ds : List D) : Rs D := match o, ds with
  | .str s, [.lst xs] => match txts xs with
    | some ys => if (ys.map (·.length)).sum + ys.length * s.length ≤ big then .ok (.str (Txt.join s ys)) M else .no
    | none => .no
  | _, _ => .no
def splitD (M : Store) (o : D) (ds : List D) : Rs D := match o, ds with
  | .str s, [.str p] => if (p.length == 0) = false ∧ s.length + 2 ≤ big ∧ (Txt.split s p).length ≤ big then .ok (.lst ((Txt.split s p).map .str)) M else .no
  | _, _ => .no
def upperD (M : Store) (o : D) (ds : List D) : Rs D := match o, ds with
  | .str s, [] => if s.length ≤ 5592405 then .ok (.str (Txt.upper s)) M else .no
  | _, _ => .no
def bmD (m : Bm) (M : Store) (o : D) (ds : List D) : Rs D := match m with
  | .append => appendD M o ds
  | .pop => popD M o ds
  | .popAt => popAtD M o ds
  | .extend => extendD M o ds
  | .join => joinD M o ds
  | .split => splitD M o ds
  | .upper => upperD M o ds
  | _ => .no
def recvOk (m : Bm) (M : Store) (x : D) : Bool := match m, x with
  | .join, .str _ => true
  | .split, .str _ => true
  | .upper, .str _ => true
  | .join, _ => false
  | .split, _ => false
  | .upper, _ => false
  | _, .ref n => match M[n]? with
    | some (.lst _) => true
    | _ => false
  | _, _ => false
def bindT : Tg → D → Env → Option Env
  | .n i, d, ρ => if i < ρ.length then some (ρ.set i (some d)) else none
  | .t2 a b, .tup [x, y], ρ => (bindT a x ρ).bind (bindT b y)
  | .t3 a b c, .tup [x, y, z], ρ => ((bindT a x ρ).bind (bindT b y)).bind (bindT c z)
  | _, _, _ => none
def slots : Tg → List Nat
  | .n i => [i]
  | .t2 a b => slots a ++ slots b
  | .t3 a b c => slots a ++ (slots b ++ slots c)
/-- what is walked -/
def itemsOf (s : Src) (M : Store) (ds : List D) : Option (List D) := match s, ds with
  | .seq, [.str z] => if z.length ≤ big then some (z.cps.toList.map fun c => .str ⟨#[c]⟩) else none
  | .seq, [.tup xs] => some xs
  | .seq, [.lst xs] => some xs
  | .rng, [.int n] => if n ≤ big ∧ -(2 ^ 62) ≤ n then some ((List.range n.toNat).map fun i => .int (i : Nat)) else none
  | .rng, [.int a, .int b] => if -(2 ^ 62) ≤ a ∧ b - a ≤ big ∧ b < 2 ^ 62 ∧ a < 2 ^ 62 ∧ -(2 ^ 62) ≤ b then some ((List.range (b - a).toNat).map fun i => .int (a + (i : Nat))) else none
  | .enum, [.lst xs] => some (xs.zipIdx.map fun p => .tup [.int (p.2 : Nat), p.1])
  | .zip, [.lst xs, .lst ys] => some ((xs.zip ys).map fun p => .tup [p.1, p.2])
  | .zip, [.tup xs, .tup ys] => some ((xs.zip ys).map fun p => .tup [p.1, p.2])
  | _, _ => none
/-- how the arguments come to the parameters -/
inductive Sel where
  | a (i : Nat) | d (v : D) | rest (i : Nat)
def sel (ds : List D) : List Sel → Option (List D)
  | [] => some []
  | .a i :: r => match ds[i]?, sel ds r with
    | some x, some xs => some (x :: xs)
    | _, _ => none
  | .d v :: r => (sel ds r).map (v :: ·)
  | .rest i :: r => (sel ds r).map (.tup (ds.drop i) :: ·)
/-- a call's form: so many by place, so many by name -/
structure Shp where
  n : Nat
  m : Nat
  sl : List Sel
/-! ### evaluation -/
structure Cfg where
  call : Nat → List D → Store → Rs D
  glob : Nat → Option D
  meth : Nat → Nat → Option Nat
  ini : Nat → Option Nat
  frz : Nat → Bool
  shp : Nat → Shp
  sub : Nat → Nat → Bool
  exf : Nat → List Nat
  eqm : Nat → Option Nat
  fok : Nat → Nat → Bool
  cok : Nat → Bool
  exk : Nat → Nat → Bool
  xok : Nat → Bool
/-- within an except suite no def is called -/
def Cfg.cold (C : Cfg) : Cfg := { C with call := fun _ _ _ => .no, meth := fun _ _ => none, ini := fun _ => none, eqm := fun _ => none }
def tru (C : Cfg) (d : D) (M : Store) : Rs Bool := Rs.of (truth M d) M
def callG (C : Cfg) (f sh : Nat) (ds : List D) (M : Store) : Rs D := match sel ds (C.shp sh).sl with
  | some vs => C.call f vs M
  | none => .no
def wipeE (ρ : Env) : List Nat → Env
  | [] => ρ
  | v :: vs => (wipeE ρ vs).set v none
/-- a comprehension's turns -/
def lcL (C : Cfg) (tg : Tg) (f : Env → Store → Rs (Option D)) : List D → Env → Store → List D → Rs (List D)
  | [], _, M, acc => .ok acc M
  | x :: xs, ρ, M, acc => match bindT tg x (wipeE ρ (slots tg)) with
    | none => .no
    | some ρ' => match f ρ' M with
      | .ok (some d) M' => lcL C tg f xs ρ M' (acc ++ [d])
      | .ok none M' => lcL C tg f xs ρ M' acc
      | _ => .no
/-- a cell that no longer changes becomes a tree -/
def freeze (d : D) (M : Store) : Rs D := match d with
  | .ref n => match M[n]? with
    | some (.lst xs) => .ok (.lst xs) (M.set n .dead)
    | some (.ins c ks vs) => .ok (.obj c ks vs) (M.set n .dead)
    | _ => .no
  | d => .ok d M
/-- what was made within a call and is not handed on is forgotten -/
def gcOk (M M' : Store) : Bool := decide (M.length ≤ M'.length) && ((M.zip M').all fun p => decide (p.1 = p.2) || p.2.pure)
def gc (M : Store) (r : Rs D) : Rs D := match r with
  | .ok d M' => if d.und M.length && gcOk M M' then .ok d (M'.take M.length) else .ok d M'
  | .ex x M' => if D.unds M.length x.vs && gcOk M M' then .ex x (M'.take M.length) else .ex x M'
  | .no => .no
/-- C(..): a new cell, __init__, then a tree if objects of this class never change -/
def make (C : Cfg) (c sh : Nat) (ds : List D) (M : Store) : Rs D := match C.ini c with
  | none => .no
  | some f => gc M (match callG C f sh (.ref M.length :: ds) (M ++ [.ins c [] []]) with
      | .ok .non M' => if C.frz c then freeze (.ref M.length) M' else .ok (.ref M.length) M'
      | .ex x M' => .ex x M'
      | _ => .no)
/-- a value whose type is known -/
def eqTy (C : Cfg) (M : Store) (y : D) : Bool := match y with
  | .exn _ _ _ => false
  | .ref n => match M[n]? with
    | some (.lst _) => true
    | some (.ins c _ _) => C.cok c
    | _ => false
  | .obj c _ _ => C.cok c
  | _ => true
/-- the right one's class is no heir's -/
def eqOk (C : Cfg) (M : Store) (c : Nat) (y : D) : Bool := C.cok c && (eqTy C M y && match clsD M y with
  | some c' => c' == c || !C.sub c' c
  | none => true)
def cmpR (C : Cfg) (o : COp) (x y : D) (M : Store) : Rs D := match o, clsD M x with
  | .eq, some c => match C.eqm c with
    | some f => if eqOk C M c y then match C.call f [x, y] M with
      | .ok (.bl b) M1 => .ok (.bl b) M1
      | _ => .no else .no
    | none => .no
  | .ne, some _ => .no
  | _, _ => Rs.of (cmp o M x y) M
mutual
def ev (C : Cfg) : E → Env → Store → Rs D
  | .k d, _, M => .ok d M
  | .v i, ρ, M => match ρ[i]? with
    | some (some d) => .ok d M
    | _ => .no
  | .g x, _, M => Rs.of (C.glob x) M
  | .tup es, ρ, M => (evs C es ρ M).bind fun ds M' => if ds.length ≤ big then .ok (.tup ds) M' else .no
  | .lst r es, ρ, M => (evs C es ρ M).bind fun ds M' => if ds.length ≤ big then newL r ds M' else .no
  | .bin o a b, ρ, M => (ev C a ρ M).bind fun x M1 => (ev C b ρ M1).bind fun y M2 => Rs.of (bin o M2 x y) M2
  | .neg a, ρ, M => (ev C a ρ M).bind fun x M1 => match x with
    | .int i => .ok (.int (-i)) M1
    | _ => .no
  | .not a, ρ, M => ((ev C a ρ M).bind (tru C)).bind fun b M1 => .ok (.bl (!b)) M1
  | .and es, ρ, M => evAnd C es ρ M
  | .or es, ρ, M => evOr C es ρ M
  | .cmp o a b, ρ, M => (ev C a ρ M).bind fun x M1 => (ev C b ρ M1).bind fun y M2 => cmpR C o x y M2
  | .cmp2 o p a b c, ρ, M => (ev C a ρ M).bind fun x M1 => (ev C b ρ M1).bind fun y M2 => (cmpR C o x y M2).bind fun z M3 => match z with
    | .bl true => (ev C c ρ M3).bind fun w M4 => cmpR C p y w M4
    | .bl false => .ok (.bl false) M3
    | _ => .no
  | .ite c a b, ρ, M => ((ev C c ρ M).bind (tru C)).bind fun t M1 => if t then ev C a ρ M1 else ev C b ρ M1
  | .ix a i, ρ, M => (ev C a ρ M).bind fun x M1 => (ev C i ρ M1).bind fun y M2 => Rs.of (ixD M2 x y) M2
  | .sl a lo hi, ρ, M => (ev C a ρ M).bind fun x M1 => (evO C lo ρ M1).bind fun l M2 => (evO C hi ρ M2).bind fun h M3 => Rs.of (slD M3 x l h) M3
  | .rev a, ρ, M => (ev C a ρ M).bind fun x M1 => match x with
    | .tup xs => .ok (.tup xs.reverse) M1
    | .lst xs => .ok (.lst xs.reverse) M1
    | _ => .no
  | .call f sh es ks, ρ, M => (evs C es ρ M).bind fun ds M1 => (evs C ks ρ M1).bind fun zs M2 => if ds.length = (C.shp sh).n ∧ zs.length = (C.shp sh).m then callG C f sh (ds ++ zs) M2 else .no
  | .mk c sh es ks, ρ, M => (evs C es ρ M).bind fun ds M1 => (evs C ks ρ M1).bind fun zs M2 => if ds.length + 1 = (C.shp sh).n ∧ zs.length = (C.shp sh).m then make C c sh (ds ++ zs) M2 else .no
  | .meth m sh a es, ρ, M => (ev C a ρ M).bind fun x M1 => match (clsD M1 x).bind fun c => C.meth c m with
    | some f => (evs C es ρ M1).bind fun ds M2 => if ds.length + 1 = (C.shp sh).n ∧ (C.shp sh).m = 0 then callG C f sh (x :: ds) M2 else .no
    | none => .no
  | .bi b es, ρ, M => (evs C es ρ M).bind fun ds M1 => biD b M1 ds
  | .bm m a es, ρ, M => (ev C a ρ M).bind fun x M1 => if recvOk m M1 x then (evs C es ρ M1).bind fun ds M2 => bmD m M2 x ds else .no
  | .attr a f, ρ, M => (ev C a ρ M).bind fun x M1 => Rs.of (attrD C.exk M1 x f) M1
  | .isi a ts, ρ, M => (ev C a ρ M).bind fun x M1 => Rs.of ((isiD C.cok C.sub M1 x ts).map .bl) M1
  | .lc r s es tg ifs elt, ρ, M => (evs C es ρ M).bind fun ds M1 => match itemsOf s M1 ds with
    | some xs => (lcL C tg (fun ρ' M' => (evIfs C ifs ρ' M').bind fun b M2 => if b then (ev C elt ρ' M2).bind fun d M3 => .ok (some d) M3 else .ok none M2) xs ρ M1 []).bind fun ys M2 => newL r ys M2
    | none => .no
def evs (C : Cfg) : Es → Env → Store → Rs (List D)
  | .nil, _, M => .ok [] M
  | .cons e es, ρ, M => (ev C e ρ M).bind fun d M1 => (evs C es ρ M1).bind fun ds M2 => .ok (d :: ds) M2
  | .star e es, ρ, M => (ev C e ρ M).bind fun d M1 => match seqOf M1 d with
    | some xs => (evs C es ρ M1).bind fun ds M2 => .ok (xs ++ ds) M2
    | none => .no
def evAnd (C : Cfg) : Es → Env → Store → Rs D
  | .cons e .nil, ρ, M => ev C e ρ M
  | .cons e es, ρ, M => (ev C e ρ M).bind fun d M1 => match truth M1 d with
    | some true => evAnd C es ρ M1
    | some false => .ok d M1
    | none => .no
  | _, _, _ => .no
def evOr (C : Cfg) : Es → Env → Store → Rs D
  | .cons e .nil, ρ, M => ev C e ρ M
  | .cons e es, ρ, M => (ev C e ρ M).bind fun d M1 => match truth M1 d with
    | some false => evOr C es ρ M1
    | some true => .ok d M1
    | none => .no
  | _, _, _ => .no
/-- a part of a slice -/
def evO (C : Cfg) : Es → Env → Store → Rs (Option Int)
  | .nil, _, M => .ok none M
  | .cons e .nil, ρ, M => (ev C e ρ M).bind fun d M1 => match d with
    | .int i => .ok (some i) M1
    | _ => .no
  | _, _, _ => .no
def evIfs (C : Cfg) : Es → Env → Store → Rs Bool
  | .nil, _, M => .ok true M
  | .cons e .nil, ρ, M => (ev C e ρ M).bind (tru C)
  | _, _, _ => .no
end
/-- as a test -/
def evT (C : Cfg) (e : E) (ρ : Env) (M : Store) : Rs Bool := (ev C e ρ M).bind (tru C)
/-! ### statements -/
inductive Fl where
  | nx (ρ : Env) (M : Store) | rt (d : D) (M : Store) | bk (ρ : Env) (M : Store) | ct (ρ : Env) (M : Store) | ex (x : Exn) (ρ : Env) (M : Store) | no
def Rs.fl {α : Type} (r : Rs α) (ρ : Env) (f : α → Store → Fl) : Fl := match r with
  | .ok a M => f a M
  | .ex x M => .ex x ρ M
  | .no => .no
def Fl.seq (r : Fl) (f : Env → Store → Fl) : Fl := match r with
  | .nx ρ M => f ρ M
  | r => r
def forL (tg : Tg) (f : Env → Store → Fl) : List D → Env → Store → Fl
  | [], ρ, M => .nx ρ M
  | x :: xs, ρ, M => match bindT tg x ρ with
    | none => .no
    | some ρ' => match f ρ' M with
      | .nx ρ1 M1 => forL tg f xs ρ1 M1
      | .ct ρ1 M1 => forL tg f xs ρ1 M1
      | .bk ρ1 M1 => .nx ρ1 M1
      | r => r
/-- over a cell's list, as it stands at each turn -/
def forC (tg : Tg) (f : Env → Store → Fl) (n : Nat) : Nat → Nat → Env → Store → Fl
  | 0, _, _, _ => .no
  | k + 1, i, ρ, M => match M[n]? with
    | some (.lst xs) => match xs[i]? with
      | none => .nx ρ M
      | some x => match bindT tg x ρ with
        | none => .no
        | some ρ' => match f ρ' M with
          | .nx ρ1 M1 => forC tg f n k (i + 1) ρ1 M1
          | .ct ρ1 M1 => forC tg f n k (i + 1) ρ1 M1
          | .bk ρ1 M1 => .nx ρ1 M1
          | r => r
    | _ => .no
def whileL (c : Env → Store → Rs Bool) (f : Env → Store → Fl) : Nat → Env → Store → Fl
  | 0, _, _ => .no
  | k + 1, ρ, M => (c ρ M).fl ρ fun b M1 => if b then match f ρ M1 with
      | .nx ρ1 M2 => whileL c f k ρ1 M2
      | .ct ρ1 M2 => whileL c f k ρ1 M2
      | .bk ρ1 M2 => .nx ρ1 M2
      | r => r else .nx ρ M1
def setD (M : Store) (o i d : D) : Option Store := match o, i with
  | .ref n, .int i => match M[n]? with
    | some (.lst xs) => match L2.ixN xs.length i with
      | some j => some (M.set n (.lst (xs.set j d)))
      | none => none
    | _ => none
  | _, _ => none
def fldD (fok : Nat → Nat → Bool) (M : Store) (o : D) (f : Nat) (d : D) : Option Store := match o with
  | .ref n => match M[n]? with
    | some (.ins c ks vs) => if ks.length < 1000 ∧ fok c f = true then some (M.set n (.ins c (put f d ks vs).1 (put f d ks vs).2)) else none
    | _ => none
  | _ => none
mutual
/-- no exception within -/
def D.nox : D → Bool
  | .tup a => D.noxs a
  | .lst a => D.noxs a
  | .obj _ _ v => D.noxs v
  | .exn _ _ _ => false
  | _ => true
def D.noxs : List D → Bool
  | [] => true
  | a :: as => D.nox a && D.noxs as
end
def Cell.nox : Cell → Bool
  | .lst xs => D.noxs xs
  | .ins _ _ vs => D.noxs vs
  | .dead => true
def envX : Env → Env → Bool
  | a :: as, b :: bs => (decide (a = b) || (match b with
    | some d => d.nox
    | none => true)) && envX as bs
  | [], [] => true
  | _, _ => false
/-- the store behind a suite: as it was, or without exceptions -/
def stX : Store → Store → Bool
  | a :: as, b :: bs => (decide (a = b) || b.nox) && stX as bs
  | [], bs => bs.all Cell.nox
  | _, _ => false
def inX (ρ : Env) (i : Option Nat) (x : Exn) : Env := match i with
  | none => ρ
  | some i => ρ.set i (some (.exn x.c x.ks x.vs))
def unX (ρ : Env) (i : Option Nat) : Env := match i with
  | none => ρ
  | some i => ρ.set i none
def outX (ρ : Env) (M : Store) (i : Option Nat) (r : Fl) : Fl := match r with
  | .nx ρ1 M1 => if envX (unX ρ i) (unX ρ1 i) && stX M M1 then .nx (unX ρ1 i) M1 else .no
  | .rt d M1 => if d.nox && stX M M1 then .rt d M1 else .no
  | _ => .no
mutual
def sx : Cfg → S → Env → Store → Fl
  | C, .set tg e, ρ, M => (ev C e ρ M).fl ρ fun d M1 => match bindT tg d ρ with
    | some ρ' => .nx ρ' M1
    | none => .no
  | C, .par i j a b, ρ, M => (ev C a ρ M).fl ρ fun x M1 => (ev C b ρ M1).fl ρ fun y M2 => if i < ρ.length ∧ j < ρ.length ∧ i ≠ j then .nx ((ρ.set i (some x)).set j (some y)) M2 else .no
  | C, .sub o i e, ρ, M => (ev C e ρ M).fl ρ fun d M1 => (ev C o ρ M1).fl ρ fun x M2 => (ev C i ρ M2).fl ρ fun y M3 => match setD M3 x y d with
    | some M4 => .nx ρ M4
    | none => .no
  | C, .fld o f e, ρ, M => (ev C e ρ M).fl ρ fun d M1 => (ev C o ρ M1).fl ρ fun x M2 => match fldD C.fok M2 x f d with
    | some M3 => .nx ρ M3
    | none => .no
  | C, .aug i o e, ρ, M => match ρ[i]? with
    | some (some x) => (ev C e ρ M).fl ρ fun y M1 => match x, y with
      | .int a, .int b => match o with
        | .add => .nx (ρ.set i (some (.int (a + b)))) M1
        | .sub => .nx (ρ.set i (some (.int (a - b)))) M1
        | _ => .no
      | _, _ => .no
    | _ => .no
  | C, .ex e, ρ, M => (ev C e ρ M).fl ρ fun _ M1 => .nx ρ M1
  | C, .ret z e, ρ, M => (ev C e ρ M).fl ρ fun d M1 => if z then (freeze d M1).fl ρ fun d' M2 => .rt d' M2 else .rt d M1
  | C, .retN, _, M => .rt .non M
  | C, .ite c a b, ρ, M => (evT C c ρ M).fl ρ fun t M1 => if t then sxs C a ρ M1 else sxs C b ρ M1
  | C, .for_ s es tg b, ρ, M => (evs C es ρ M).fl ρ fun ds M1 => match s, ds with
    | .seq, [.ref n] => match M1[n]? with
      | some (.lst xs) => forC tg (fun ρ' M' => sxs C b ρ' M') n (xs.length + 1) 0 ρ M1
      | _ => .no
    | _, _ => match itemsOf s M1 ds with
      | some xs => forL tg (fun ρ' M' => sxs C b ρ' M') xs ρ M1
      | none => .no
  | C, .while_ n c b, ρ, M => whileL (fun ρ' M' => evT C c ρ' M') (fun ρ' M' => sxs C b ρ' M') n ρ M
  | C, .raise c es, ρ, M => (evs C es ρ M).fl ρ fun ds M1 => if (C.exf c).length = ds.length then .ex ⟨c, C.exf c, ds⟩ ρ M1 else .no
  | C, .try_ b hs, ρ, M => match sxs C b ρ M with
    | .ex x ρ1 M1 => hx C hs x ρ1 M1
    | r => r
  | C, .pass, ρ, M => .nx ρ M
  | C, .brk, ρ, M => .bk ρ M
  | C, .cont, ρ, M => .ct ρ M
def sxs : Cfg → Ss → Env → Store → Fl
  | C, .nil, ρ, M => .nx ρ M
  | C, .cons s ss, ρ, M => (sx C s ρ M).seq fun ρ1 M1 => sxs C ss ρ1 M1
/-- an exception meets the clauses -/
def hx : Cfg → Hs → Exn → Env → Store → Fl
  | _, .nil, x, ρ, M => .ex x ρ M
  | C, .cons c i b hs, x, ρ, M => if C.xok x.c && C.xok c then
      (if C.sub x.c c then outX ρ M i (sxs C.cold b (inX ρ i x) M) else hx C hs x ρ M)
    else .no
end
/-! ### calls -/
structure Fn where
  np : Nat
  ns : Nat
  body : Ss
structure Prg where
  fn : Nat → Option Fn
  cfg : (Nat → List D → Store → Rs D) → Cfg
def fin (M : Store) (r : Fl) : Rs D := gc M (match r with
  | .nx _ M' => .ok .non M'
  | .rt d M' => .ok d M'
  | .ex x _ M' => .ex x M'
  | _ => .no)
def env0 (n : Nat) (ds : List D) : Env := ds.map some ++ List.replicate (n - ds.length) none
def run (P : Prg) : Nat → Nat → List D → Store → Rs D
  | 0, _, _, _ => .no
  | k + 1, f, ds, M => match P.fn f with
    | none => .no
    | some F => if ds.length = F.np ∧ F.np ≤ F.ns then fin M (sxs (P.cfg (run P k)) F.body (env0 F.ns ds) M) else .no
end Dv
/-! Worlds: how data stand in the layer's heap. -/
namespace Dv
open PySem PySem.Spec PyProof.Rows L2
/-- what does not change through the law: the written part, the classes, the names of attributes -/
structure Stat where
  K : PySem.W.Frag
  cls : Nat → Addr
  atn : Nat → Str
/-- a plain class of the text -/
structure ClsOk (T : Stat) (c : Nat) : Prop where
  cl : Cls T.K (T.cls c)
  ha : PySem.W.findIn T.K (.ref (T.cls c)) "__class__" = some (some (.builtin "object.__class__"))
  hn : PySem.W.specialIn T.K (.builtin "object.__class__") "__get__" = some (some (.builtin "getset_descriptor.__get__"))
  htk : PySem.W.takesIn T.K (.builtin "object.__class__") = some true
  hm : PySem.W.mroIn T.K (T.cls c) (.type "object") = some true
/-- the attributes of its objects -/
structure KsOk (T : Stat) (c : Nat) (ks : List Nat) : Prop where
  co : ClsOk T c
  na : ∀ k ∈ ks, NoAttr T.K (T.cls c) (T.atn k)
/-- what is frozen, where the cells stand -/
structure Wd where
  hF : Hp
  io : Nat → Addr
  xa : Option (Addr × Value × Option Addr)
  fr : Hp
def names (T : Stat) (ks : List Nat) (vs : List V) : List (Str × V) := (ks.map T.atn).zip vs
/-- the own dict of an exception -/
def XD (T : Stat) (hF : Hp) (dd : Option Addr) (ks : List Nat) (vs : List V) : Prop := ks.length = vs.length ∧ ((dd = none ∧ ks = []) ∨ ∃ dx, dd = some dx ∧ hF dx = some (.xd (names T ks vs)))
mutual
def Rep (T : Stat) (W : Wd) : D → V → Prop
  | .non, v => v = .non
  | .bl b, v => v = .bl b
  | .int i, v => v = .int i
  | .str x, v => v = .str x
  | .tup ds, v => ∃ a vs, v = .ref a ∧ SqT T.K W.hF a vs ∧ vs.length ≤ sizeLine ∧ Reps T W ds vs
  | .lst ds, v => ∃ a vs, v = .ref a ∧ W.hF a = some (.lst vs) ∧ vs.length ≤ sizeLine ∧ Reps T W ds vs
  | .obj c ks ds, v => ∃ a dx vs, v = .ref a ∧ W.hF a = some (.ins (T.cls c) dx (names T ks vs)) ∧ (ks.length = vs.length ∧ KsOk T c ks) ∧ Reps T W ds vs
  | .exn c ks ds, v => ∃ a dd vs, v = .ref a ∧ W.xa = some (a, .ref (T.cls c), dd) ∧ XD T W.hF dd ks vs ∧ Reps T W ds vs
  | .ref n, v => v = .ref (W.io n)
  | .scr ns, v => ∃ a, v = .ref a ∧ SqL T.K W.hF a (ns.map V.int) ∧ ns.length ≤ sizeLine
def Reps (T : Stat) (W : Wd) : List D → List V → Prop
  | [], vs => vs = []
  | d :: ds, vs => ∃ v r, vs = v :: r ∧ Rep T W d v ∧ Reps T W ds r
end
/-- a later world, where the cells below n are the same -/
structure Le (n : Nat) (W W' : Wd) : Prop where
  fz : ∀ a o, W.hF a = some o → W'.hF a = some o
  io : ∀ i, i < n → W'.io i = W.io i
  xa : W'.xa = W.xa
  fr : W'.fr = W.fr
theorem Le.rfl {n : Nat} {W : Wd} : Le n W W := ⟨fun _ _ h => h, fun _ _ => Eq.refl _, Eq.refl _, Eq.refl _⟩
theorem Le.trans {n m : Nat} {W W1 W2 : Wd} (a : Le n W W1) (b : Le m W1 W2) (h : n ≤ m) : Le n W W2 := ⟨fun c o e => b.fz c o (a.fz c o e), fun i hi => (b.io i (Nat.lt_of_lt_of_le hi h)).trans (a.io i hi), b.xa.trans a.xa, b.fr.trans a.fr⟩
theorem Rd.le {n : Nat} {W W' : Wd} {a : Addr} {u : HO} (l : Le n W W') (h : Rd W.hF a u) : Rd W'.hF a u := by
  rcases h with h | ⟨o, h⟩
  · exact .inl (l.fz _ _ h)
  · exact .inr ⟨o, l.fz _ _ h⟩
theorem SqT.le {n : Nat} {K : PySem.W.Frag} {W W' : Wd} {a : Addr} {vs : List V} (l : Le n W W') (h : SqT K W.hF a vs) : SqT K W'.hF a vs := by
  rcases h with h | h
  · exact .inl (Rd.le l h)
  · exact .inr h
theorem XD.le {T : Stat} {n : Nat} {W W' : Wd} {dd : Option Addr} {ks : List Nat} {vs : List V} (l : Le n W W') (h : XD T W.hF dd ks vs) : XD T W'.hF dd ks vs := by
  refine ⟨h.1, ?_⟩
  rcases h.2 with h | ⟨dx, e, h⟩
  · exact .inl h
  · exact .inr ⟨dx, e, l.fz _ _ h⟩
theorem SqL.le {n : Nat} {K : PySem.W.Frag} {W W' : Wd} {a : Addr} {vs : List V} (l : Le n W W') (h : SqL K W.hF a vs) : SqL K W'.hF a vs := by
  rcases h with h | h
  · exact .inl (Rd.le l h)
  · exact .inr h
mutual
theorem Rep.le {T : Stat} {n : Nat} {W W' : Wd} (l : Le n W W') : ∀ (d : D) (v : V), d.und n = true → Rep T W d v → Rep T W' d v
  | .non, _, _, h => h
  | .bl _, _, _, h => h
  | .int _, _, _, h => h
  | .str _, _, _, h => h
  | .tup ds, _, u, h => by
    obtain ⟨a, vs, e, h1, h2, h3⟩ := h
    exact ⟨a, vs, e, SqT.le l h1, h2, Reps.le l ds vs (by simpa [D.und] using u) h3⟩
  | .lst ds, _, u, h => by
    obtain ⟨a, vs, e, h1, h2, h3⟩ := h
    exact ⟨a, vs, e, l.fz _ _ h1, h2, Reps.le l ds vs (by simpa [D.und] using u) h3⟩
  | .obj c ks ds, _, u, h => by
    obtain ⟨a, dx, vs, e, h1, h2, h3⟩ := h
    exact ⟨a, dx, vs, e, l.fz _ _ h1, h2, Reps.le l ds vs (by simpa [D.und] using u) h3⟩
  | .exn c ks ds, _, u, h => by
    obtain ⟨a, dd, vs, e, h1, h2, h3⟩ := h
    exact ⟨a, dd, vs, e, l.xa.trans h1, XD.le l h2, Reps.le l ds vs (by simpa [D.und] using u) h3⟩
  | .ref m, _, u, h => by
    have hm : m < n := by simpa [D.und] using u
    rw [Rep, l.io m hm]
    exact h
  | .scr ns, _, _, h => by
    obtain ⟨a, e, h1, h2⟩ := h
    exact ⟨a, e, SqL.le l h1, h2⟩
theorem Reps.le {T : Stat} {n : Nat} {W W' : Wd} (l : Le n W W') : ∀ (ds : List D) (vs : List V), D.unds n ds = true → Reps T W ds vs → Reps T W' ds vs
  | [], _, _, h => h
  | d :: ds, _, u, h => by
    obtain ⟨v, r, e, h1, h2⟩ := h
    have u' : d.und n = true ∧ D.unds n ds = true := by simpa [D.unds] using u
    exact ⟨v, r, e, Rep.le l d v u'.1 h1, Reps.le l ds r u'.2 h2⟩
end
mutual
theorem D.und_le {n m : Nat} (h : n ≤ m) : ∀ d : D, d.und n = true → d.und m = true
  | .non, _ => Eq.refl _
  | .bl _, _ => Eq.refl _
  | .int _, _ => Eq.refl _
  | .str _, _ => Eq.refl _
  | .scr _, _ => Eq.refl _
  | .tup ds, u => by simp only [D.und] at u ⊢; exact D.unds_le h ds u
  | .lst ds, u => by simp only [D.und] at u ⊢; exact D.unds_le h ds u
  | .obj _ _ ds, u => by simp only [D.und] at u ⊢; exact D.unds_le h ds u
  | .exn _ _ ds, u => by simp only [D.und] at u ⊢; exact D.unds_le h ds u
  | .ref k, u => by
    simp only [D.und, decide_eq_true_eq] at u ⊢
    omega
theorem D.unds_le {n m : Nat} (h : n ≤ m) : ∀ ds : List D, D.unds n ds = true → D.unds m ds = true
  | [], _ => Eq.refl _
  | d :: ds, u => by
    simp only [D.unds, Bool.and_eq_true] at u ⊢
    exact ⟨D.und_le h d u.1, D.unds_le h ds u.2⟩
end
mutual
theorem D.und_pure {n : Nat} : ∀ d : D, d.pure = true → d.und n = true
  | .non, _ => Eq.refl _
  | .bl _, _ => Eq.refl _
  | .int _, _ => Eq.refl _
  | .str _, _ => Eq.refl _
  | .scr _, _ => Eq.refl _
  | .tup ds, u => by simp only [D.und, D.pure] at u ⊢; exact D.unds_pure ds u
  | .lst ds, u => by simp only [D.und, D.pure] at u ⊢; exact D.unds_pure ds u
  | .obj _ _ ds, u => by simp only [D.und, D.pure] at u ⊢; exact D.unds_pure ds u
  | .exn _ _ ds, u => by simp only [D.und, D.pure] at u ⊢; exact D.unds_pure ds u
  | .ref k, u => by simp [D.pure] at u
theorem D.unds_pure {n : Nat} : ∀ ds : List D, D.pures ds = true → D.unds n ds = true
  | [], _ => Eq.refl _
  | d :: ds, u => by
    simp only [D.unds, D.pures, Bool.and_eq_true] at u ⊢
    exact ⟨D.und_pure d u.1, D.unds_pure ds u.2⟩
end
theorem unds_iff {n : Nat} : ∀ {ds : List D}, D.unds n ds = true ↔ ∀ d ∈ ds, d.und n = true
  | [] => by simp [D.unds]
  | d :: ds => by simp [D.unds, unds_iff (ds := ds)]
theorem Reps.length {T : Stat} {W : Wd} : ∀ {ds : List D} {vs : List V}, Reps T W ds vs → ds.length = vs.length
  | [], _, h => by rw [Reps] at h; subst h; rfl
  | d :: ds, _, h => by
    obtain ⟨v, r, e, _, h2⟩ := h
    rw [e, List.length_cons, List.length_cons, Reps.length h2]
theorem Reps.get {T : Stat} {W : Wd} : ∀ {ds : List D} {vs : List V} {i : Nat} {d : D}, Reps T W ds vs → ds[i]? = some d → ∃ v, vs[i]? = some v ∧ Rep T W d v
  | [], _, _, _, _, e => by simp at e
  | x :: ds, _, 0, d, h, e => by
    obtain ⟨v, r, e1, h1, h2⟩ := h
    have : x = d := by simpa using e
    subst this
    exact ⟨v, by rw [e1]; rfl, h1⟩
  | x :: ds, _, i + 1, d, h, e => by
    obtain ⟨v, r, e1, h1, h2⟩ := h
    obtain ⟨z, h3, h4⟩ := Reps.get (i := i) (d := d) h2 (by simpa using e)
    exact ⟨z, by rw [e1]; simpa using h3, h4⟩
theorem Reps.getV {T : Stat} {W : Wd} : ∀ {ds : List D} {vs : List V} {i : Nat} {v : V}, Reps T W ds vs → vs[i]? = some v → ∃ d, ds[i]? = some d ∧ Rep T W d v := fun {ds vs i v} h e => by
  have hl := h.length
  have hi : i < vs.length := (List.getElem?_eq_some_iff.mp e).1
  have hd : ds[i]? = some (ds[i]'(by omega)) := List.getElem?_eq_getElem _
  obtain ⟨z, h3, h4⟩ := h.get hd
  rw [e] at h3
  cases h3
  exact ⟨_, hd, h4⟩
theorem Reps.append {T : Stat} {W : Wd} : ∀ {ds es : List D} {vs ws : List V}, Reps T W ds vs → Reps T W es ws → Reps T W (ds ++ es) (vs ++ ws)
  | [], es, vs, ws, h, g => by
    rw [Reps] at h
    rw [h]
    exact g
  | d :: ds, es, _, ws, h, g => by
    obtain ⟨v, r, e, h1, h2⟩ := h
    rw [e]
    exact ⟨v, r ++ ws, rfl, h1, Reps.append h2 g⟩
theorem Reps.one {T : Stat} {W : Wd} {d : D} {v : V} (h : Rep T W d v) : Reps T W [d] [v] := ⟨v, [], rfl, h, rfl⟩
theorem Reps.take {T : Stat} {W : Wd} : ∀ {ds : List D} {vs : List V} (n : Nat), Reps T W ds vs → Reps T W (ds.take n) (vs.take n)
  | [], vs, n, h => by rw [Reps] at h; rw [h]; simp [Reps]
  | d :: ds, _, 0, h => by simp [Reps]
  | d :: ds, _, n + 1, h => by
    obtain ⟨v, r, e, h1, h2⟩ := h
    rw [e]
    exact ⟨v, r.take n, rfl, h1, Reps.take n h2⟩
theorem Reps.drop {T : Stat} {W : Wd} : ∀ {ds : List D} {vs : List V} (n : Nat), Reps T W ds vs → Reps T W (ds.drop n) (vs.drop n)
  | [], vs, n, h => by rw [Reps] at h; rw [h]; simp [Reps]
  | d :: ds, _, 0, h => h
  | d :: ds, _, n + 1, h => by
    obtain ⟨v, r, e, h1, h2⟩ := h
    rw [e]
    exact Reps.drop n h2
theorem Reps.set {T : Stat} {W : Wd} {d : D} {v : V} (g : Rep T W d v) : ∀ {ds : List D} {vs : List V} (n : Nat), Reps T W ds vs → Reps T W (ds.set n d) (vs.set n v)
  | [], vs, n, h => by rw [Reps] at h; rw [h]; simp [Reps]
  | x :: ds, _, 0, h => by
    obtain ⟨w, r, e, h1, h2⟩ := h
    rw [e]
    exact ⟨v, r, rfl, g, h2⟩
  | x :: ds, _, n + 1, h => by
    obtain ⟨w, r, e, h1, h2⟩ := h
    rw [e]
    exact ⟨w, r.set n v, rfl, h1, Reps.set g n h2⟩
theorem Reps.erase {T : Stat} {W : Wd} : ∀ {ds : List D} {vs : List V} (n : Nat), Reps T W ds vs → Reps T W (ds.eraseIdx n) (vs.eraseIdx n)
  | [], vs, n, h => by rw [Reps] at h; rw [h]; simp [Reps]
  | x :: ds, _, 0, h => by
    obtain ⟨w, r, e, h1, h2⟩ := h
    rw [e]
    exact h2
  | x :: ds, _, n + 1, h => by
    obtain ⟨w, r, e, h1, h2⟩ := h
    rw [e]
    exact ⟨w, r.eraseIdx n, rfl, h1, Reps.erase n h2⟩
theorem Reps.reverse {T : Stat} {W : Wd} : ∀ {ds : List D} {vs : List V}, Reps T W ds vs → Reps T W ds.reverse vs.reverse
  | [], vs, h => by rw [Reps] at h; rw [h]; simp [Reps]
  | x :: ds, _, h => by
    obtain ⟨w, r, e, h1, h2⟩ := h
    rw [e, List.reverse_cons, List.reverse_cons]
    exact (Reps.reverse h2).append (Reps.one h1)
/-! ### the heap -/
def CellOk (T : Stat) (W : Wd) (H : Hp) (a : Addr) : Cell → Prop
  | .lst ds => ∃ vs, H a = some (.lst vs) ∧ vs.length ≤ sizeLine ∧ Reps T W ds vs
  | .ins c ks ds => ∃ dx vs, H a = some (.ins (T.cls c) dx (names T ks vs)) ∧ (ks.length = vs.length ∧ KsOk T c ks) ∧ Reps T W ds vs
  | .dead => True
structure SH (T : Stat) (W : Wd) (M : Store) (H : Hp) : Prop where
  fz : ∀ a o, W.hF a = some o → H a = some o
  cl : ∀ (n : Nat) (c : Cell), M[n]? = some c → CellOk T W H (W.io n) c
  nf : ∀ (n : Nat) (c : Cell), M[n]? = some c → c ≠ .dead → W.hF (W.io n) = none
  inj : ∀ (n m : Nat) (c c' : Cell), M[n]? = some c → M[m]? = some c' → c ≠ .dead → c' ≠ .dead → W.io n = W.io m → n = m
  wf : ∀ (n : Nat) (c : Cell), M[n]? = some c → c.und M.length = true
  fr : ∀ a o, W.fr a = some o → H a = some o ∧ W.hF a = none
  frc : ∀ (n : Nat) (c : Cell), M[n]? = some c → c ≠ .dead → W.fr (W.io n) = none
theorem CellOk.live {T : Stat} {W : Wd} {H : Hp} {a : Addr} {c : Cell} (h : CellOk T W H a c) (d : c ≠ .dead) : ∃ o, H a = some o := by
  cases c with
  | lst _ => obtain ⟨vs, e, _⟩ := h; exact ⟨_, e⟩
  | ins _ _ _ => obtain ⟨_, vs, e, _⟩ := h; exact ⟨_, e⟩
  | dead => exact absurd rfl d
theorem CellOk.le {T : Stat} {n : Nat} {W W' : Wd} {H H' : Hp} {a : Addr} {c : Cell} (l : Le n W W') (u : c.und n = true) (e : c ≠ .dead → H' a = H a) (h : CellOk T W H a c) : CellOk T W' H' a c := by
  cases c with
  | lst ds =>
    obtain ⟨vs, e1, h1, h2⟩ := h
    exact ⟨vs, (e (fun z => nomatch z)).trans e1, h1, Reps.le l ds vs (by simpa [Cell.und] using u) h2⟩
  | ins c ks ds =>
    obtain ⟨dx, vs, e1, h1, h2⟩ := h
    exact ⟨dx, vs, (e (fun z => nomatch z)).trans e1, h1, Reps.le l ds vs (by simpa [Cell.und] using u) h2⟩
  | dead => trivial
theorem Cell.und_le {n m : Nat} (h : n ≤ m) (c : Cell) (u : c.und n = true) : c.und m = true := by
  cases c with
  | lst ds => exact D.unds_le h ds u
  | ins c ks ds => exact D.unds_le h ds u
  | dead => rfl
section
variable {T : Stat} {W : Wd} {M : Store} {H : Hp}
/-- a new frozen object -/
theorem SH.frozen (h : SH T W M H) {p : Addr} {o : HO} (hp : H p = none) : SH T ⟨upd W.hF p o, W.io, W.xa, W.fr⟩ M (upd H p o) ∧ Le M.length W ⟨upd W.hF p o, W.io, W.xa, W.fr⟩ := by
  have hF : W.hF p = none := by
    cases e : W.hF p with
    | none => rfl
    | some o' => rw [h.fz _ _ e] at hp; cases hp
  have l : Le M.length W ⟨upd W.hF p o, W.io, W.xa, W.fr⟩ := ⟨fun a u e => by
    show upd W.hF p o a = some u
    rw [upd_ne (ne_of_none e hF)]; exact e, fun _ _ => rfl, rfl, rfl⟩
  have ne : ∀ (n : Nat) (c : Cell), M[n]? = some c → c ≠ .dead → W.io n ≠ p := fun n c e d z => by
    obtain ⟨u, hu⟩ := (h.cl n c e).live d
    rw [z, hp] at hu
    cases hu
  refine ⟨⟨fun a u e => ?_, fun n c e => ?_, fun n c e d => ?_, h.inj, h.wf, fun a u e => ?_, h.frc⟩, l⟩
  · have e' : upd W.hF p o a = some u := e
    by_cases ha : a = p
    · subst ha
      rw [upd_same] at e' ⊢
      exact e'
    · rw [upd_ne ha] at e' ⊢
      exact h.fz _ _ e'
  · exact (h.cl n c e).le l (h.wf n c e) fun d => upd_ne (ne n c e d)
  · show upd W.hF p o (W.io n) = none
    rw [upd_ne (ne n c e d)]
    exact h.nf n c e d
  · have z : a ≠ p := ne_of_none (h.fr a u e).1 hp
    show upd H p o a = some u ∧ upd W.hF p o a = none
    rw [upd_ne z, upd_ne z]
    exact h.fr a u e
theorem live_lt {n : Nat} {c : Cell} (e : M[n]? = some c) : n < M.length := (List.getElem?_eq_some_iff.mp e).1
/-- a new cell -/
theorem SH.cell (h : SH T W M H) {p : Addr} {o : HO} {c : Cell} (hp : H p = none) (hd : c ≠ .dead) (u : c.und M.length = true) (ok : ∀ W', Le M.length W W' → CellOk T W' (upd H p o) p c) :
    SH T ⟨W.hF, fun i => if i = M.length then p else W.io i, W.xa, W.fr⟩ (M ++ [c]) (upd H p o) ∧ Le M.length W ⟨W.hF, fun i => if i = M.length then p else W.io i, W.xa, W.fr⟩ := by
  have l : Le M.length W ⟨W.hF, fun i => if i = M.length then p else W.io i, W.xa, W.fr⟩ := ⟨fun _ _ e => e, fun i hi => if_neg (Nat.ne_of_lt hi), rfl, rfl⟩
  have hF : W.hF p = none := by
    cases e : W.hF p with
    | none => rfl
    | some o' => rw [h.fz _ _ e] at hp; cases hp
  have ne : ∀ (n : Nat) (c : Cell), M[n]? = some c → c ≠ .dead → W.io n ≠ p := fun n c e d z => by
    obtain ⟨u, hu⟩ := (h.cl n c e).live d
    rw [z, hp] at hu
    cases hu
  have cs : ∀ (n : Nat) (c' : Cell), (M ++ [c])[n]? = some c' → (M[n]? = some c' ∧ n ≠ M.length) ∨ (n = M.length ∧ c' = c) := fun n c' e => by
    by_cases hn : n < M.length
    · rw [List.getElem?_append_left hn] at e
      exact .inl ⟨e, Nat.ne_of_lt hn⟩
    · rw [List.getElem?_append_right (by omega)] at e
      have : n - M.length = 0 := by
        cases q : n - M.length with
        | zero => rfl
        | succ k => rw [q] at e; simp at e
      rw [this] at e
      exact .inr ⟨by omega, by simpa using e.symm⟩
  refine ⟨⟨fun a v e => ?_, fun n c' e => ?_, fun n c' e d => ?_, fun n m c1 c2 e1 e2 d1 d2 z => ?_, fun n c' e => ?_, fun a v e => ?_, fun n c' e d => ?_⟩, l⟩
  · rw [upd_ne (ne_of_none e hF)]
    exact h.fz _ _ e
  · rcases cs n c' e with ⟨e', hn⟩ | ⟨hn, rfl⟩
    · show CellOk T _ _ (if n = M.length then p else W.io n) c'
      rw [if_neg hn]
      exact (h.cl n c' e').le l (h.wf n c' e') fun d => upd_ne (ne n c' e' d)
    · show CellOk T _ _ (if n = M.length then p else W.io n) c'
      rw [if_pos hn]
      exact ok _ l
  · show W.hF (if n = M.length then p else W.io n) = none
    rcases cs n c' e with ⟨e', hn⟩ | ⟨hn, rfl⟩
    · rw [if_neg hn]
      exact h.nf n c' e' d
    · rw [if_pos hn]
      exact hF
  · have z' : (if n = M.length then p else W.io n) = (if m = M.length then p else W.io m) := z
    rcases cs n c1 e1 with ⟨e1', hn⟩ | ⟨hn, rfl⟩
    · rcases cs m c2 e2 with ⟨e2', hm⟩ | ⟨hm, rfl⟩
      · rw [if_neg hn, if_neg hm] at z'
        exact h.inj n m c1 c2 e1' e2' d1 d2 z'
      · rw [if_neg hn, if_pos hm] at z'
        exact absurd z' (ne n c1 e1' d1)
    · rcases cs m c2 e2 with ⟨e2', hm⟩ | ⟨hm, rfl⟩
      · rw [if_pos hn, if_neg hm] at z'
        exact absurd z'.symm (ne m c2 e2' d2)
      · exact hn.trans hm.symm
  · have hl : M.length ≤ (M ++ [c]).length := by simp
    rcases cs n c' e with ⟨e', hn⟩ | ⟨hn, rfl⟩
    · exact Cell.und_le hl c' (h.wf n c' e')
    · exact Cell.und_le hl c' u
  · rw [upd_ne (ne_of_none (h.fr a v e).1 hp)]
    exact h.fr a v e
  · show W.fr (if n = M.length then p else W.io n) = none
    rcases cs n c' e with ⟨e', hn⟩ | ⟨hn, rfl⟩
    · rw [if_neg hn]
      exact h.frc n c' e' d
    · rw [if_pos hn]
      cases q : W.fr p with
      | none => rfl
      | some o' =>
        have := (h.fr p o' q).1
        rw [hp] at this
        cases this
theorem get_set {n m : Nat} {c c' : Cell} (e : (M.set n c)[m]? = some c') : (m = n ∧ c' = c ∧ n < M.length) ∨ (m ≠ n ∧ M[m]? = some c') := by
  by_cases hm : m = n
  · subst hm
    have hl : m < M.length := by
      have := (List.getElem?_eq_some_iff.mp e).1
      simpa using this
    rw [List.getElem?_set_self hl] at e
    exact .inl ⟨rfl, by simpa using e.symm, hl⟩
  · rw [List.getElem?_set_ne (Ne.symm hm)] at e
    exact .inr ⟨hm, e⟩
/-- a cell is changed -/
theorem SH.write (h : SH T W M H) {n : Nat} {o : HO} {c0 c : Cell} (e0 : M[n]? = some c0) (d0 : c0 ≠ .dead) (hd : c ≠ .dead) (u : c.und M.length = true) (ok : CellOk T W (upd H (W.io n) o) (W.io n) c) : SH T W (M.set n c) (upd H (W.io n) o) := by
  have nF := h.nf n c0 e0 d0
  have hl : (M.set n c).length = M.length := List.length_set
  refine ⟨fun a v e => ?_, fun m c' e => ?_, fun m c' e d => ?_, fun m k c1 c2 e1 e2 d1 d2 z => ?_, fun m c' e => ?_, fun a v e => ?_, fun m c' e d => ?_⟩
  · rw [upd_ne (ne_of_none e nF)]
    exact h.fz _ _ e
  · rcases get_set e with ⟨rfl, rfl, _⟩ | ⟨hm, e'⟩
    · exact ok
    · exact (h.cl m c' e').le (n := M.length) Le.rfl (h.wf m c' e') fun d => upd_ne fun z => hm (h.inj m n c' c0 e' e0 d d0 z)
  · rcases get_set e with ⟨rfl, rfl, _⟩ | ⟨hm, e'⟩
    · exact nF
    · exact h.nf m c' e' d
  · rcases get_set e1 with ⟨rfl, rfl, _⟩ | ⟨hm, e1'⟩
    · rcases get_set e2 with ⟨rfl, rfl, _⟩ | ⟨hk, e2'⟩
      · rfl
      · exact h.inj _ _ c0 c2 e0 e2' d0 d2 z
    · rcases get_set e2 with ⟨rfl, rfl, _⟩ | ⟨hk, e2'⟩
      · exact h.inj _ _ c1 c0 e1' e0 d1 d0 z
      · exact h.inj _ _ c1 c2 e1' e2' d1 d2 z
  · rw [hl]
    rcases get_set e with ⟨rfl, rfl, _⟩ | ⟨hm, e'⟩
    · exact u
    · exact h.wf m c' e'
  · rw [upd_ne (ne_of_none e (h.frc n c0 e0 d0))]
    exact h.fr a v e
  · rcases get_set e with ⟨rfl, rfl, _⟩ | ⟨hm, e'⟩
    · exact h.frc _ c0 e0 d0
    · exact h.frc m c' e' d
/-- a cell is told no longer -/
theorem SH.forget (h : SH T W M H) (n : Nat) : SH T W (M.set n .dead) H := by
  have hl : (M.set n .dead).length = M.length := List.length_set
  refine ⟨h.fz, fun m c e => ?_, fun m c e d => ?_, fun m k c1 c2 e1 e2 d1 d2 z => ?_, fun m c e => ?_, h.fr, fun m c e d => ?_⟩
  · rcases get_set e with ⟨rfl, rfl, _⟩ | ⟨hm, e'⟩
    · trivial
    · exact h.cl m c e'
  · rcases get_set e with ⟨rfl, rfl, _⟩ | ⟨hm, e'⟩
    · exact absurd rfl d
    · exact h.nf m c e' d
  · rcases get_set e1 with ⟨rfl, rfl, _⟩ | ⟨hm, e1'⟩
    · exact absurd rfl d1
    · rcases get_set e2 with ⟨rfl, rfl, _⟩ | ⟨hk, e2'⟩
      · exact absurd rfl d2
      · exact h.inj _ _ c1 c2 e1' e2' d1 d2 z
  · rw [hl]
    rcases get_set e with ⟨rfl, rfl, _⟩ | ⟨hm, e'⟩
    · rfl
    · exact h.wf m c e'
  · rcases get_set e with ⟨rfl, rfl, _⟩ | ⟨hm, e'⟩
    · exact absurd rfl d
    · exact h.frc m c e' d
/-- a cell is frozen -/
theorem SH.freeze (h : SH T W M H) {n : Nat} {c : Cell} {o : HO} (e : M[n]? = some c) (d : c ≠ .dead) (ho : H (W.io n) = some o) :
    SH T ⟨upd W.hF (W.io n) o, W.io, W.xa, W.fr⟩ (M.set n .dead) H ∧ Le M.length W ⟨upd W.hF (W.io n) o, W.io, W.xa, W.fr⟩ := by
  have nF := h.nf n c e d
  have l : Le M.length W ⟨upd W.hF (W.io n) o, W.io, W.xa, W.fr⟩ := ⟨fun a u q => by
    show upd W.hF (W.io n) o a = some u
    rw [upd_ne (ne_of_none q nF)]; exact q, fun _ _ => rfl, rfl, rfl⟩
  have hl : (M.set n Cell.dead).length = M.length := List.length_set
  refine ⟨⟨fun a u q => ?_, fun m c' q => ?_, fun m c' q d' => ?_, fun m k c1 c2 e1 e2 d1 d2 z => ?_, fun m c' q => ?_, fun a u q => ?_, fun m c' q d' => ?_⟩, l⟩
  · have q' : upd W.hF (W.io n) o a = some u := q
    by_cases ha : a = W.io n
    · rw [ha, upd_same] at q'
      rw [ha, ho]
      exact q'
    · rw [upd_ne ha] at q'
      exact h.fz _ _ q'
  · rcases get_set q with ⟨rfl, rfl, _⟩ | ⟨hm, e'⟩
    · trivial
    · exact (h.cl m c' e').le l (h.wf m c' e') fun _ => rfl
  · rcases get_set q with ⟨rfl, rfl, _⟩ | ⟨hm, e'⟩
    · exact absurd rfl d'
    · show upd W.hF (W.io n) o (W.io m) = none
      rw [upd_ne fun z => hm (h.inj m n c' c e' e d' d z)]
      exact h.nf m c' e' d'
  · rcases get_set e1 with ⟨rfl, rfl, _⟩ | ⟨hm, e1'⟩
    · exact absurd rfl d1
    · rcases get_set e2 with ⟨rfl, rfl, _⟩ | ⟨hk, e2'⟩
      · exact absurd rfl d2
      · exact h.inj _ _ c1 c2 e1' e2' d1 d2 z
  · rw [hl]
    rcases get_set q with ⟨rfl, rfl, _⟩ | ⟨hm, e'⟩
    · rfl
    · exact h.wf m c' e'
  · have z : a ≠ W.io n := ne_of_none q (h.frc n c e d)
    show H a = some u ∧ upd W.hF (W.io n) o a = none
    rw [upd_ne z]
    exact h.fr a u q
  · rcases get_set q with ⟨rfl, rfl, _⟩ | ⟨hm, e'⟩
    · exact absurd rfl d'
    · exact h.frc m c' e' d'
end
/-- the garbage goes -/
theorem SH.cut {T : Stat} {W : Wd} {M M' : Store} {H : Hp} (h : SH T W M' H) (w : ∀ (n : Nat) (c : Cell), M[n]? = some c → c.und M.length = true) (g : gcOk M M' = true) : SH T W (M'.take M.length) H := by
  have g' : M.length ≤ M'.length ∧ ∀ p ∈ M.zip M', p.1 = p.2 ∨ p.2.pure = true := by
    simpa [gcOk, List.all_eq_true] using g
  have gt : ∀ (n : Nat) (c : Cell), (M'.take M.length)[n]? = some c → n < M.length ∧ M'[n]? = some c := fun n c e => by
    rw [List.getElem?_take] at e
    split at e
    · exact ⟨by assumption, e⟩
    · cases e
  have hl : (M'.take M.length).length = M.length := by rw [List.length_take]; omega
  refine ⟨h.fz, fun n c e => h.cl n c (gt n c e).2, fun n c e => h.nf n c (gt n c e).2, fun n m c c' e e' => h.inj n m c c' (gt n c e).2 (gt m c' e').2, fun n c e => ?_, h.fr, fun n c e => h.frc n c (gt n c e).2⟩
  rw [hl]
  obtain ⟨hn, e'⟩ := gt n c e
  have hm : (M[n], c) ∈ M.zip M' := by
    rw [List.mem_iff_getElem?]
    refine ⟨n, ?_⟩
    rw [List.getElem?_zip_eq_some]
    exact ⟨List.getElem?_eq_getElem hn, e'⟩
  rcases g'.2 _ hm with q | q
  · have q' : M[n] = c := q
    rw [← q']
    exact w n _ (List.getElem?_eq_getElem hn)
  · cases c with
    | lst ds => exact D.unds_pure ds q
    | ins c ks ds => exact D.unds_pure ds q
    | dead => rfl
/-- the locals -/
structure EnvOk (T : Stat) (W : Wd) (n : Nat) (ρ : Env) (σ : L2.St) : Prop where
  len : ρ.length = σ.length
  at_ : ∀ (i : Nat) (d : D), ρ[i]? = some (some d) → ∃ v, σ[i]? = some (some v) ∧ Rep T W d v ∧ d.und n = true
theorem EnvOk.le {T : Stat} {n m : Nat} {W W' : Wd} {ρ : Env} {σ : L2.St} (l : Le n W W') (h : n ≤ m) (o : EnvOk T W n ρ σ) : EnvOk T W' m ρ σ :=
  ⟨o.len, fun i d e => let ⟨v, h1, h2, h3⟩ := o.at_ i d e; ⟨v, h1, Rep.le l d v h3 h2, D.und_le h d h3⟩⟩
theorem EnvOk.set {T : Stat} {n : Nat} {W : Wd} {ρ : Env} {σ : L2.St} {d : D} {v : V} (o : EnvOk T W n ρ σ) (i : Nat) (r : Rep T W d v) (u : d.und n = true) : EnvOk T W n (ρ.set i (some d)) (σ.set i (some v)) := by
  refine ⟨by rw [List.length_set, List.length_set, o.len], fun j d' e => ?_⟩
  by_cases hj : j = i
  · subst hj
    have hl : j < ρ.length := by
      have := (List.getElem?_eq_some_iff.mp e).1
      simpa using this
    rw [List.getElem?_set_self hl] at e
    cases e
    exact ⟨v, List.getElem?_set_self (by rw [← o.len]; exact hl), r, u⟩
  · rw [List.getElem?_set_ne (Ne.symm hj)] at e ⊢
    exact o.at_ j d' e
theorem EnvOk.unset {T : Stat} {n : Nat} {W : Wd} {ρ : Env} {σ : L2.St} {x : Option V} (o : EnvOk T W n ρ σ) (i : Nat) : EnvOk T W n (ρ.set i none) (σ.set i x) := by
  refine ⟨by rw [List.length_set, List.length_set, o.len], fun j d' e => ?_⟩
  by_cases hj : j = i
  · subst hj
    by_cases hl : j < ρ.length
    · rw [List.getElem?_set_self hl] at e
      cases e
    · rw [List.getElem?_eq_none (by simpa using hl)] at e
      cases e
  · rw [List.getElem?_set_ne (Ne.symm hj)] at e ⊢
    exact o.at_ j d' e
end Dv
/-! Readings of the evaluator; operations. -/
namespace Dv
open PySem PySem.Spec PyProof.Rows L2
structure Stp (T : Stat) (W : Wd) (M : Store) (W' : Wd) (M' : Store) (H' : Hp) : Prop where
  le : Le M.length W W'
  len : M.length ≤ M'.length
  sh : SH T W' M' H'
theorem Stp.rfl {T : Stat} {W : Wd} {M : Store} {H : Hp} (h : SH T W M H) : Stp T W M W M H := ⟨Le.rfl, Nat.le_refl _, h⟩
theorem Stp.trans {T : Stat} {W W1 W2 : Wd} {M M1 M2 : Store} {H1 H2 : Hp} (a : Stp T W M W1 M1 H1) (b : Stp T W1 M1 W2 M2 H2) : Stp T W M W2 M2 H2 := ⟨a.le.trans b.le a.len, Nat.le_trans a.len b.len, b.sh⟩
/-- an exception: its class and its own dict -/
def XRep (T : Stat) (W : Wd) (n : Nat) (x : Exn) (cls : Value) (dd : Option Addr) : Prop := cls = .ref (T.cls x.c) ∧ D.unds n x.vs = true ∧ ∃ vs, XD T W.hF dd x.ks vs ∧ Reps T W x.vs vs
def Post {α β : Type} (T : Stat) (Wx : WX) (σ : L2.St) (R : Wd → Nat → α → β → Prop) (W : Wd) (M : Store) (r : Rs α) (Q : β → Hp → Prop) : Prop := match r with
  | .ok d M' => ∀ W' v H', Stp T W M W' M' H' → R W' M'.length d v → Q v H'
  | .ex x M' => ∀ W' cls dd H', Stp T W M W' M' H' → XRep T W' M'.length x cls dd → Wx cls dd σ H'
  | .no => False
section
variable {T : Stat} {Wx : WX} {σ : L2.St} {α β γ δ : Type} {R : Wd → Nat → α → β → Prop} {R' : Wd → Nat → γ → δ → Prop} {W W1 : Wd} {M M1 : Store} {H H1 : Hp}
theorem Post.shift {r : Rs α} {Q : β → Hp → Prop} (h : Post T Wx σ R W M r Q) (s : Stp T W M W1 M1 H1) : Post T Wx σ R W1 M1 r Q := by
  cases r with
  | ok d M' => exact fun W' v H' s' q => h W' v H' (s.trans s') q
  | ex x M' => exact fun W' c d H' s' q => h W' c d H' (s.trans s') q
  | no => exact h
theorem Post.bind {r : Rs α} {f : α → Store → Rs γ} {Q : δ → Hp → Prop} {Q1 : β → Hp → Prop} (h : Post T Wx σ R' W M (r.bind f) Q)
    (k : ∀ a M1 W1 b H1, Stp T W M W1 M1 H1 → R W1 M1.length a b → Post T Wx σ R' W1 M1 (f a M1) Q → Q1 b H1) : Post T Wx σ R W M r Q1 := by
  cases r with
  | ok d M' => exact fun W' v H' s' q => k d M' W' v H' s' q (Post.shift h s')
  | ex x M' => exact h
  | no => exact h
theorem Post.ok {a : α} {b : β} {Q : β → Hp → Prop} (h : Post T Wx σ R W M (.ok a M) Q) (s : SH T W M H) (r : R W M.length a b) : Q b H := h W b H (Stp.rfl s) r
theorem Post.of {o : Option α} {Q : β → Hp → Prop} (h : Post T Wx σ R W M (Rs.of o M) Q) : ∃ a, o = some a ∧ Post T Wx σ R W M (.ok a M) Q := by
  cases o with
  | none => exact h.elim
  | some a => exact ⟨a, Eq.refl _, h⟩
end
def RV (T : Stat) (W : Wd) (n : Nat) (d : D) (v : V) : Prop := Rep T W d v ∧ d.und n = true
def RL (T : Stat) (W : Wd) (n : Nat) (ds : List D) (vs : List V) : Prop := Reps T W ds vs ∧ D.unds n ds = true
def RB (_ : Wd) (_ : Nat) (b c : Bool) : Prop := c = b
theorem RV.up {T : Stat} {W W' : Wd} {M M' : Store} {H' : Hp} {d : D} {v : V} (r : RV T W M.length d v) (s : Stp T W M W' M' H') : RV T W' M'.length d v := ⟨Rep.le s.le d v r.2 r.1, D.und_le s.len d r.2⟩
theorem RL.up {T : Stat} {W W' : Wd} {M M' : Store} {H' : Hp} {d : List D} {v : List V} (r : RL T W M.length d v) (s : Stp T W M W' M' H') : RL T W' M'.length d v := ⟨Reps.le s.le d v r.2 r.1, D.unds_le s.len d r.2⟩
/-- what an except suite holds -/
abbrev XPT := Option (Addr × Value × Option Addr) → Prop
def XOk (X : Cx) (x : Option (Addr × Value × Option Addr)) : Prop := ∀ a cls d, x = some (a, cls, d) → ∃ oe, (a, oe) ∈ X.pn ∧ Zc cls d oe ∧ ∃ vs, oe.data = .fields vs
structure At (T : Stat) (XP : XPT) (σ : L2.St) (H : Hp) (W : Wd) (ρ : Env) (M : Store) : Prop where
  sh : SH T W M H
  env : EnvOk T W M.length ρ σ
  xo : XP W.xa
theorem At.step {T : Stat} {XP : XPT} {σ : L2.St} {H H1 : Hp} {W W1 : Wd} {ρ : Env} {M M1 : Store} (a : At T XP σ H W ρ M) (s : Stp T W M W1 M1 H1) : At T XP σ H1 W1 ρ M1 :=
  ⟨s.sh, a.env.le s.le s.len, by rw [s.le.xa]; exact a.xo⟩
def tE (T : Stat) (XP : XPT) (Wx : WX) (C : Cfg) (e : E) : TE := fun σ H Q => ∃ W ρ M, At T XP σ H W ρ M ∧ Post T Wx σ (RV T) W M (ev C e ρ M) Q
def tA (T : Stat) (XP : XPT) (Wx : WX) (C : Cfg) (es : Es) : TA := fun σ H Q => ∃ W ρ M, At T XP σ H W ρ M ∧ Post T Wx σ (RL T) W M (evs C es ρ M) Q
def tT (T : Stat) (XP : XPT) (Wx : WX) (C : Cfg) (e : E) : TT := fun σ H Q => ∃ W ρ M, At T XP σ H W ρ M ∧ Post T Wx σ RB W M (evT C e ρ M) Q
theorem PE.weak {X : Cx} {a : Expr} {t t' : TE} (h : PE X a t') (w : ∀ σ H Q, t σ H Q → t' σ H Q) : PE X a t := ⟨fun pins s σ H Q I q => h.run pins s σ H Q I (w σ H Q q)⟩
theorem PA.weak {X : Cx} {a : List Expr} {t t' : TA} (h : PA X a t') (w : ∀ σ H Q, t σ H Q → t' σ H Q) : PA X a t := ⟨fun pos pins s σ H Q I q => h.run pos pins s σ H Q I (w σ H Q q)⟩
theorem PT.weak {X : Cx} {a : Expr} {t t' : TT} (h : PT X a t') (w : ∀ σ H Q, t σ H Q → t' σ H Q) : PT X a t := ⟨fun pins s σ H Q I q => h.run pins s σ H Q I (w σ H Q q)⟩
theorem PW.weak {X : Cx} {a : Expr} {t t' : TT} (h : PW X a t') (w : ∀ σ H Q, t σ H Q → t' σ H Q) : PW X a t := ⟨fun wh pins s σ H Q I q => h.run wh pins s σ H Q I (w σ H Q q)⟩
/-! ### heaps -/
section
variable {T : Stat} {W : Wd} {M : Store} {H : Hp}
theorem SH.sqT (h : SH T W M H) {a : Addr} {vs : List V} (q : SqT T.K W.hF a vs) : SqT T.K H a vs := by
  rcases q with (q | ⟨o, q⟩) | q
  · exact .inl (.inl (h.fz _ _ q))
  · exact .inl (.inr ⟨o, h.fz _ _ q⟩)
  · exact .inr q
theorem SH.sqL (h : SH T W M H) {a : Addr} {vs : List V} (q : SqL T.K W.hF a vs) : SqL T.K H a vs := by
  rcases q with (q | ⟨o, q⟩) | q
  · exact .inl (.inl (h.fz _ _ q))
  · exact .inl (.inr ⟨o, h.fz _ _ q⟩)
  · exact .inr q
/-- a new tuple -/
theorem new_tup (h : SH T W M H) {ds : List D} {vs : List V} (r : RL T W M.length ds vs) (hl : vs.length ≤ sizeLine) {p : Addr} (hp : H p = none) :
    ∃ W', Stp T W M W' M (upd H p (.tup vs)) ∧ RV T W' M.length (.tup ds) (.ref p) := by
  obtain ⟨s, l⟩ := h.frozen (o := .tup vs) hp
  refine ⟨_, ⟨l, Nat.le_refl _, s⟩, ⟨p, vs, rfl, .inl (.inl upd_same), hl, Reps.le l ds vs r.2 r.1⟩, r.2⟩
theorem new_lst (h : SH T W M H) {ds : List D} {vs : List V} (r : RL T W M.length ds vs) (hl : vs.length ≤ sizeLine) {p : Addr} (hp : H p = none) :
    ∃ W', Stp T W M W' M (upd H p (.lst vs)) ∧ RV T W' M.length (.lst ds) (.ref p) := by
  obtain ⟨s, l⟩ := h.frozen (o := .lst vs) hp
  refine ⟨_, ⟨l, Nat.le_refl _, s⟩, ⟨p, vs, rfl, upd_same, hl, Reps.le l ds vs r.2 r.1⟩, r.2⟩
theorem new_cell (h : SH T W M H) {ds : List D} {vs : List V} (r : RL T W M.length ds vs) (hl : vs.length ≤ sizeLine) {p : Addr} (hp : H p = none) :
    ∃ W', Stp T W M W' (M ++ [.lst ds]) (upd H p (.lst vs)) ∧ RV T W' (M ++ [Cell.lst ds]).length (.ref M.length) (.ref p) := by
  obtain ⟨s, l⟩ := h.cell (o := .lst vs) (c := .lst ds) hp (fun z => nomatch z) r.2 fun W' l' => ⟨vs, upd_same, hl, Reps.le l' ds vs r.2 r.1⟩
  refine ⟨_, ⟨l, by simp, s⟩, ?_, ?_⟩
  · show V.ref p = V.ref (if M.length = M.length then p else W.io M.length)
    rw [if_pos rfl]
  · simp [D.und]
theorem newL_ok {Wx : WX} {σ : L2.St} {Q : VK} {r : Bool} {ds : List D} {vs : List V} (h : SH T W M H) (q : RL T W M.length ds vs) (hl : vs.length ≤ sizeLine) (p : Post T Wx σ (RV T) W M (newL r ds M) Q) : ∀ l, H l = none → Q (.ref l) (upd H l (.lst vs)) := by
  intro l hp
  cases r with
  | true =>
    obtain ⟨W', s, r'⟩ := new_cell h q hl hp
    exact p W' _ _ s r'
  | false =>
    obtain ⟨W', s, r'⟩ := new_lst h q hl hp
    exact p W' _ _ s r'
/-- a list or tuple, read -/
theorem seq_ok (h : SH T W M H) {d : D} {v : V} {xs : List D} (r : RV T W M.length d v) (e : seqOf M d = some xs) : ∃ a vs, v = .ref a ∧ (SqL T.K H a vs ∨ SqT T.K H a vs) ∧ RL T W M.length xs vs ∧ vs.length ≤ sizeLine := by
  cases d with
  | tup ds =>
    cases e
    obtain ⟨⟨a, vs, e1, h1, h2, h3⟩, u⟩ := r
    exact ⟨a, vs, e1, .inr (h.sqT h1), ⟨h3, u⟩, h2⟩
  | lst ds =>
    cases e
    obtain ⟨⟨a, vs, e1, h1, h2, h3⟩, u⟩ := r
    exact ⟨a, vs, e1, .inl (.inl (.inl (h.fz _ _ h1))), ⟨h3, u⟩, h2⟩
  | scr ns =>
    cases e
    obtain ⟨⟨a, e1, h1, h2⟩, u⟩ := r
    have q : ∀ l : List Int, Reps T W (l.map .int) (l.map V.int) ∧ D.unds M.length (l.map .int) = true := fun l => by
      induction l with
      | nil => exact ⟨rfl, rfl⟩
      | cons n l ih => exact ⟨⟨_, _, rfl, rfl, ih.1⟩, by simp only [List.map_cons, D.unds, D.und, Bool.true_and]; exact ih.2⟩
    exact ⟨a, _, e1, .inl (h.sqL h1), q ns, by simpa using h2⟩
  | ref n =>
    have e2 : V.ref (W.io n) = v := r.1.symm
    simp only [seqOf] at e
    cases q : M[n]? with
    | none => rw [q] at e; cases e
    | some c =>
      rw [q] at e
      cases c with
      | lst ds =>
        cases e
        obtain ⟨vs, h1, h2, h3⟩ := h.cl n _ q
        exact ⟨_, vs, e2.symm, .inl (.inl (.inl h1)), ⟨h3, h.wf n _ q⟩, h2⟩
      | ins _ _ _ => cases e
      | dead => cases e
  | _ => cases e
/-- data as the library's -/
theorem SH.dps (h : SH T W M H) : ∀ {ds : List D} {vs : List V} {ps : List PyData}, (∀ d v p, d ∈ ds → Rep T W d v → D.py d = some p → Dp T.K H v p) → Reps T W ds vs → D.pys ds = some ps → DpAll T.K H vs ps
  | [], vs, ps, _, r, e => by
    rw [Reps] at r
    subst r
    cases e
    exact .nil
  | d :: ds, vs, ps, k, r, e => by
    obtain ⟨v, w, e1, h1, h2⟩ := r
    subst e1
    simp only [D.pys] at e
    split at e
    · rename_i p ps' e1 e2
      cases e
      exact .cons (k d v p (by simp) h1 e1) (h.dps (fun d v p hm => k d v p (by simp [hm])) h2 e2)
    · cases e
mutual
theorem SH.dp (h : SH T W M H) : ∀ (d : D) (v : V) (p : PyData), Rep T W d v → D.py d = some p → Dp T.K H v p
  | .non, _, _, r, e => by cases r; cases e; exact .non
  | .bl b, _, _, r, e => by cases r; cases e; exact .bl b
  | .int b, _, _, r, e => by cases r; cases e; exact .int b
  | .str b, _, _, r, e => by cases r; cases e; exact .str b
  | .tup ds, _, p, r, e => by
    obtain ⟨a, vs, e1, h1, h2, h3⟩ := r
    subst e1
    simp only [D.py] at e
    cases q : D.pys ds with
    | none => rw [q] at e; cases e
    | some ps =>
      rw [q] at e
      cases e
      exact .tup (h.sqT h1) (SH.dpl h ds vs ps h3 q)
  | .lst ds, _, p, r, e => by
    obtain ⟨a, vs, e1, h1, h2, h3⟩ := r
    subst e1
    simp only [D.py] at e
    cases q : D.pys ds with
    | none => rw [q] at e; cases e
    | some ps =>
      rw [q] at e
      cases e
      exact .lst (.inl (.inl (h.fz _ _ h1))) (SH.dpl h ds vs ps h3 q)
  | .obj _ _ _, _, _, _, e => by cases e
  | .exn _ _ _, _, _, _, e => by cases e
  | .ref _, _, _, _, e => by cases e
  | .scr _, _, _, _, e => by cases e
theorem SH.dpl (h : SH T W M H) : ∀ (ds : List D) (vs : List V) (ps : List PyData), Reps T W ds vs → D.pys ds = some ps → DpAll T.K H vs ps
  | [], vs, ps, r, e => by
    rw [Reps] at r
    subst r
    cases e
    exact .nil
  | d :: ds, vs, ps, r, e => by
    obtain ⟨v, w, e1, h1, h2⟩ := r
    subst e1
    simp only [D.pys] at e
    split at e
    · rename_i p ps' e1 e2
      cases e
      exact .cons (SH.dp h d v p h1 e1) (SH.dpl h ds w ps' h2 e2)
    · cases e
end
/-- .. a cell's list seen as a list -/
theorem SH.dpS (h : SH T W M H) {d : D} {v : V} {p : PyData} (r : Rep T W d v) (e : D.py (D.see M 1 d) = some p) : Dp T.K H v p := by
  cases d with
  | ref n =>
    have e2 : V.ref (W.io n) = v := r.symm
    subst e2
    simp only [D.see] at e
    cases q : M[n]? with
    | none => rw [q] at e; cases e
    | some c =>
      rw [q] at e
      cases c with
      | lst ds =>
        obtain ⟨vs, h1, h2, h3⟩ := h.cl n _ q
        simp only [D.py] at e
        cases q2 : D.pys ds with
        | none => rw [q2] at e; cases e
        | some ps =>
          rw [q2] at e
          cases e
          exact .lst (.inl (.inl h1)) (SH.dpl h ds vs ps h3 q2)
      | ins _ _ _ => cases e
      | dead => cases e
  | non => exact h.dp _ v p r e
  | bl _ => exact h.dp _ v p r e
  | int _ => exact h.dp _ v p r e
  | str _ => exact h.dp _ v p r e
  | tup _ => exact h.dp _ v p r e
  | lst _ => exact h.dp _ v p r e
  | obj _ _ _ => exact h.dp _ v p r e
  | exn _ _ _ => exact h.dp _ v p r e
  | scr _ => exact h.dp _ v p r e
end
end Dv
namespace Dv
open PySem PySem.Spec PyProof.Rows L2
theorem big_eq : sizeLine = big := sizeLine_eq
/-! ### tuple * int, where the tuple is empty -/
theorem tuple_mulE (l : Addr) (items : Array Value) (n : Nat) (dd : Option Addr) (sl : Array (Option Value)) (x : Int) (u : Tok) (c0 : (decide (x < -(2 ^ 63)) || decide (x ≥ 2 ^ 63)) = false) (c1 : (items.isEmpty || x == 1) = true) :
    Meets (Builtin.«tuple.__mul__» ⟨[.ref l, .int x u], []⟩) (fun _ R s => s.heap.get? l = some { cls := .type "tuple", dict := dd, data := .seq items n, slots := sl } ∧ R (.ok (.ret (Value.ref l))) s) :=
  .of_wp fun prog w A R s h => by
    obtain ⟨hp, g, d, tk, os⟩ := s
    obtain ⟨hl, h⟩ := h
    have f1 := AutoSeq1.idx_int
    wp_walk using wpAny_loadPart' hl
    repeat (first
      | (refine wpAny_ite_false (decide_eq_false (by rw [c0]; exact Bool.false_ne_true)) ?_; wp_walk using wpAny_loadPart' hl)
      | (refine wpAny_ite_true (decide_eq_true c1) ?_; wp_walk using wpAny_loadPart' hl))
    first | exact ⟨_, rfl, h⟩ | exact h
def rRepE (K : PySem.W.Frag) : R2 := fun x y H Q => ∃ l k, x = .ref l ∧ y = .int k ∧ SqT K H l [] ∧ 2 ≤ k ∧ k ≤ 1000 ∧ Q (.ref l) H
theorem op_repE {X : Cx} : OpR X (binaryOp .Mult) (rRepE X.K) := by
  intro pins s σ H x y v u Q I rx ry h
  obtain ⟨l, k, rfl, rfl, hT, h1, h2, q⟩ := h
  cases rx
  obtain ⟨t, rfl⟩ := ry
  obtain ⟨its, r, ⟨⟨cls, dd, data, sl⟩, ho, hc, n, hd⟩, hs⟩ := I.tuple hT
  simp only at hc hd
  subst hc hd
  have hle : its.length = 0 := r.length.symm
  have hi : its.toArray.isEmpty = true := by
    cases its with
    | nil => rfl
    | cons a b => simp at hle
  have c0 : (decide (k < -(2 ^ 63)) || decide (k ≥ 2 ^ 63)) = false := by
    rw [decide_eq_false (by omega), decide_eq_false (by omega)] <;> rfl
  refine wpAny_binaryOp_repeat_ref (T := "tuple") (U := "int") (by decide) ⟨_, ho, rfl⟩ (fun s' => typeIs_int s' k t) noFill_tuple_mul F.fills_int_mul F.slot_int_rmul repeat_tuple F.slot_int_index.lookup
    (call_meets F.slot_int_rmul (typeIs_int s k t) F.entry_int_rmul (F.args_int_rmul_2 _ _) (int_rmul_tuple k t l its.toArray n dd sl)
      ⟨ho, rfl, ⟨_, ho, rfl⟩, call_meets F.slot_tuple_mul ⟨_, ho, rfl⟩ F.entry_tuple_mul (F.args_tuple_mul_2 _ _) (tuple_mulE l its.toArray n dd sl k t c0 (by rw [hi, Bool.true_or])) ⟨ho, ?_⟩⟩)
  exact ⟨.ref l, H, I, rfl, q⟩
/-! ### a ** b -/
def CPowW (i j : Int) : Prop := 0 ≤ j ∧ ((lg i + 1 : Nat) : Int) * j ≤ 2 ^ 27
theorem op_powW {X : Cx} : OpR X (binaryOp .Pow) (rI CPowW fun i j => .int (i ^ j.toNat)) := opI fun i j _ _ _ _ _ hc q => by
  refine pow_int hc.1 (Int.le_trans ?_ hc.2) q
  refine Int.mul_le_mul_of_nonneg_right ?_ hc.1
  have : Builtin.Int.intBits i ≤ i.natAbs.log2 + 1 := by
    unfold Builtin.Int.intBits
    split <;> omega
  unfold lg
  omega
/-! ### binary operators -/
def opOf : BOp → Operator
  | .add => .Add | .sub => .Sub | .mul => .Mult | .mod => .Mod | .fdiv => .FloorDiv | .pow => .Pow
abbrev rStrA : R2 := fun x y H Q => ∃ i j, x = .str i ∧ y = .str j ∧ i.length + j.length ≤ sizeLine ∧ Q (.str (i ++ j)) H
def rBin (K : PySem.W.Frag) : BOp → R2
  | .add => fun x y H Q => rI0 (fun i j => .int (i + j)) x y H Q ∨ (rStrA x y H Q ∨ (rCatA K x y H Q ∨ rCat x y H Q))
  | .sub => rI0 fun i j => .int (i - j)
  | .mul => fun x y H Q => rI CMul (fun i j => .int (i * j)) x y H Q ∨ (rI CMulW (fun i j => .int (i * j)) x y H Q ∨ (rRepT K x y H Q ∨ rRepE K x y H Q))
  | .mod => rI (fun _ j => 0 < j) fun i j => .int (i % j)
  | .fdiv => rI CDivW fun i j => .int (i / j)
  | .pow => rI CPowW fun i j => .int (i ^ j.toNat)
theorem op_bin {X : Cx} (o : BOp) : OpR X (binaryOp (opOf o)) (rBin X.K o) := by
  cases o with
  | add => exact op_add.or (op_add_str.or (op_catA.or op_cat))
  | sub => exact op_sub
  | mul => exact op_mul.or (op_mulW.or (op_repT.or op_repE))
  | mod => exact op_mod
  | fdiv => exact op_fdivW
  | pow => exact op_powW
theorem unds_append {n : Nat} {a b : List D} (h1 : D.unds n a = true) (h2 : D.unds n b = true) : D.unds n (a ++ b) = true := by
  rw [unds_iff] at h1 h2 ⊢
  intro d hd
  rcases List.mem_append.mp hd with h | h
  · exact h1 d h
  · exact h2 d h
theorem RL.append {T : Stat} {W : Wd} {n : Nat} {a b : List D} {v w : List V} (h1 : RL T W n a v) (h2 : RL T W n b w) : RL T W n (a ++ b) (v ++ w) := ⟨h1.1.append h2.1, unds_append h1.2 h2.2⟩
theorem RL.flat {T : Stat} {W : Wd} {n : Nat} {a : List D} {v : List V} (h1 : RL T W n a v) : ∀ k : Nat, RL T W n (List.replicate k a).flatten (List.replicate k v).flatten
  | 0 => ⟨rfl, rfl⟩
  | k + 1 => by
    rw [List.replicate_succ, List.replicate_succ, List.flatten_cons, List.flatten_cons]
    exact h1.append (RL.flat h1 k)
section
variable {T : Stat} {Wx : WX} {σ : L2.St} {W : Wd} {M : Store} {H : Hp} {Q : VK}
theorem sizeLine_le {n : Nat} (h : n ≤ big) : n ≤ sizeLine := by rw [sizeLine_eq]; exact h
theorem binI_ok {o : BOp} {i j : Int} (h : SH T W M H) (p : Post T Wx σ (RV T) W M (Rs.of (binI o i j) M) Q) : rBin T.K o (.int i) (.int j) H Q := by
  replace p := p.of
  obtain ⟨d, e, p⟩ := p
  cases o with
  | add => cases e; exact .inl ⟨i, j, rfl, rfl, p.ok h ⟨rfl, rfl⟩⟩
  | sub => cases e; exact ⟨i, j, rfl, rfl, p.ok h ⟨rfl, rfl⟩⟩
  | mul =>
    simp only [binI] at e
    split at e
    · rename_i c
      cases e
      have q : Q (.int (i * j)) H := p.ok h ⟨rfl, rfl⟩
      simp only [Bool.or_eq_true, small, Bool.and_eq_true, decide_eq_true_eq] at c
      rcases c with (c | c) | c
      · exact .inl ⟨i, j, rfl, rfl, .inl c, q⟩
      · exact .inl ⟨i, j, rfl, rfl, .inr c, q⟩
      · exact .inr (.inl ⟨i, j, rfl, rfl, c, q⟩)
    · cases e
  | mod =>
    simp only [binI] at e
    split at e
    · cases e; exact ⟨i, j, rfl, rfl, by assumption, p.ok h ⟨rfl, rfl⟩⟩
    · cases e
  | fdiv =>
    simp only [binI] at e
    split at e
    · cases e; exact ⟨i, j, rfl, rfl, by assumption, p.ok h ⟨rfl, rfl⟩⟩
    · cases e
  | pow =>
    simp only [binI] at e
    split at e
    · cases e; exact ⟨i, j, rfl, rfl, by assumption, p.ok h ⟨rfl, rfl⟩⟩
    · cases e
theorem reps_nil {ds : List D} {vs : List V} (r : Reps T W ds vs) (e : vs = []) : ds = [] := by
  have := r.length
  rw [e] at this
  exact List.eq_nil_of_length_eq_zero this
theorem bin_ok {o : BOp} {x y : D} {v w : V} (h : SH T W M H) (r1 : RV T W M.length x v) (r2 : RV T W M.length y w) (p : Post T Wx σ (RV T) W M (Rs.of (bin o M x y) M) Q) : rBin T.K o v w H Q := by
  unfold bin at p
  split at p
  · cases r1.1; cases r2.1
    exact binI_ok h p
  · cases r1.1; cases r2.1
    replace p := p.of
    obtain ⟨d, e, p⟩ := p
    split at e
    · split at e
      · cases e
        exact .inr (.inl ⟨_, _, rfl, rfl, sizeLine_le (by assumption), p.ok h ⟨rfl, rfl⟩⟩)
      · cases e
    · cases e
  · obtain ⟨⟨a, vs, rfl, h1, h2, h3⟩, u1⟩ := r1
    obtain ⟨⟨b, ws, rfl, g1, g2, g3⟩, u2⟩ := r2
    replace p := p.of
    obtain ⟨d, e, p⟩ := p
    split at e
    · split at e
      · rename_i xs ys hl
        cases e
        have l1 := h3.length
        have l2 := g3.length
        refine .inr (.inr (.inl ⟨a, b, vs, ws, rfl, rfl, h.sqT h1, h.sqT g1, by rw [← l1, ← l2]; exact sizeLine_le hl, fun z => ?_, fun z1 z2 => ?_, fun z1 z2 q hq => ?_⟩))
        · have := reps_nil h3 z
          subst this
          exact p.ok h ⟨⟨b, ws, rfl, g1, g2, g3⟩, u2⟩
        · have := reps_nil g3 z2
          subst this
          rw [List.append_nil] at p
          exact p.ok h ⟨⟨a, vs, rfl, h1, h2, h3⟩, u1⟩
        · obtain ⟨W', s, r'⟩ := new_tup h (RL.append ⟨h3, u1⟩ ⟨g3, u2⟩) (by rw [List.length_append, ← l1, ← l2]; exact sizeLine_le hl) hq
          exact p W' _ _ s r'
      · cases e
    · cases e
  · obtain ⟨⟨a, vs, rfl, h1, h2, h3⟩, u1⟩ := r1
    cases r2.1
    replace p := p.of
    obtain ⟨d, e, p⟩ := p
    split at e
    · split at e
      · rename_i xs k _ hl
        cases e
        have l1 := h3.length
        by_cases z : vs = []
        · have z' := reps_nil h3 z
          subst z z'
          have e0 : (List.replicate k.toNat ([] : List D)).flatten = [] := by simp
          rw [e0] at p
          exact .inr (.inr (.inr ⟨a, k, rfl, rfl, h.sqT h1, hl.1, hl.2.1, p.ok h ⟨⟨a, [], rfl, h1, h2, h3⟩, u1⟩⟩))
        · refine .inr (.inr (.inl ⟨a, k, vs, rfl, rfl, h.sqT h1, z, hl.1, hl.2.1, by rw [← l1]; exact hl.2.2, fun q hq => ?_⟩))
          obtain ⟨W', s, r'⟩ := new_tup h (RL.flat ⟨h3, u1⟩ k.toNat) (by
            have a1 : k.toNat * vs.length ≤ 1000 * 1000 := Nat.mul_le_mul (by omega) (by omega)
            rw [PyProof.Rows.lm_len_rep_flat, sizeLine_eq]
            omega) hq
          exact p W' _ _ s r'
      · cases e
    · cases e
  · obtain ⟨⟨a, vs, rfl, h1, h2, h3⟩, u1⟩ := r1
    obtain ⟨⟨b, ws, rfl, g1, g2, g3⟩, u2⟩ := r2
    replace p := p.of
    obtain ⟨d, e, p⟩ := p
    split at e
    · split at e
      · rename_i xs ys hl
        cases e
        have l1 := h3.length
        have l2 := g3.length
        refine .inr (.inr (.inr ⟨a, b, vs, ws, rfl, rfl, h.fz _ _ h1, h.fz _ _ g1, by rw [← l1, ← l2]; exact sizeLine_le hl, fun q hq => ?_⟩))
        obtain ⟨W', s, r'⟩ := new_lst h (RL.append ⟨h3, u1⟩ ⟨g3, u2⟩) (by rw [List.length_append, ← l1, ← l2]; exact sizeLine_le hl) hq
        exact p W' _ _ s r'
      · cases e
    · cases e
  · exact p.elim
/-! ### truth -/
theorem truth_ok {d : D} {v : V} {b : Bool} (h : SH T W M H) (r : RV T W M.length d v) (e : truth M d = some b) : TruV T.K v H b := by
  cases d with
  | non => cases r.1; cases e; rfl
  | bl c => cases r.1; cases e; rfl
  | int i => cases r.1; cases e; rfl
  | str x =>
    cases r.1
    simp only [truth] at e
    split at e
    · cases e
      refine ⟨sizeLine_le (by assumption), ?_⟩
      rw [Bool.eq_iff_iff]
      simp
    · cases e
  | tup ds =>
    obtain ⟨⟨a, vs, rfl, h1, h2, h3⟩, u1⟩ := r
    cases e
    refine .inr (.inl ⟨vs, h.sqT h1, ?_⟩)
    have := h3.length
    cases ds <;> cases vs <;> simp_all
  | lst ds =>
    obtain ⟨⟨a, vs, rfl, h1, h2, h3⟩, u1⟩ := r
    cases e
    refine .inl ⟨vs, .inl (.inl (h.fz _ _ h1)), ?_⟩
    have := h3.length
    cases ds <;> cases vs <;> simp_all
  | ref n =>
    have e2 : V.ref (W.io n) = v := r.1.symm
    subst e2
    simp only [truth] at e
    cases q : M[n]? with
    | none => rw [q] at e; cases e
    | some c =>
      rw [q] at e
      cases c with
      | lst ds =>
        cases e
        obtain ⟨vs, h1, h2, h3⟩ := h.cl n _ q
        refine .inl ⟨vs, .inl (.inl h1), ?_⟩
        have := h3.length
        cases ds <;> cases vs <;> simp_all
      | ins _ _ _ => cases e
      | dead => cases e
  | _ => cases e
/-! ### subscripts -/
theorem atI_reps {ds : List D} {vs : List V} {i : Int} {d : D} (r : RL T W M.length ds vs) (e : L2.atI ds i = some d) : ∃ v, L2.atI vs i = some v ∧ RV T W M.length d v := by
  unfold L2.atI at e ⊢
  rw [← r.1.length]
  cases q : L2.ixN ds.length i with
  | none => rw [q] at e; cases e
  | some j =>
    rw [q] at e
    obtain ⟨v, h1, h2⟩ := r.1.get (i := j) (d := d) e
    exact ⟨v, h1, h2, unds_iff.mp r.2 d (List.mem_of_getElem? e)⟩
theorem ix_ok {x y : D} {v w : V} (h : SH T W M H) (r1 : RV T W M.length x v) (r2 : RV T W M.length y w) (p : Post T Wx σ (RV T) W M (Rs.of (ixD M x y) M) Q) : rIx T.K v w H Q := by
  replace p := p.of
  obtain ⟨d, e, p⟩ := p
  unfold ixD at e
  split at e
  · rename_i i
    cases r2.1
    split at e
    · rename_i z
      cases r1.1
      split at e
      · rename_i hl
        cases q : L2.atI z.cps.toList i with
        | none => rw [q] at e; cases e
        | some c =>
          rw [q] at e
          cases e
          exact .inr (.inr ⟨z, i, c, rfl, rfl, sizeLine_le hl, q, p.ok h ⟨rfl, rfl⟩⟩)
      · cases e
    · split at e
      · rename_i xs q
        obtain ⟨a, vs, rfl, hq, rl, _⟩ := seq_ok h r1 q
        obtain ⟨z, h1, h2⟩ := atI_reps rl e
        rcases hq with hq | hq
        · exact .inl ⟨a, vs, i, z, rfl, rfl, hq, h1, p.ok h h2⟩
        · exact .inr (.inl ⟨a, vs, i, z, rfl, rfl, hq, h1, p.ok h h2⟩)
      · cases e
  · cases e
theorem unds_take {n : Nat} {l : List D} (k : Nat) (h : D.unds n l = true) : D.unds n (l.take k) = true := by
  rw [unds_iff] at h ⊢
  exact fun d hd => h d (List.mem_of_mem_take hd)
theorem unds_drop {n : Nat} {l : List D} (k : Nat) (h : D.unds n l = true) : D.unds n (l.drop k) = true := by
  rw [unds_iff] at h ⊢
  exact fun d hd => h d (List.mem_of_mem_drop hd)
theorem RL.cut {n : Nat} {ds : List D} {vs : List V} (r : RL T W n ds vs) (lo hi : Option Int) : RL T W n (cutD ds lo hi) (cutV vs lo hi) := by
  unfold cutD cutV
  rw [r.1.length]
  exact ⟨(r.1.drop _).take _, unds_take _ (unds_drop _ r.2)⟩
def rSl (K : PySem.W.Frag) : V → Option Int → Option Int → Hp → VK → Prop := fun x lo hi H Q => rSlL K x lo hi H Q ∨ (rSlA K x lo hi H Q ∨ rSlS x lo hi H Q)
theorem sl_any {X : Cx} : SlR X (rSl X.K) := sl_list.or (sl_tupA.or sl_str)
theorem cut_whole {α : Type} (xs : List α) (lo hi : Option Int) (h : HT.sIx xs.length 0 lo = 0 ∧ HT.sIx xs.length xs.length hi = xs.length) : cutD xs lo hi = xs := by
  unfold cutD
  rw [h.1, h.2]
  simp
theorem slD_ok {x : D} {v : V} {lo hi : Option Int} (h : SH T W M H) (r : RV T W M.length x v) (p : Post T Wx σ (RV T) W M (Rs.of (slD M x lo hi) M) Q) : rSl T.K v lo hi H Q := by
  replace p := p.of
  obtain ⟨d, e, p⟩ := p
  cases x with
  | str z =>
    cases r.1
    simp only [slD] at e
    split at e
    · rename_i hl
      cases e
      exact .inr (.inr ⟨z, rfl, sizeLine_le hl, p.ok h ⟨rfl, rfl⟩⟩)
    · cases e
  | tup ds =>
    obtain ⟨⟨a, vs, rfl, h1, h2, h3⟩, u1⟩ := r
    cases e
    have l1 := h3.length
    refine .inr (.inl ⟨a, vs, rfl, h.sqT h1, fun z => ?_, fun z q hq => ?_⟩)
    · rw [← l1] at z
      rw [cut_whole ds lo hi z] at p
      exact p.ok h ⟨⟨a, vs, rfl, h1, h2, h3⟩, u1⟩
    · obtain ⟨W', s, r'⟩ := new_tup h (RL.cut ⟨h3, u1⟩ lo hi) (Nat.le_trans (cutV_length _ _ _) h2) hq
      exact p W' _ _ s r'
  | lst ds =>
    obtain ⟨⟨a, vs, rfl, h1, h2, h3⟩, u1⟩ := r
    cases e
    refine .inl ⟨a, vs, rfl, .inl (.inl (h.fz _ _ h1)), fun q hq => ?_⟩
    obtain ⟨W', s, r'⟩ := new_lst h (RL.cut ⟨h3, u1⟩ lo hi) (Nat.le_trans (cutV_length _ _ _) h2) hq
    exact p W' _ _ s r'
  | ref n =>
    have e2 : V.ref (W.io n) = v := r.1.symm
    subst e2
    simp only [slD] at e
    cases q : M[n]? with
    | none => rw [q] at e; cases e
    | some c =>
      rw [q] at e
      cases c with
      | lst ds =>
        cases e
        obtain ⟨vs, h1, h2, h3⟩ := h.cl n _ q
        refine .inl ⟨_, vs, rfl, .inl (.inl h1), fun l hl => ?_⟩
        obtain ⟨W', s, r'⟩ := new_lst h (RL.cut ⟨h3, h.wf n _ q⟩ lo hi) (Nat.le_trans (cutV_length _ _ _) h2) hl
        exact p W' _ _ s r'
      | ins _ _ _ => cases e
      | dead => cases e
  | _ => cases e
end
end Dv
namespace Dv
open PySem PySem.Spec PyProof.Rows L2
/-! ### comparisons -/
def cOf : COp → CmpOp
  | .eq => .Eq | .ne => .NotEq | .lt => .Lt | .le => .LtE | .gt => .Gt | .ge => .GtE | .isIn => .In | .notIn => .NotIn | .is_ => .Is | .isNot => .IsNot
section
variable {X : Cx}
def rInT (K : PySem.W.Frag) : R2 := fun x y H Q => ∃ d ds, Dp K H x d ∧ Dp K H y (.tuple ds) ∧ SeqAt.shaped d = true ∧ SeqAt.shaped (.list ds) = true ∧ Q (.bl (ds.any fun z => PyData.eqv z d)) H
def rNotInT (K : PySem.W.Frag) : R2 := fun x y H Q => ∃ d ds, Dp K H x d ∧ Dp K H y (.tuple ds) ∧ SeqAt.shaped d = true ∧ SeqAt.shaped (.list ds) = true ∧ Q (.bl (!ds.any fun z => PyData.eqv z d)) H
theorem op_inT (hu : X.A.units + 65 < cLine) : OpR X (compareOp .In) (rInT X.K) := by
  intro pins s σ H x y v u Q I rx ry h
  obtain ⟨d, ds, hd, he, sd, se, q⟩ := h
  obtain ⟨as, r1⟩ := Dp.reads I d x v hd rx
  obtain ⟨bs, r2⟩ := Dp.reads I (.tuple ds) y u he ry
  exact SeqAt.in_tuple_reads r2 r1 (SeqAt.canLay_of_shaped se) (SeqAt.canLay_of_shaped sd) (room_in_shaped sd hu) ⟨.bl _, H, I, rfl, q⟩
theorem op_notInT (hu : X.A.units + 65 < cLine) : OpR X (compareOp .NotIn) (rNotInT X.K) := by
  intro pins s σ H x y v u Q I rx ry h
  obtain ⟨d, ds, hd, he, sd, se, q⟩ := h
  obtain ⟨as, r1⟩ := Dp.reads I d x v hd rx
  obtain ⟨bs, r2⟩ := Dp.reads I (.tuple ds) y u he ry
  exact SeqAt.notIn_tuple_reads r2 r1 (SeqAt.canLay_of_shaped se) (SeqAt.canLay_of_shaped sd) (room_in_shaped sd hu) ⟨.bl _, H, I, rfl, q⟩
/-- x is True, x is False -/
def isB (c : Bool) : V → Option Bool
  | .bl d => some (d == c)
  | .int _ => some false
  | .non => some false
  | .str _ => some false
  | _ => none
def rIsBl : R2 := fun x y H Q => ∃ c b, y = .bl c ∧ isB c x = some b ∧ Q (.bl b) H
theorem is_bool_gen {M : Model} {A : Around} {E : Value → Shared → Prop} {s : Shared} {Q : Value → Shared → Prop} {v : Value} {c : Bool} (hv : (∀ a, v ≠ .ref a) ∧ ∀ a, v ≠ .builtin a) (h : Q (.bool (v == .bool c)) s) : wpAny M A (compareOp .Is v (.bool c)) Q E s := by
  cases v <;> first | exact absurd rfl (hv.1 _) | exact absurd rfl (hv.2 _) | exact wpAny_pure h
theorem op_isBool : OpR X (compareOp .Is) rIsBl := by
  intro pins s σ H x y v u Q I rx ry h
  obtain ⟨c, b, rfl, e, q⟩ := h
  cases (show u = Value.bool c from ry)
  cases x with
  | bl d =>
    cases e
    cases (show v = Value.bool d from rx)
    exact is_bool_gen ⟨(fun _ z => by cases z), (fun _ z => by cases z)⟩ ⟨.bl _, H, I, by cases d <;> cases c <;> rfl, q⟩
  | int d =>
    cases e
    obtain ⟨t, rfl⟩ := rx
    exact is_bool_gen ⟨(fun _ z => by cases z), (fun _ z => by cases z)⟩ ⟨.bl _, H, I, rfl, q⟩
  | str d =>
    cases e
    obtain ⟨t, rfl⟩ := rx
    exact is_bool_gen ⟨(fun _ z => by cases z), (fun _ z => by cases z)⟩ ⟨.bl _, H, I, rfl, q⟩
  | non =>
    cases e
    cases (show v = Value.none from rx)
    exact is_bool_gen ⟨(fun _ z => by cases z), (fun _ z => by cases z)⟩ ⟨.bl _, H, I, rfl, q⟩
  | _ => cases e
abbrev rInStr : R2 := fun x y H Q => ∃ i j, x = .str i ∧ y = .str j ∧ Q (.bl (!(Builtin.Str.occurrences j i 0 j.length 1).isEmpty)) H
abbrev rNotInStr : R2 := fun x y H Q => ∃ i j, x = .str i ∧ y = .str j ∧ Q (.bl (!(!(Builtin.Str.occurrences j i 0 j.length 1).isEmpty))) H
def rCmp (K : PySem.W.Frag) : COp → R2
  | .eq => rEqD K
  | .ne => rNeD K
  | .lt => rI0 fun i j => .bl (decide (i < j))
  | .le => rI0 fun i j => .bl (decide (i ≤ j))
  | .gt => rI0 fun i j => .bl (decide (j < i))
  | .ge => rI0 fun i j => .bl (decide (j ≤ i))
  | .isIn => fun x y H Q => rInStr x y H Q ∨ (rInD K x y H Q ∨ rInT K x y H Q)
  | .notIn => fun x y H Q => rNotInStr x y H Q ∨ (rNotInD K x y H Q ∨ rNotInT K x y H Q)
  | .is_ => fun x y H Q => (y = .non ∧ Q (.bl (decide (x = .non))) H) ∨ rIsBl x y H Q
  | .isNot => fun x y H Q => y = .non ∧ Q (.bl (!decide (x = .non))) H
theorem op_cmp (hu : X.A.units + 65 < cLine) (o : COp) : OpR X (compareOp (cOf o)) (rCmp X.K o) := by
  cases o with
  | eq => exact op_eqD (by omega)
  | ne => exact op_neD (by omega)
  | lt => exact op_lt
  | le => exact op_le
  | gt => exact op_gt
  | ge => exact op_ge
  | isIn => exact op_in_str.or ((op_inD hu).or (op_inT hu))
  | notIn => exact op_notin_str.or ((op_notInD hu).or (op_notInT hu))
  | is_ => exact op_isN.or op_isBool
  | isNot => exact op_notN
end
section
variable {T : Stat} {Wx : WX} {σ : L2.St} {W : Wd} {M : Store} {H : Hp} {Q : VK}
theorem eq_ok {x y : D} {v w : V} {b : Bool} (h : SH T W M H) (r1 : RV T W M.length x v) (r2 : RV T W M.length y w) (e : eqD (D.see M 1 x) (D.see M 1 y) = some b) :
    ∃ d e, Dp T.K H v d ∧ Dp T.K H w e ∧ SeqAt.shaped d = true ∧ SeqAt.shaped e = true ∧ PyData.eqv d e = b := by
  unfold eqD at e
  split at e
  · rename_i p q e1 e2
    split at e
    · rename_i hs
      cases e
      rw [Bool.and_eq_true] at hs
      exact ⟨p, q, h.dpS r1.1 e1, h.dpS r2.1 e2, hs.1, hs.2, rfl⟩
    · cases e
  · cases e
theorem in_ok {x y : D} {v w : V} {b : Bool} (h : SH T W M H) (r1 : RV T W M.length x v) (r2 : RV T W M.length y w) (e : inD M x y = some b) :
    (∃ i j, v = .str i ∧ w = .str j ∧ (!(Builtin.Str.occurrences j i 0 j.length 1).isEmpty) = b) ∨
    (∃ d ds, Dp T.K H v d ∧ (Dp T.K H w (.list ds) ∨ Dp T.K H w (.tuple ds)) ∧ SeqAt.shaped d = true ∧ SeqAt.shaped (.list ds) = true ∧ (ds.any fun z => PyData.eqv z d) = b) := by
  unfold inD at e
  split at e
  · cases e
    cases r1.1
    cases r2.1
    exact .inl ⟨_, _, rfl, rfl, rfl⟩
  · split at e
    · rename_i ys q
      split at e
      · rename_i d ds e1 e2
        split at e
        · rename_i hs
          cases e
          rw [Bool.and_eq_true] at hs
          obtain ⟨a, vs, rfl, hq, rl, _⟩ := seq_ok h r2 q
          have dl := h.dpl ys vs ds rl.1 e2
          refine .inr ⟨d, ds, h.dp _ _ _ r1.1 e1, ?_, hs.1, hs.2, rfl⟩
          rcases hq with hq | hq
          · exact .inl (.lst hq dl)
          · exact .inr (.tup hq dl)
        · cases e
      · cases e
    · cases e
theorem none_rep {d : D} {v : V} {n : Nat} (r : RV T W n d v) : decide (v = .non) = isNone d := by
  cases d with
  | non => cases r.1; rfl
  | bl _ => cases r.1; rfl
  | int _ => cases r.1; rfl
  | str _ => cases r.1; rfl
  | tup _ => obtain ⟨⟨a, _, e, _⟩, _⟩ := r; rw [e]; rfl
  | lst _ => obtain ⟨⟨a, _, e, _⟩, _⟩ := r; rw [e]; rfl
  | obj _ _ _ => obtain ⟨⟨a, _, _, e, _⟩, _⟩ := r; rw [e]; rfl
  | exn _ _ _ => obtain ⟨⟨a, _, _, e, _⟩, _⟩ := r; rw [e]; rfl
  | ref _ => rw [show v = _ from r.1]; rfl
  | scr _ => obtain ⟨⟨a, e, _⟩, _⟩ := r; rw [e]; rfl
theorem cmp_ok {o : COp} {x y : D} {v w : V} (h : SH T W M H) (r1 : RV T W M.length x v) (r2 : RV T W M.length y w) (p : Post T Wx σ (RV T) W M (Rs.of (cmp o M x y) M) Q) : rCmp T.K o v w H Q := by
  replace p := p.of
  obtain ⟨d, e, p⟩ := p
  have fin : ∀ b, d = .bl b → Q (.bl b) H := fun b z => by subst z; exact p.ok h ⟨rfl, rfl⟩
  cases o with
  | eq =>
    simp only [cmp, Option.map_eq_some_iff] at e
    obtain ⟨b, e, rfl⟩ := e
    obtain ⟨d, e, h1, h2, h3, h4, h5⟩ := eq_ok h r1 r2 e
    exact ⟨d, e, h1, h2, h3, h4, by rw [h5]; exact fin b rfl⟩
  | ne =>
    simp only [cmp, Option.map_eq_some_iff] at e
    obtain ⟨b, e, rfl⟩ := e
    obtain ⟨d, e, h1, h2, h3, h4, h5⟩ := eq_ok h r1 r2 e
    exact ⟨d, e, h1, h2, h3, h4, by rw [h5]; exact fin _ rfl⟩
  | isIn =>
    simp only [cmp, Option.map_eq_some_iff] at e
    obtain ⟨b, e, rfl⟩ := e
    rcases in_ok h r1 r2 e with ⟨i, j, h1, h2, h3⟩ | ⟨d, ds, h1, h2, h3, h4, h5⟩
    · exact .inl ⟨i, j, h1, h2, by rw [h3]; exact fin b rfl⟩
    · rcases h2 with h2 | h2
      · exact .inr (.inl ⟨d, ds, h1, h2, h3, h4, by rw [h5]; exact fin b rfl⟩)
      · exact .inr (.inr ⟨d, ds, h1, h2, h3, h4, by rw [h5]; exact fin b rfl⟩)
  | notIn =>
    simp only [cmp, Option.map_eq_some_iff] at e
    obtain ⟨b, e, rfl⟩ := e
    rcases in_ok h r1 r2 e with ⟨i, j, h1, h2, h3⟩ | ⟨d, ds, h1, h2, h3, h4, h5⟩
    · exact .inl ⟨i, j, h1, h2, by rw [h3]; exact fin _ rfl⟩
    · rcases h2 with h2 | h2
      · exact .inr (.inl ⟨d, ds, h1, h2, h3, h4, by rw [h5]; exact fin _ rfl⟩)
      · exact .inr (.inr ⟨d, ds, h1, h2, h3, h4, by rw [h5]; exact fin _ rfl⟩)
  | is_ =>
    simp only [cmp] at e
    split at e
    · cases e
      cases r2.1
      exact .inl ⟨rfl, by rw [none_rep r1]; exact fin _ rfl⟩
    · rename_i c
      cases r2.1
      split at e <;> first
        | (cases e; cases r1.1; exact .inr ⟨c, _, rfl, rfl, by first | (rw [Bool.beq_comm]; exact fin _ rfl) | exact fin _ rfl⟩)
        | cases e
    · cases e
  | isNot =>
    simp only [cmp] at e
    split at e
    · cases e
      cases r2.1
      exact ⟨rfl, by rw [none_rep r1]; exact fin _ rfl⟩
    · cases e
  | lt =>
    simp only [cmp] at e
    split at e
    · cases e; cases r1.1; cases r2.1; exact ⟨_, _, rfl, rfl, fin _ rfl⟩
    · cases e
  | le =>
    simp only [cmp] at e
    split at e
    · cases e; cases r1.1; cases r2.1; exact ⟨_, _, rfl, rfl, fin _ rfl⟩
    · cases e
  | gt =>
    simp only [cmp] at e
    split at e
    · cases e; cases r1.1; cases r2.1; exact ⟨_, _, rfl, rfl, fin _ rfl⟩
    · cases e
  | ge =>
    simp only [cmp] at e
    split at e
    · cases e; cases r1.1; cases r2.1; exact ⟨_, _, rfl, rfl, fin _ rfl⟩
    · cases e
/-! ### attributes -/
theorem look_names (inj : ∀ i j, T.atn i = T.atn j → i = j) (f : Nat) : ∀ {ks : List Nat} {ds : List D} {vs : List V} {d : D}, RL T W M.length ds vs → ks.length = vs.length → look f ks ds = some d → ∃ v, (names T ks vs).lookup (T.atn f) = some v ∧ RV T W M.length d v
  | [], ds, _, d, _, _, e => by simp [look] at e
  | k :: ks, [], _, d, _, _, e => by simp [look] at e
  | k :: ks, x :: ds, vs, d, r, hl, e => by
    obtain ⟨⟨v, w, e1, h1, h2⟩, u⟩ := r
    subst e1
    have u' : x.und M.length = true ∧ D.unds M.length ds = true := by simpa [D.unds] using u
    unfold look at e
    by_cases hk : k = f
    · rw [if_pos hk] at e
      cases e
      refine ⟨v, ?_, h1, u'.1⟩
      subst hk
      simp [names, List.lookup]
    · rw [if_neg hk] at e
      obtain ⟨z, h3, h4⟩ := look_names inj f (ks := ks) ⟨h2, u'.2⟩ (by simpa using hl) e
      refine ⟨z, ?_, h4⟩
      have hne : (T.atn f == T.atn k) = false := beq_eq_false_iff_ne.mpr fun z => hk (inj _ _ z.symm)
      simp only [names, List.map_cons, List.zip_cons_cons, List.lookup, hne]
      exact h3
/-! ### isinstance -/
end
end Dv
/-! Expressions: each form by the layer's rule. -/
namespace Dv
open PySem PySem.Spec PyProof.Rows L2
section
variable {T : Stat} {X : Cx} {XP : XPT} {Wx : WX} {C : Cfg} {a b c : Expr} {ea eb ec : E} {pos : Pos}
theorem e_int {i : Int} {j : Nat} : PE X (.Constant (.int i) j pos) (tE T XP Wx C (.k (.int i))) := PE.weak pe_int fun _ _ _ ⟨_, _, _, at_, p⟩ => Post.ok (R := RV T) p at_.sh ⟨rfl, rfl⟩
theorem e_str {i : Str} {j : Nat} : PE X (.Constant (.str i) j pos) (tE T XP Wx C (.k (.str i))) := PE.weak pe_str fun _ _ _ ⟨_, _, _, at_, p⟩ => Post.ok (R := RV T) p at_.sh ⟨rfl, rfl⟩
theorem e_bl {i : Bool} {j : Nat} : PE X (.Constant (.bool i) j pos) (tE T XP Wx C (.k (.bl i))) := PE.weak pe_bl fun _ _ _ ⟨_, _, _, at_, p⟩ => Post.ok (R := RV T) p at_.sh ⟨rfl, rfl⟩
theorem e_non {j : Nat} : PE X (.Constant .none j pos) (tE T XP Wx C (.k .non)) := PE.weak pe_non fun _ _ _ ⟨_, _, _, at_, p⟩ => Post.ok (R := RV T) p at_.sh ⟨rfl, rfl⟩
theorem e_v {i : Nat} {x : Str} (hN : X.N[i]? = some x) (hv : Vis X.env.scope x) (hd : (x == ("__debug__" : Str)) = false) (hcd : (x == ("__classdict__" : Str)) = false) : PE X (.Name x pos) (tE T XP Wx C (.v i)) := by
  refine PE.weak (pe_var hN hv hd hcd) fun σ H Q ⟨W, ρ, M, at_, p⟩ => ?_
  simp only [ev] at p
  split at p
  · rename_i d e
    obtain ⟨v, h1, h2, h3⟩ := at_.env.at_ i d e
    exact ⟨v, h1, p.ok at_.sh ⟨h2, h3⟩⟩
  · exact p.elim
theorem e_g {x : Nat} {n : Str} {u : Value} {v : V} (hg : Gl X n) (hm : X.mg n = some u) (r : RelV v u) (hd : (n == ("__debug__" : Str)) = false) (hr : ∀ d, C.glob x = some d → ∀ W m, RV T W m d v) : PE X (.Name n pos) (tE T XP Wx C (.g x)) := by
  refine PE.weak (pe_glob hg hm r hd) fun σ H Q ⟨W, ρ, M, at_, p⟩ => ?_
  simp only [ev] at p
  obtain ⟨d, e, p⟩ := p.of
  exact p.ok at_.sh (hr d e W M.length)
/-! ### argument lists -/
theorem a_nil : PA X [] (tA T XP Wx C .nil) := PA.weak pa_nil fun _ _ _ ⟨_, _, _, at_, p⟩ => Post.ok (R := RL T) p at_.sh ⟨rfl, rfl⟩
theorem a_cons {es : List Expr} {ess : Es} (ha : PE X a (tE T XP Wx C ea)) (hr : PA X es (tA T XP Wx C ess)) (hs : starEach (a :: es) X.env = (false, eval a X.env) :: starEach es X.env) : PA X (a :: es) (tA T XP Wx C (.cons ea ess)) := by
  refine PA.weak (pa_cons ha hr hs) fun σ H Q ⟨W, ρ, M, at_, p⟩ => ?_
  simp only [evs] at p
  refine ⟨W, ρ, M, at_, p.bind fun x M1 W1 v H1 s1 r1 p1 => ⟨W1, ρ, M1, at_.step s1, p1.bind fun y M2 W2 w H2 s2 r2 p2 => ?_⟩⟩
  refine p2.ok s2.sh ⟨⟨v, w, rfl, (r1.up s2).1, r2.1⟩, ?_⟩
  simp only [D.unds, Bool.and_eq_true]
  exact ⟨(r1.up s2).2, r2.2⟩
theorem a_star {es : List Expr} {ess : Es} {p0 : Pos} (hK : X.K = T.K) (ha : PE X a (tE T XP Wx C ea)) (hr : PA X es (tA T XP Wx C ess)) (hs : starEach (.Starred a p0 :: es) X.env = (true, eval a X.env) :: starEach es X.env) : PA X (.Starred a p0 :: es) (tA T XP Wx C (.star ea ess)) := by
  refine PA.weak (StX.pa_star ha hr hs) fun σ H Q ⟨W, ρ, M, at_, p⟩ => ?_
  simp only [evs] at p
  refine ⟨W, ρ, M, at_, p.bind fun x M1 W1 v H1 s1 r1 p1 => ?_⟩
  split at p1
  · rename_i xs e
    obtain ⟨q, vs, rfl, hq, rl, _⟩ := seq_ok s1.sh r1 e
    refine ⟨q, vs, rfl, by rw [hK]; exact hq.symm, W1, ρ, M1, at_.step s1, p1.bind fun y M2 W2 w H2 s2 r2 p2 => ?_⟩
    exact p2.ok s2.sh ((rl.up s2).append r2)
  · exact p1.elim
theorem RL.len {W : Wd} {n : Nat} {ds : List D} {vs : List V} (r : RL T W n ds vs) : ds.length = vs.length := r.1.length
theorem e_tup {es : List Expr} {ess : Es} {x1 : Nat} (h : PA X es (tA T XP Wx C ess)) : PE X (.Tuple es x1 pos) (tE T XP Wx C (.tup ess)) := by
  refine PE.weak (pe_tup h) fun σ H Q ⟨W, ρ, M, at_, p⟩ => ?_
  simp only [ev] at p
  refine ⟨W, ρ, M, at_, p.bind fun ds M1 W1 vs H1 s1 r1 p1 => ?_⟩
  split at p1
  · rename_i hl
    rw [r1.len] at hl
    refine ⟨sizeLine_le hl, fun q hq => ?_⟩
    obtain ⟨W', s, r'⟩ := new_tup s1.sh r1 (sizeLine_le hl) hq
    exact p1 W' _ _ s r'
  · exact p1.elim
theorem e_lst {es : List Expr} {ess : Es} {r : Bool} (h : PA X es (tA T XP Wx C ess)) : PE X (.List es pos) (tE T XP Wx C (.lst r ess)) := by
  refine PE.weak (pe_lst h) fun σ H Q ⟨W, ρ, M, at_, p⟩ => ?_
  simp only [ev] at p
  refine ⟨W, ρ, M, at_, p.bind fun ds M1 W1 vs H1 s1 r1 p1 => ?_⟩
  split at p1
  · rename_i hl
    rw [r1.len] at hl
    exact ⟨sizeLine_le hl, newL_ok s1.sh r1 (sizeLine_le hl) p1⟩
  · exact p1.elim
/-! ### operators -/
theorem e_bin {o : BOp} (hK : X.K = T.K) (ha : PE X a (tE T XP Wx C ea)) (hb : PE X b (tE T XP Wx C eb)) : PE X (.BinOp a (opOf o) b pos) (tE T XP Wx C (.bin o ea eb)) := by
  refine PE.weak (pe_op (op_bin o) ha hb) fun σ H Q ⟨W, ρ, M, at_, p⟩ => ?_
  simp only [ev] at p
  refine ⟨W, ρ, M, at_, p.bind fun x M1 W1 v H1 s1 r1 p1 => ⟨W1, ρ, M1, at_.step s1, p1.bind fun y M2 W2 w H2 s2 r2 p2 => ?_⟩⟩
  rw [hK]
  exact bin_ok s2.sh (r1.up s2) r2 p2
theorem e_neg (ha : PE X a (tE T XP Wx C ea)) : PE X (.UnaryOp .USub a pos) (tE T XP Wx C (.neg ea)) := by
  refine PE.weak (pe_un un_neg ha) fun σ H Q ⟨W, ρ, M, at_, p⟩ => ?_
  simp only [ev] at p
  refine ⟨W, ρ, M, at_, p.bind fun x M1 W1 v H1 s1 r1 p1 => ?_⟩
  split at p1
  · cases r1.1
    exact ⟨_, rfl, p1.ok s1.sh ⟨rfl, rfl⟩⟩
  · exact p1.elim
theorem e_not (hK : X.K = T.K) (ha : PE X a (tE T XP Wx C ea)) : PE X (.UnaryOp .Not a pos) (tE T XP Wx C (.not ea)) := by
  refine PE.weak (pe_notT ha) fun σ H Q ⟨W, ρ, M, at_, p⟩ => ?_
  simp only [ev] at p
  rw [show ((ev C ea ρ M).bind (tru C)).bind (fun b M1 => Rs.ok (D.bl (!b)) M1) = (ev C ea ρ M).bind fun d M1 => ((tru C d M1).bind fun b M2 => Rs.ok (D.bl (!b)) M2) by cases ev C ea ρ M <;> rfl] at p
  refine ⟨W, ρ, M, at_, p.bind fun x M1 W1 v H1 s1 r1 p1 => ?_⟩
  unfold tru at p1
  cases e : truth M1 x with
  | none => rw [e] at p1; exact p1.elim
  | some k =>
    rw [e] at p1
    exact ⟨k, by rw [hK]; exact truth_ok s1.sh r1 e, Post.ok (R := RV T) p1 s1.sh ⟨rfl, rfl⟩⟩
/-- and, or: the list of operands -/
theorem e_and1 (ha : PE X a (tE T XP Wx C ea)) : PE X (.BoolOp .And [a] pos) (tE T XP Wx C (.and (.cons ea .nil))) := PE.weak (pe_one ha) fun σ H Q ⟨W, ρ, M, at_, p⟩ => ⟨W, ρ, M, at_, by simpa only [ev, evAnd] using p⟩
theorem e_or1 (ha : PE X a (tE T XP Wx C ea)) : PE X (.BoolOp .Or [a] pos) (tE T XP Wx C (.or (.cons ea .nil))) := PE.weak (pe_one ha) fun σ H Q ⟨W, ρ, M, at_, p⟩ => ⟨W, ρ, M, at_, by simpa only [ev, evOr] using p⟩
theorem e_and {rest : List Expr} {eb : E} {er : Es} (hK : X.K = T.K) (ha : PE X a (tE T XP Wx C ea)) (hb : PE X (.BoolOp .And (b :: rest) pos) (tE T XP Wx C (.and (.cons eb er)))) : PE X (.BoolOp .And (a :: b :: rest) pos) (tE T XP Wx C (.and (.cons ea (.cons eb er)))) := by
  refine PE.weak (pe_andT ha hb) fun σ H Q ⟨W, ρ, M, at_, p⟩ => ?_
  simp only [ev] at p
  rw [evAnd] at p
  · refine ⟨W, ρ, M, at_, p.bind fun x M1 W1 v H1 s1 r1 p1 => ?_⟩
    split at p1
    · rename_i e
      refine ⟨true, by rw [hK]; exact truth_ok s1.sh r1 e, ?_⟩
      rw [if_pos rfl]
      exact ⟨W1, ρ, M1, at_.step s1, by simpa only [ev] using p1⟩
    · rename_i e
      refine ⟨false, by rw [hK]; exact truth_ok s1.sh r1 e, ?_⟩
      rw [if_neg Bool.false_ne_true]
      exact p1.ok s1.sh r1
    · exact p1.elim
  · intro z; cases z
theorem e_or {rest : List Expr} {eb : E} {er : Es} (hK : X.K = T.K) (ha : PE X a (tE T XP Wx C ea)) (hb : PE X (.BoolOp .Or (b :: rest) pos) (tE T XP Wx C (.or (.cons eb er)))) : PE X (.BoolOp .Or (a :: b :: rest) pos) (tE T XP Wx C (.or (.cons ea (.cons eb er)))) := by
  refine PE.weak (pe_orT ha hb) fun σ H Q ⟨W, ρ, M, at_, p⟩ => ?_
  simp only [ev] at p
  rw [evOr] at p
  · refine ⟨W, ρ, M, at_, p.bind fun x M1 W1 v H1 s1 r1 p1 => ?_⟩
    split at p1
    · rename_i e
      refine ⟨false, by rw [hK]; exact truth_ok s1.sh r1 e, ?_⟩
      rw [if_neg Bool.false_ne_true]
      exact ⟨W1, ρ, M1, at_.step s1, by simpa only [ev] using p1⟩
    · rename_i e
      refine ⟨true, by rw [hK]; exact truth_ok s1.sh r1 e, ?_⟩
      rw [if_pos rfl]
      exact p1.ok s1.sh r1
    · exact p1.elim
  · intro z; cases z
/-! ### tests -/
theorem t_plain (hK : X.K = T.K) (ha : PE X a (tE T XP Wx C ea)) (he : ∀ whole, isTrue a X.env whole = (do let v ← whole; standAt a.pos; holding [v] (truthy v))) : PT X a (tT T XP Wx C ea) := by
  refine PT.weak (pt_truth ha he) fun σ H Q ⟨W, ρ, M, at_, p⟩ => ?_
  refine ⟨W, ρ, M, at_, p.bind fun x M1 W1 v H1 s1 r1 p1 => ?_⟩
  unfold tru at p1
  cases e : truth M1 x with
  | none => rw [e] at p1; exact p1.elim
  | some k =>
    rw [e] at p1
    exact ⟨k, by rw [hK]; exact truth_ok s1.sh r1 e, Post.ok (R := RB) p1 s1.sh rfl⟩
theorem t_not (ha : PT X a (tT T XP Wx C ea)) : PT X (.UnaryOp .Not a pos) (tT T XP Wx C (.not ea)) := by
  refine PT.weak (pt_not ha) fun σ H Q ⟨W, ρ, M, at_, p⟩ => ?_
  refine ⟨W, ρ, M, at_, ?_⟩
  have p' : Post T Wx σ RB W M ((evT C ea ρ M).bind fun b M1 => Rs.ok (!b) M1) Q := by
    have e : evT C (.not ea) ρ M = (evT C ea ρ M).bind fun b M1 => Rs.ok (!b) M1 := by
      unfold evT
      simp only [ev]
      cases (ev C ea ρ M).bind (tru C) <;> rfl
    rw [← e]; exact p
  exact p'.bind fun x M1 W1 v H1 s1 r1 p1 => by
    cases r1
    exact p1.ok s1.sh rfl
def PWx (X : Cx) (T : Stat) (XP : XPT) (Wx : WX) (C : Cfg) (op : BoolOp) (es : List Expr) (pos : Pos) (e : E) : Prop := PW X (.BoolOp op es pos) (tT T XP Wx C e)
theorem t_and1 (ha : PT X a (tT T XP Wx C ea)) : PW X (.BoolOp .And [a] pos) (tT T XP Wx C (.and (.cons ea .nil))) := PW.weak (pw_and1 ha) fun σ H Q ⟨W, ρ, M, at_, p⟩ => ⟨W, ρ, M, at_, by
  have e : evT C (.and (.cons ea .nil)) ρ M = evT C ea ρ M := by unfold evT; simp only [ev, evAnd]
  rw [← e]; exact p⟩
theorem t_or1 (ha : PT X a (tT T XP Wx C ea)) : PW X (.BoolOp .Or [a] pos) (tT T XP Wx C (.or (.cons ea .nil))) := PW.weak (pw_or1 ha) fun σ H Q ⟨W, ρ, M, at_, p⟩ => ⟨W, ρ, M, at_, by
  have e : evT C (.or (.cons ea .nil)) ρ M = evT C ea ρ M := by unfold evT; simp only [ev, evOr]
  rw [← e]; exact p⟩
theorem evT_and {ρ : Env} {M : Store} {er : Es} : evT C (.and (.cons ea (.cons eb er))) ρ M = (evT C ea ρ M).bind fun b M1 => if b then evT C (.and (.cons eb er)) ρ M1 else .ok false M1 := by
  unfold evT
  simp only [ev]
  rw [evAnd]
  · cases ev C ea ρ M with
    | ok d M1 =>
      simp only [Rs.bind, tru]
      cases e : truth M1 d with
      | none => rfl
      | some k =>
        cases k with
        | true => simp only [Rs.of, if_true]
        | false => simp only [Rs.of, Bool.false_eq_true, if_false, e]
    | ex x M1 => rfl
    | no => rfl
  · intro z; cases z
theorem evT_or {ρ : Env} {M : Store} {er : Es} : evT C (.or (.cons ea (.cons eb er))) ρ M = (evT C ea ρ M).bind fun b M1 => if b then .ok true M1 else evT C (.or (.cons eb er)) ρ M1 := by
  unfold evT
  simp only [ev]
  rw [evOr]
  · cases ev C ea ρ M with
    | ok d M1 =>
      simp only [Rs.bind, tru]
      cases e : truth M1 d with
      | none => rfl
      | some k =>
        cases k with
        | true => simp only [Rs.of, if_true, e]
        | false => simp only [Rs.of, Bool.false_eq_true, if_false]
    | ex x M1 => rfl
    | no => rfl
  · intro z; cases z
theorem t_and {rest : List Expr} {er : Es} (ha : PT X a (tT T XP Wx C ea)) (hb : PW X (.BoolOp .And (b :: rest) pos) (tT T XP Wx C (.and (.cons eb er)))) : PW X (.BoolOp .And (a :: b :: rest) pos) (tT T XP Wx C (.and (.cons ea (.cons eb er)))) := by
  refine PW.weak (pw_and ha hb) fun σ H Q ⟨W, ρ, M, at_, p⟩ => ?_
  rw [evT_and] at p
  refine ⟨W, ρ, M, at_, p.bind fun x M1 W1 v H1 s1 r1 p1 => ?_⟩
  cases r1
  cases x with
  | true => rw [if_pos rfl]; exact ⟨W1, ρ, M1, at_.step s1, p1⟩
  | false => rw [if_neg Bool.false_ne_true]; exact Post.ok (R := RB) p1 s1.sh rfl
theorem t_or {rest : List Expr} {er : Es} (ha : PT X a (tT T XP Wx C ea)) (hb : PW X (.BoolOp .Or (b :: rest) pos) (tT T XP Wx C (.or (.cons eb er)))) : PW X (.BoolOp .Or (a :: b :: rest) pos) (tT T XP Wx C (.or (.cons ea (.cons eb er)))) := by
  refine PW.weak (pw_or ha hb) fun σ H Q ⟨W, ρ, M, at_, p⟩ => ?_
  rw [evT_or] at p
  refine ⟨W, ρ, M, at_, p.bind fun x M1 W1 v H1 s1 r1 p1 => ?_⟩
  cases r1
  cases x with
  | true => rw [if_pos rfl]; exact Post.ok (R := RB) p1 s1.sh rfl
  | false => rw [if_neg Bool.false_ne_true]; exact ⟨W1, ρ, M1, at_.step s1, p1⟩
theorem e_ite (hc : PT X c (tT T XP Wx C ec)) (ha : PE X a (tE T XP Wx C ea)) (hb : PE X b (tE T XP Wx C eb)) : PE X (.IfExp c a b pos) (tE T XP Wx C (.ite ec ea eb)) := by
  refine PE.weak (pe_ifExp hc ha hb) fun σ H Q ⟨W, ρ, M, at_, p⟩ => ?_
  have p' : Post T Wx σ (RV T) W M ((evT C ec ρ M).bind fun t M1 => if t then ev C ea ρ M1 else ev C eb ρ M1) Q := by simpa only [ev, evT] using p
  refine ⟨W, ρ, M, at_, p'.bind fun x M1 W1 v H1 s1 r1 p1 => ?_⟩
  cases r1
  cases x with
  | true => rw [if_pos rfl]; exact ⟨W1, ρ, M1, at_.step s1, p1⟩
  | false => rw [if_neg Bool.false_ne_true]; exact ⟨W1, ρ, M1, at_.step s1, p1⟩
/-! ### subscripts -/
theorem e_ix (hK : X.K = T.K) (ha : PE X a (tE T XP Wx C ea)) (hb : PE X b (tE T XP Wx C eb)) (hs : PlainIx b) : PE X (.Subscript a b pos) (tE T XP Wx C (.ix ea eb)) := by
  refine PE.weak (pe_ix ix_seq ha hb hs) fun σ H Q ⟨W, ρ, M, at_, p⟩ => ?_
  simp only [ev] at p
  refine ⟨W, ρ, M, at_, p.bind fun x M1 W1 v H1 s1 r1 p1 => ⟨W1, ρ, M1, at_.step s1, p1.bind fun y M2 W2 w H2 s2 r2 p2 => ?_⟩⟩
  rw [hK]
  exact ix_ok s2.sh (r1.up s2) r2 p2
/-- an optional part of a slice -/
def tO (T : Stat) (XP : XPT) (Wx : WX) (C : Cfg) (es : Es) : TO := fun σ H Q => ∃ W ρ M, At T XP σ H W ρ M ∧ Post T Wx σ (fun _ _ a b => b = a) W M (evO C es ρ M) Q
theorem o_none : PO X none (tO T XP Wx C .nil) := ⟨fun pins s σ H Q I h => po_none.run pins s σ H Q I (by
  obtain ⟨W, ρ, M, at_, p⟩ := h
  exact Post.ok (R := fun _ _ a b => b = a) p at_.sh rfl)⟩
theorem o_some (h : PE X a (tE T XP Wx C ea)) : PO X (some a) (tO T XP Wx C (.cons ea .nil)) := ⟨fun pins s σ H Q I q => (po_some h).run pins s σ H Q I (by
  obtain ⟨W, ρ, M, at_, p⟩ := q
  simp only [evO] at p
  refine ⟨W, ρ, M, at_, p.bind fun x M1 W1 v H1 s1 r1 p1 => ?_⟩
  split at p1
  · cases r1.1
    exact ⟨_, rfl, p1.ok s1.sh rfl⟩
  · exact p1.elim)⟩
theorem e_sl {lo hi : Option Expr} {el eh : Es} {p2 : Pos} (hK : X.K = T.K) (ha : PE X a (tE T XP Wx C ea)) (hl : PO X lo (tO T XP Wx C el)) (hh : PO X hi (tO T XP Wx C eh)) : PE X (.Subscript a (.Slice lo hi none p2) pos) (tE T XP Wx C (.sl ea el eh)) := by
  refine PE.weak (pe_slice sl_any ha hl hh) fun σ H Q ⟨W, ρ, M, at_, p⟩ => ?_
  simp only [ev] at p
  refine ⟨W, ρ, M, at_, p.bind fun x M1 W1 v H1 s1 r1 p1 => ⟨W1, ρ, M1, at_.step s1, p1.bind fun l M2 W2 l2 H2 s2 r2 p2 => ⟨W2, ρ, M2, (at_.step s1).step s2, p2.bind fun h M3 W3 h3 H3 s3 r3 p3 => ?_⟩⟩⟩
  subst r2 r3
  rw [hK]
  exact slD_ok s3.sh ((r1.up s2).up s3) p3
end
end Dv
namespace Dv
open PySem PySem.Spec PyProof.Rows L2
/-! ### types -/
def tyV (T : Stat) (M : Store) : D → Value
  | .non => .type "NoneType"
  | .bl _ => .type "bool"
  | .int _ => .type "int"
  | .str _ => .type "str"
  | .tup _ => .type "tuple"
  | .lst _ => .type "list"
  | .scr _ => .type "list"
  | .obj c _ _ => .ref (T.cls c)
  | .exn c _ _ => .ref (T.cls c)
  | .ref n => match M[n]? with
    | some (.lst _) => .type "list"
    | some (.ins c _ _) => .ref (T.cls c)
    | _ => .none
section
variable {T : Stat} {W : Wd} {M : Store} {H : Hp}
theorem ins_ty {c : Nat} {a dx : Addr} {fs : List (Str × V)} (co : ClsOk T c) (e : H a = some (.ins (T.cls c) dx fs)) : TyX T.K H (.ref a) (.ref (T.cls c)) := .base (.ins e co.cl co.ha co.hn co.htk co.hm)
theorem tyx_ok {C : Cfg} {d : D} {v : V} (h : SH T W M H) (r : RV T W M.length d v) (q : eqTy C M d = true) : TyX T.K H v (tyV T M d) := by
  cases d with
  | non => cases r.1; exact .base .non
  | bl b => cases r.1; exact .base (.bl b)
  | int b => cases r.1; exact .base (.int b)
  | str b => cases r.1; exact .base (.str b)
  | tup ds =>
    obtain ⟨⟨a, vs, rfl, h1, _⟩, _⟩ := r
    rcases h.sqT h1 with (z | ⟨o, z⟩) | ⟨o, its, n, z, hc, _⟩
    · exact .base (.tup z)
    · exact .fTuple z
    · exact .kTuple z hc
  | lst ds =>
    obtain ⟨⟨a, vs, rfl, h1, _⟩, _⟩ := r
    exact .base (.lst (h.fz _ _ h1))
  | scr ns =>
    obtain ⟨⟨a, rfl, h1, _⟩, _⟩ := r
    rcases h.sqL h1 with (z | ⟨o, z⟩) | ⟨o, its, n, z, hc, _⟩
    · exact .base (.lst z)
    · exact .base (.frz z)
    · exact .kList z hc
  | obj c ks ds =>
    obtain ⟨⟨a, dx, vs, rfl, h1, ⟨_, h2⟩, _⟩, _⟩ := r
    exact ins_ty h2.co (h.fz _ _ h1)
  | exn _ _ _ => cases q
  | ref n =>
    have e2 : V.ref (W.io n) = v := r.1.symm
    subst e2
    unfold eqTy at q
    unfold tyV
    cases e : M[n]? with
    | none => simp only [e] at q; cases q
    | some c =>
      simp only [e] at q ⊢
      cases c with
      | lst ds =>
        obtain ⟨vs, h1, _⟩ := h.cl n _ e
        exact .base (.lst h1)
      | ins c ks ds =>
        obtain ⟨dx, vs, h1, ⟨_, h2⟩, _⟩ := h.cl n _ e
        exact ins_ty h2.co h1
      | dead => cases q
end
/-! ### facts of the law's text -/
def bltNames : List String := ["isinstance", "len", "abs", "int", "min", "max", "all", "any", "tuple", "list", "range", "enumerate", "zip", "bool", "str", "sorted", "set", "super"]
/-- classes: what isinstance says -/
structure ClsF (T : Stat) (C : Cfg) : Prop where
  inj : ∀ i j, T.atn i = T.atn j → i = j
  ko : ∀ c d, C.cok c = true → C.cok d = true → PySem.W.kitOne T.K (.ref (T.cls c)) (.ref (T.cls d)) = some (C.sub c d)
  kb : ∀ t ∈ ["NoneType", "bool", "int", "str", "tuple", "list"], ∀ d, C.cok d = true → PySem.W.kitOne T.K (.type t) (.ref (T.cls d)) = some false
  kt : ∀ c, C.cok c = true → ∀ t ∈ ["int", "bool", "str", "tuple", "list"], PySem.W.kitOne T.K (.ref (T.cls c)) (.type t) = some false
def tyNm : Ty → String
  | .int => "int" | .bool => "bool" | .str => "str" | .tuple => "tuple" | .list => "list" | .own _ => ""
def tyVal (T : Stat) : Ty → Value
  | .own d => .ref (T.cls d)
  | t => .type (tyNm t)
def tyV2 (T : Stat) : Ty → V
  | .own d => .ref (T.cls d)
  | t => .ty (tyNm t)
theorem tyV2_ok {T : Stat} (t : Ty) : ClsV (tyV2 T t) (tyVal T t) := by cases t <;> first | exact .own _ | exact .ty _
section
variable {T : Stat} {C : Cfg} {W : Wd} {M : Store} {H : Hp}
theorem kitB_all : ∀ a ∈ ["NoneType", "bool", "int", "str", "tuple", "list"], ∀ b ∈ ["int", "bool", "str", "tuple", "list"], kitB a b = some (a == b || (a == "bool" && b == "int")) := by decide +kernel
theorem blt_ok (F : ClsF T C) {t : Ty} {a : String} {own b : Bool} (ha : a ∈ ["NoneType", "bool", "int", "str", "tuple", "list"]) (ho : (match t with | .own _ => true | t => own == (a == tyNm t || (a == "bool" && tyNm t == "int"))) = true) (e : tyBlt C.cok t own = some b) : PySem.W.kitOne T.K (.type a) (tyVal T t) = some b := by
  cases t with
  | own d =>
    simp only [tyBlt] at e
    split at e
    · cases e; exact F.kb a ha d (by assumption)
    · cases e
  | int => cases e; rw [beq_iff_eq.mp ho]; exact kit_ty (kitB_all a ha "int" (by simp))
  | bool => cases e; rw [beq_iff_eq.mp ho]; exact kit_ty (kitB_all a ha "bool" (by simp))
  | str => cases e; rw [beq_iff_eq.mp ho]; exact kit_ty (kitB_all a ha "str" (by simp))
  | tuple => cases e; rw [beq_iff_eq.mp ho]; exact kit_ty (kitB_all a ha "tuple" (by simp))
  | list => cases e; rw [beq_iff_eq.mp ho]; exact kit_ty (kitB_all a ha "list" (by simp))
theorem own_ok (F : ClsF T C) {t : Ty} {c : Nat} {b : Bool} (e : tyOwn C.cok C.sub c t = some b) : PySem.W.kitOne T.K (.ref (T.cls c)) (tyVal T t) = some b := by
  cases t with
  | own d =>
    simp only [tyOwn] at e
    split at e
    · rename_i q
      rw [Bool.and_eq_true] at q
      cases e
      exact F.ko c d q.1 q.2
    · cases e
  | _ =>
    simp only [tyOwn] at e
    split at e
    · cases e
      exact F.kt c (by assumption) _ (by simp [tyNm])
    · cases e
theorem isiOne_ok (F : ClsF T C) {d : D} {t : Ty} {b : Bool} (q : eqTy C M d = true) (e : isiOne C.cok C.sub M d t = some b) : PySem.W.kitOne T.K (tyV T M d) (tyVal T t) = some b := by
  cases d with
  | non => exact blt_ok F (by simp) (by cases t <;> rfl) e
  | bl x => exact blt_ok F (by simp) (by cases t <;> rfl) e
  | int x => exact blt_ok F (by simp) (by cases t <;> rfl) e
  | str x => exact blt_ok F (by simp) (by cases t <;> rfl) e
  | tup x => exact blt_ok F (by simp) (by cases t <;> rfl) e
  | lst x => exact blt_ok F (by simp) (by cases t <;> rfl) e
  | scr x => cases e
  | obj c ks vs => exact own_ok F e
  | exn c ks vs => cases q
  | ref n =>
    unfold tyV
    simp only [isiOne] at e
    cases z : M[n]? with
    | none => simp only [z] at e; cases e
    | some c =>
      simp only [z] at e ⊢
      cases c with
      | lst ds => exact blt_ok F (by simp) (by cases t <;> rfl) e
      | ins c ks ds => exact own_ok F e
      | dead => cases e
theorem isiD_ok (F : ClsF T C) {d : D} (q : eqTy C M d = true) : ∀ {ts : List Ty} {b : Bool}, isiD C.cok C.sub M d ts = some b → PySem.W.kitAny T.K (tyV T M d) (ts.map (tyVal T)) = some b
  | [], b, e => by cases e; rfl
  | t :: ts, b, e => by
    simp only [isiD] at e
    split at e
    · cases e
      exact kitAny_cons (isiOne_ok F q (by assumption)) (fun z => by cases z) fun _ => rfl
    · exact kitAny_cons (isiOne_ok F q (by assumption)) (fun _ => isiD_ok F q e) fun z => by cases z
    · cases e
/-- an isinstance that is answered is asked of a value with a type -/
theorem isi_ty {d : D} {t : Ty} {ts : List Ty} {b : Bool} (x : ∀ c ks vs, d ≠ .exn c ks vs) (e : isiD C.cok C.sub M d (t :: ts) = some b) : eqTy C M d = true := by
  have o : ∃ b, isiOne C.cok C.sub M d t = some b := by
    simp only [isiD] at e
    split at e
    · exact ⟨_, by assumption⟩
    · exact ⟨_, by assumption⟩
    · cases e
  obtain ⟨b', o⟩ := o
  have own : ∀ c, tyOwn C.cok C.sub c t = some b' → C.cok c = true := fun c z => by
    cases t with
    | own d =>
      simp only [tyOwn] at z
      split at z
      · rename_i q
        rw [Bool.and_eq_true] at q
        exact q.1
      · cases z
    | _ =>
      simp only [tyOwn] at z
      split at z
      · assumption
      · cases z
  cases d with
  | exn c ks vs => exact absurd rfl (x c ks vs)
  | obj c ks vs => exact own c o
  | ref n =>
    unfold eqTy
    simp only [isiOne] at o
    cases z : M[n]? with
    | none => simp only [z] at o; cases o
    | some c =>
      simp only [z] at o ⊢
      cases c with
      | lst ds => rfl
      | ins c ks ds => exact own c o
      | dead => cases o
  | _ => rfl
end
section
variable {T : Stat} {X : Cx} {XP : XPT} {Wx : WX} {C : Cfg} {a b c : Expr} {ea eb ec : E} {pos : Pos}
end
end Dv
namespace Dv
open PySem PySem.Spec PyProof.Rows L2
/-! ### heaps, more -/
section
variable {T : Stat} {W : Wd} {M : Store} {H : Hp}
/-- something that no world speaks of -/
theorem SH.other (h : SH T W M H) {p : Addr} {o : HO} (hp : H p = none) : SH T W M (upd H p o) := by
  have ne : ∀ (n : Nat) (c : Cell), M[n]? = some c → c ≠ .dead → W.io n ≠ p := fun n c e d z => by
    obtain ⟨u, hu⟩ := (h.cl n c e).live d
    rw [z, hp] at hu
    cases hu
  refine ⟨fun a u e => ?_, fun n c e => ?_, h.nf, h.inj, h.wf, fun a u e => ?_, h.frc⟩
  · rw [upd_ne (ne_of_none (h.fz _ _ e) hp)]
    exact h.fz _ _ e
  · exact (h.cl n c e).le (n := M.length) Le.rfl (h.wf n c e) fun d => upd_ne (ne n c e d)
  · rw [upd_ne (ne_of_none (h.fr a u e).1 hp)]
    exact h.fr a u e
theorem Post.gc {Wx : WX} {σ : L2.St} {Q : VK} {r : Rs D} (p : Post T Wx σ (RV T) W M (gc M r) Q) (h : SH T W M H) : Post T Wx σ (RV T) W M r Q := by
  cases r with
  | ok d M' =>
    intro W' v H' s q
    simp only [Dv.gc] at p
    split at p
    · rename_i c
      rw [Bool.and_eq_true] at c
      have sh := s.sh.cut h.wf c.2
      have hl : (M'.take M.length).length = M.length := by rw [List.length_take]; have := s.len; omega
      exact p W' v H' ⟨s.le, by rw [hl]; exact Nat.le_refl _, sh⟩ ⟨q.1, by rw [hl]; exact c.1⟩
    · exact p W' v H' s q
  | ex x M' =>
    intro W' cls dd H' s q
    simp only [Dv.gc] at p
    split at p
    · rename_i c
      rw [Bool.and_eq_true] at c
      have sh := s.sh.cut h.wf c.2
      have hl : (M'.take M.length).length = M.length := by rw [List.length_take]; have := s.len; omega
      exact p W' cls dd H' ⟨s.le, by rw [hl]; exact Nat.le_refl _, sh⟩ ⟨q.1, by rw [hl]; exact c.1, q.2.2⟩
    · exact p W' cls dd H' s q
  | no => exact p
end
/-! ### builtin functions -/
section
variable {T : Stat} {X : Cx} {XP : XPT} {Wx : WX} {C : Cfg} {W : Wd} {M : Store} {H : Hp} {σ : L2.St} {Q : VK}
def biNm : Bi → String
  | .len => "len" | .abs => "abs" | .int => "int" | .min => "min" | .max => "max" | .all => "all" | .any => "any" | .tuple => "tuple" | .list _ => "list" | .nset => "len"
theorem bools_map : ∀ {xs : List D} {bs : List Bool} {vs : List V}, bools xs = some bs → Reps T W xs vs → vs = bs.map V.bl
  | [], bs, vs, e, r => by cases e; exact r
  | x :: xs, bs, vs, e, r => by
    obtain ⟨v, w, e1, h1, h2⟩ := r
    cases x with
    | bl b =>
      simp only [bools, Option.map_eq_some_iff] at e
      obtain ⟨bs', e, rfl⟩ := e
      cases h1
      rw [e1, bools_map e h2]
      rfl
    | _ => cases e
theorem txts_map : ∀ {xs : List D} {bs : List Str} {vs : List V}, txts xs = some bs → Reps T W xs vs → vs = bs.map V.str
  | [], bs, vs, e, r => by cases e; exact r
  | x :: xs, bs, vs, e, r => by
    obtain ⟨v, w, e1, h1, h2⟩ := r
    cases x with
    | str b =>
      simp only [txts, Option.map_eq_some_iff] at e
      obtain ⟨bs', e, rfl⟩ := e
      cases h1
      rw [e1, txts_map e h2]
      rfl
    | _ => cases e
theorem RL.one {n : Nat} {d : D} {vs : List V} (r : RL T W n [d] vs) : ∃ v, vs = [v] ∧ RV T W n d v := by
  obtain ⟨⟨v, w, e, h1, h2⟩, u⟩ := r
  rw [Reps] at h2
  subst h2
  simp only [D.unds, Bool.and_true] at u
  exact ⟨v, e, h1, u⟩
theorem RL.two {n : Nat} {d e : D} {vs : List V} (r : RL T W n [d, e] vs) : ∃ v w, vs = [v, w] ∧ RV T W n d v ∧ RV T W n e w := by
  obtain ⟨⟨v, w, e1, h1, w2, w3, e2, h2, h3⟩, u⟩ := r
  rw [Reps] at h3
  subst h3 e2
  simp only [D.unds, Bool.and_true, Bool.and_eq_true] at u
  exact ⟨v, w2, e1, ⟨h1, u.1⟩, h2, u.2⟩
theorem RL.zero {n : Nat} {vs : List V} (r : RL T W n [] vs) : vs = [] := r.1
abbrev rLenA (K : PySem.W.Frag) : List V → Hp → VK → Prop := fun xs H Q => (∃ z, xs = [.str z] ∧ z.length ≤ sizeLine ∧ Q (.int z.length) H) ∨ ∃ p ys, xs = [.ref p] ∧ (SqL K H p ys ∨ SqT K H p ys) ∧ Q (.int ys.length) H
theorem len_ok {ds : List D} {vs : List V} (h : SH T W M H) (r : RL T W M.length ds vs) (p : Post T Wx σ (RV T) W M (lenD M ds) Q) : rLenA T.K vs H Q := by
  unfold lenD at p
  split at p
  · obtain ⟨v, rfl, r1⟩ := r.one
    cases r1.1
    split at p
    · exact .inl ⟨_, rfl, sizeLine_le (by assumption), p.ok h ⟨rfl, rfl⟩⟩
    · exact p.elim
  · obtain ⟨v, rfl, r1⟩ := r.one
    split at p
    · rename_i xs e
      obtain ⟨a, vs, rfl, hq, rl, _⟩ := seq_ok h r1 e
      exact .inr ⟨a, vs, rfl, hq, by rw [← rl.1.length]; exact p.ok h ⟨rfl, rfl⟩⟩
    · exact p.elim
  · exact p.elim
theorem call_lenA : CallR X (.builtin "len") (rLenA X.K) := call_len_str.or call_len_seq
theorem abs_ok {ds : List D} {vs : List V} (h : SH T W M H) (r : RL T W M.length ds vs) (p : Post T Wx σ (RV T) W M (absD M ds) Q) : ∃ i, vs = [.int i] ∧ Q (.int (if i < 0 then -i else i)) H := by
  unfold absD at p
  split at p
  · obtain ⟨v, rfl, r1⟩ := r.one
    cases r1.1
    exact ⟨_, rfl, p.ok h ⟨rfl, rfl⟩⟩
  · exact p.elim
theorem int_ok {ds : List D} {vs : List V} (h : SH T W M H) (r : RL T W M.length ds vs) (p : Post T Wx σ (RV T) W M (intD M ds) Q) : (∃ i, vs = [.int i] ∧ Q (.int i) H) ∨ ∃ k, vs = [.bl k] ∧ Q (.int (if k then 1 else 0)) H := by
  unfold intD at p
  split at p
  · obtain ⟨v, rfl, r1⟩ := r.one
    cases r1.1
    exact .inl ⟨_, rfl, p.ok h ⟨rfl, rfl⟩⟩
  · obtain ⟨v, rfl, r1⟩ := r.one
    cases r1.1
    exact .inr ⟨_, rfl, p.ok h ⟨rfl, rfl⟩⟩
  · exact p.elim
theorem min_ok {ds : List D} {vs : List V} (h : SH T W M H) (r : RL T W M.length ds vs) (p : Post T Wx σ (RV T) W M (minD M ds) Q) : ∃ i j, vs = [.int i, .int j] ∧ Q (.int (if j < i then j else i)) H := by
  unfold minD at p
  split at p
  · obtain ⟨v, w, rfl, r1, r2⟩ := r.two
    cases r1.1
    cases r2.1
    exact ⟨_, _, rfl, p.ok h ⟨rfl, rfl⟩⟩
  · exact p.elim
theorem max_ok {ds : List D} {vs : List V} (h : SH T W M H) (r : RL T W M.length ds vs) (p : Post T Wx σ (RV T) W M (maxD M ds) Q) : ∃ i j, vs = [.int i, .int j] ∧ Q (.int (if j > i then j else i)) H := by
  unfold maxD at p
  split at p
  · obtain ⟨v, w, rfl, r1, r2⟩ := r.two
    cases r1.1
    cases r2.1
    exact ⟨_, _, rfl, p.ok h ⟨rfl, rfl⟩⟩
  · exact p.elim
theorem all_ok {ds : List D} {vs : List V} (h : SH T W M H) (r : RL T W M.length ds vs) (p : Post T Wx σ (RV T) W M (allD M ds) Q) : rAll T.K vs H Q := by
  unfold allD at p
  split at p
  · obtain ⟨v, rfl, r1⟩ := r.one
    obtain ⟨⟨a, ws, rfl, h1, h2, h3⟩, _⟩ := r1
    split at p
    · rename_i bs e
      exact ⟨a, bs, rfl, by rw [← bools_map e h3]; exact .inl (.inl (h.fz _ _ h1)), p.ok h ⟨rfl, rfl⟩⟩
    · exact p.elim
  · exact p.elim
theorem any_ok {ds : List D} {vs : List V} (h : SH T W M H) (r : RL T W M.length ds vs) (p : Post T Wx σ (RV T) W M (anyD M ds) Q) : rAny T.K vs H Q := by
  unfold anyD at p
  split at p
  · obtain ⟨v, rfl, r1⟩ := r.one
    obtain ⟨⟨a, ws, rfl, h1, h2, h3⟩, _⟩ := r1
    split at p
    · rename_i bs e
      exact ⟨a, bs, rfl, by rw [← bools_map e h3]; exact .inl (.inl (h.fz _ _ h1)), p.ok h ⟨rfl, rfl⟩⟩
    · exact p.elim
  · exact p.elim
theorem tuple_ok {ds : List D} {vs : List V} (h : SH T W M H) (r : RL T W M.length ds vs) (p : Post T Wx σ (RV T) W M (tupleD M ds) Q) :
    ∃ q ys, vs = [.ref q] ∧ ((SqL T.K H q ys ∧ ∀ l, H l = none → Q (.ref l) (upd H l (.tup ys))) ∨ (SqT T.K H q ys ∧ Q (.ref q) H)) := by
  unfold tupleD at p
  split at p
  · rename_i d
    obtain ⟨v, rfl, r1⟩ := r.one
    split at p
    · rename_i xs e
      cases d with
      | tup ds =>
        cases e
        have r1' := r1
        obtain ⟨⟨a, ws, rfl, h1, h2, h3⟩, _⟩ := r1
        exact ⟨a, ws, rfl, .inr ⟨h.sqT h1, p.ok h r1'⟩⟩
      | lst ds =>
        cases e
        obtain ⟨⟨a, ws, rfl, h1, h2, h3⟩, u⟩ := r1
        refine ⟨a, ws, rfl, .inl ⟨.inl (.inl (h.fz _ _ h1)), fun l hl => ?_⟩⟩
        obtain ⟨W', s, r'⟩ := new_tup h ⟨h3, u⟩ h2 hl
        exact p W' _ _ s r'
      | ref n =>
        have e2 : V.ref (W.io n) = v := r1.1.symm
        subst e2
        simp only [seqOf] at e
        cases q : M[n]? with
        | none => rw [q] at e; cases e
        | some c =>
          rw [q] at e
          cases c with
          | lst ds =>
            cases e
            obtain ⟨ws, h1, h2, h3⟩ := h.cl n _ q
            refine ⟨_, ws, rfl, .inl ⟨.inl (.inl h1), fun l hl => ?_⟩⟩
            obtain ⟨W', s, r'⟩ := new_tup h ⟨h3, h.wf n _ q⟩ h2 hl
            exact p W' _ _ s r'
          | ins _ _ _ => cases e
          | dead => cases e
      | scr ns =>
        obtain ⟨a, ws, rfl, hq, rl, hl⟩ := seq_ok h r1 e
        obtain ⟨⟨a', e1, h1, h2⟩, _⟩ := r1
        cases e1
        have hq' := h.sqL h1
        cases e
        have e3 : ws = ns.map V.int := by
          have : ∀ (l : List Int) (w : List V), Reps T W (l.map D.int) w → w = l.map V.int := fun l => by
            induction l with
            | nil => intro w z; exact z
            | cons i l ih =>
              intro w z
              obtain ⟨v, w', e, z1, z2⟩ := z
              cases z1
              rw [e, ih w' z2]
              rfl
          exact this ns ws rl.1
        subst e3
        refine ⟨a, _, rfl, .inl ⟨hq', fun l hl' => ?_⟩⟩
        obtain ⟨W', s, r'⟩ := new_tup h rl hl hl'
        exact p W' _ _ s r'
      | _ => cases e
    · exact p.elim
  · exact p.elim
theorem list_ok {rr : Bool} {ds : List D} {vs : List V} (h : SH T W M H) (r : RL T W M.length ds vs) (p : Post T Wx σ (RV T) W M (listD rr M ds) Q) :
    ∃ q ys, vs = [.ref q] ∧ (SqL T.K H q ys ∨ SqT T.K H q ys) ∧ ∀ l, H l = none → Q (.ref l) (upd H l (.lst ys)) := by
  unfold listD at p
  split at p
  · obtain ⟨v, rfl, r1⟩ := r.one
    split at p
    · rename_i xs e
      obtain ⟨a, ws, rfl, hq, rl, hl⟩ := seq_ok h r1 e
      exact ⟨a, ws, rfl, hq, newL_ok h rl hl p⟩
    · exact p.elim
  · exact p.elim
end
section
variable {T : Stat} {X : Cx} {XP : XPT} {Wx : WX} {C : Cfg} {a : Expr} {es : List Expr} {ess : Es} {x : Str} {p pos : Pos}
/-- a builtin by its name -/
theorem e_bi {b : Bi} (hK : X.K = T.K) (hc : X.calm = true) (hx : x = Str.ofString (biNm b)) (hg : Gl X x) (hm : X.mg x = none) (ha : PA X (a :: es) (tA T XP Wx C ess)) (he : starEach (a :: es) X.env = (false, eval a X.env) :: starEach es X.env) (hpl : (backTo pos (starEach es X.env)).any (·.1) = false) :
    PE X (.Call (.Name x p) (a :: es) [] pos) (tE T XP Wx C (.bi b ess)) := by
  have go : ∀ {r : List V → Hp → VK → Prop}, (∀ {W : Wd} {M : Store} {H : Hp} {σ : L2.St} {Q : VK} {ds : List D} {vs : List V}, SH T W M H → RL T W M.length ds vs → Post T Wx σ (RV T) W M (biD b M ds) Q → r vs H Q) → ∀ σ H Q, tE T XP Wx C (.bi b ess) σ H Q → tCB r (tA T XP Wx C ess) σ H Q := fun k σ H Q ⟨W, ρ, M, at_, p⟩ => by
    simp only [ev] at p
    exact ⟨W, ρ, M, at_, p.bind fun ds M1 W1 vs H1 s1 r1 p1 => k s1.sh r1 p1⟩
  subst hx
  cases b with
  | len => exact PE.weak (pe_callB call_lenA hg hm (by decide +kernel) ha (by decide +kernel) (by decide +kernel) he hpl) (go (by rw [hK]; exact fun h r p => len_ok h r p))
  | abs => exact PE.weak (pe_callB call_abs hg hm (by decide +kernel) ha (by decide +kernel) (by decide +kernel) he hpl) (go fun h r p => abs_ok h r p)
  | int => exact PE.weak (pe_callTy call_int1 hg hm (by decide +kernel) ha (by decide +kernel) (by decide +kernel) he hpl) (go fun h r p => int_ok h r p)
  | min => exact PE.weak (pe_callB (call_min2 hc) hg hm (by decide +kernel) ha (by decide +kernel) (by decide +kernel) he hpl) (go fun h r p => min_ok h r p)
  | max => exact PE.weak (pe_callB (call_max2 hc) hg hm (by decide +kernel) ha (by decide +kernel) (by decide +kernel) he hpl) (go fun h r p => max_ok h r p)
  | all => exact PE.weak (pe_callB (cr_all hc) hg hm (by decide +kernel) ha (by decide +kernel) (by decide +kernel) he hpl) (go (by rw [hK]; exact fun h r p => all_ok h r p))
  | any => exact PE.weak (pe_callB (cr_any hc) hg hm (by decide +kernel) ha (by decide +kernel) (by decide +kernel) he hpl) (go (by rw [hK]; exact fun h r p => any_ok h r p))
  | tuple => exact PE.weak (pe_callTy call_tuple_of hg hm (by decide +kernel) ha (by decide +kernel) (by decide +kernel) he hpl) (go (by rw [hK]; exact fun h r p => tuple_ok h r p))
  | list rr =>
    change Gl X (Str.ofString "list") at hg
    change X.mg (Str.ofString "list") = none at hm
    exact PE.weak (pe_callTy (x := Str.ofString "list") call_list_of hg hm (by decide +kernel) ha (by decide +kernel) (by decide +kernel) he hpl) (go (by rw [hK]; exact fun h r p => list_ok h r p))
  | nset => exact PE.weak (pe_callB call_lenA hg hm (by decide +kernel) ha (by decide +kernel) (by decide +kernel) he hpl) (go fun h r p => False.elim p)
end
end Dv
namespace Dv
open PySem PySem.Spec PyProof.Rows L2
/-! ### plain forms -/
def notStar : Expr → Bool
  | .Starred _ _ => false
  | _ => true
theorem star_plain {e : Expr} {es : List Expr} {env : PySem.Env} (h : notStar e = true) : starEach (e :: es) env = (false, eval e env) :: starEach es env := by
  cases e <;> first | rfl | cases h
theorem stars_none {env : PySem.Env} {pos : Pos} : ∀ {es : List Expr}, es.all notStar = true → (backTo pos (starEach es env)).any (·.1) = false
  | [], _ => rfl
  | e :: es, h => by
    simp only [List.all_cons, Bool.and_eq_true] at h
    rw [star_plain h.1]
    simp only [backTo, List.map_cons, List.any_cons, Bool.false_or]
    exact stars_none h.2
/-- no super() -/
def plainBase : Expr → Bool
  | .Call (.Name _ _) [] [] _ => false
  | _ => true
theorem base_plain {o : Expr} {n : Str} {env : PySem.Env} {w : Sem Value} (h : plainBase o = true) : attributeBase o n env w = w := by
  unfold attributeBase
  split
  · cases h
  · rfl
theorem few_one {env : PySem.Env} {e : Expr} {pos : Pos} (h : notStar e = true) : ((backTo pos (starEach [e] env)).all (fun x => !x.1) && (backToKw pos (keywordEach [] env)).all (fun x => x.1.isSome) && decide (([e] : List Expr).length + ([] : List Keyword).length + (if ([] : List Keyword).isEmpty then 0 else 1) < 30)) = true := by
  rw [star_plain h]
  rfl
/-! ### methods of lists and texts -/
section
variable {T : Stat} {X : Cx} {XP : XPT} {Wx : WX} {C : Cfg} {W : Wd} {M : Store} {H : Hp} {σ : L2.St} {Q : VK}
theorem cell_lst {n : Nat} {xs : List D} (h : SH T W M H) (e : M[n]? = some (.lst xs)) : ∃ vs, H (W.io n) = some (.lst vs) ∧ vs.length ≤ sizeLine ∧ RL T W M.length xs vs := by
  obtain ⟨vs, h1, h2, h3⟩ := h.cl n _ e
  exact ⟨vs, h1, h2, h3, h.wf n _ e⟩
theorem set_cell {n : Nat} {xs ys : List D} {vs : List V} (h : SH T W M H) (e : M[n]? = some (.lst xs)) (r : RL T W M.length ys vs) (hl : vs.length ≤ sizeLine) : Stp T W M W (M.set n (.lst ys)) (upd H (W.io n) (.lst vs)) :=
  ⟨Le.rfl, by rw [List.length_set]; exact Nat.le_refl _, h.write e (fun z => nomatch z) (fun z => nomatch z) r.2 ⟨vs, upd_same, hl, r.1⟩⟩
theorem RL.of1 {n : Nat} {d : D} {v : V} (r : RV T W n d v) : RL T W n [d] [v] := ⟨Reps.one r.1, by simp only [D.unds, Bool.and_true]; exact r.2⟩
theorem append_ok {x : D} {v : V} {ds : List D} {vs : List V} (h : SH T W M H) (rx : RV T W M.length x v) (r : RL T W M.length ds vs) (p : Post T Wx σ (RV T) W M (appendD M x ds) Q) : rAppend v vs H Q := by
  unfold appendD at p
  split at p
  · rename_i n d
    obtain ⟨w, rfl, r1⟩ := r.one
    have e2 : V.ref (W.io n) = v := rx.1.symm
    subst e2
    split at p
    · rename_i xs e
      obtain ⟨ws, h1, h2, rl⟩ := cell_lst h e
      split at p
      · rename_i hl
        rw [rl.1.length] at hl
        refine ⟨_, ws, w, rfl, rfl, h1, by rw [sizeLine_eq]; exact hl, ?_⟩
        exact p W _ _ (set_cell h e (rl.append (RL.of1 r1)) (by rw [List.length_append, List.length_singleton, sizeLine_eq]; exact hl)) ⟨rfl, rfl⟩
      · exact p.elim
    · exact p.elim
  · exact p.elim
theorem unds_sub {n : Nat} {l l' : List D} (h : D.unds n l = true) (s : ∀ d ∈ l', d ∈ l) : D.unds n l' = true := by
  rw [unds_iff] at h ⊢
  exact fun d hd => h d (s d hd)
theorem reps_dropLast {ds : List D} {vs : List V} (r : Reps T W ds vs) : Reps T W ds.dropLast vs.dropLast := by
  rw [List.dropLast_eq_take, List.dropLast_eq_take, r.length]
  exact r.take _
theorem pop_ok {x : D} {v : V} {ds : List D} {vs : List V} (h : SH T W M H) (rx : RV T W M.length x v) (r : RL T W M.length ds vs) (p : Post T Wx σ (RV T) W M (popD M x ds) Q) : rPop v vs H Q := by
  unfold popD at p
  split at p
  · rename_i n
    have := r.zero
    subst this
    have e2 : V.ref (W.io n) = v := rx.1.symm
    subst e2
    split at p
    · rename_i xs e
      obtain ⟨ws, h1, h2, rl⟩ := cell_lst h e
      split at p
      · rename_i y ey
        obtain ⟨z, h3, h4⟩ := rl.1.get ey
        refine ⟨_, ws, z, rfl, rfl, h1, by rw [← rl.1.length]; exact h3, ?_⟩
        have s := set_cell h e (ys := xs.dropLast) (vs := ws.dropLast) ⟨reps_dropLast rl.1, unds_sub rl.2 fun d hd => List.dropLast_subset xs hd⟩ (by rw [List.length_dropLast]; omega)
        refine p W _ _ s ⟨h4, ?_⟩
        rw [List.length_set]
        exact unds_iff.mp rl.2 y (List.mem_of_getElem? ey)
      · exact p.elim
    · exact p.elim
  · exact p.elim
theorem popAt_ok {x : D} {v : V} {ds : List D} {vs : List V} (h : SH T W M H) (rx : RV T W M.length x v) (r : RL T W M.length ds vs) (p : Post T Wx σ (RV T) W M (popAtD M x ds) Q) : rPopAt v vs H Q := by
  unfold popAtD at p
  split at p
  · rename_i n i
    obtain ⟨w, rfl, r1⟩ := r.one
    cases r1.1
    have e2 : V.ref (W.io n) = v := rx.1.symm
    subst e2
    split at p
    · rename_i xs e
      obtain ⟨ws, h1, h2, rl⟩ := cell_lst h e
      have hsz := sizeLine_eq
      split at p
      · rename_i hi
        split at p
        · rename_i y ey
          obtain ⟨z, h3, h4⟩ := rl.1.get ey
          have hl := rl.1.length
          refine ⟨_, ws, i, i.toNat, z, rfl, rfl, h1, by omega, by omega, ?_, h3, ?_⟩
          · have := (ixN_seq (n := ws.length) (i := i) (j := i.toNat) (by unfold ixN; rw [if_pos hi.1, if_pos (by omega)])).1
            exact this
          · have s := set_cell h e (ys := xs.eraseIdx i.toNat) (vs := ws.eraseIdx i.toNat) ⟨rl.1.erase _, unds_sub rl.2 fun d hd => List.mem_of_mem_eraseIdx hd⟩ (Nat.le_trans (len_erase _ _) h2)
            refine p W _ _ s ⟨h4, ?_⟩
            rw [List.length_set]
            exact unds_iff.mp rl.2 y (List.mem_of_getElem? ey)
        · exact p.elim
      · exact p.elim
    · exact p.elim
  · exact p.elim
theorem extend_ok {x : D} {v : V} {ds : List D} {vs : List V} (h : SH T W M H) (rx : RV T W M.length x v) (r : RL T W M.length ds vs) (p : Post T Wx σ (RV T) W M (extendD M x ds) Q) : rExtend v vs H Q := by
  unfold extendD at p
  split at p
  · rename_i n ys
    obtain ⟨w, rfl, r1⟩ := r.one
    obtain ⟨⟨b, us, rfl, g1, g2, g3⟩, u⟩ := r1
    have e2 : V.ref (W.io n) = v := rx.1.symm
    subst e2
    split at p
    · rename_i xs e
      obtain ⟨ws, h1, h2, rl⟩ := cell_lst h e
      split at p
      · rename_i hl
        rw [rl.1.length, g3.length] at hl
        refine ⟨_, b, ws, us, rfl, rfl, h1, h.fz _ _ g1, by rw [sizeLine_eq]; exact hl, ?_⟩
        exact p W _ _ (set_cell h e (rl.append ⟨g3, u⟩) (by rw [List.length_append, sizeLine_eq]; exact hl)) ⟨rfl, rfl⟩
      · exact p.elim
    · exact p.elim
  · exact p.elim
abbrev rJoin (K : PySem.W.Frag) : V → List V → Hp → VK → Prop := fun x xs H Q => ∃ a p ys, x = .str a ∧ xs = [.ref p] ∧ (SqL K H p (List.map V.str ys) ∨ SqT K H p (List.map V.str ys)) ∧ (List.map (fun x => x.length) ys).sum + ys.length * a.length ≤ 16777216 ∧ Q (.str (Txt.join a ys)) H
theorem join_ok {x : D} {v : V} {ds : List D} {vs : List V} (h : SH T W M H) (rx : RV T W M.length x v) (r : RL T W M.length ds vs) (p : Post T Wx σ (RV T) W M (joinD M x ds) Q) : rJoin T.K v vs H Q := by
  unfold joinD at p
  split at p
  · obtain ⟨w, rfl, r1⟩ := r.one
    cases rx.1
    obtain ⟨⟨b, us, rfl, g1, g2, g3⟩, u⟩ := r1
    split at p
    · rename_i ys e
      split at p
      · rename_i hl
        exact ⟨_, b, ys, rfl, rfl, .inl (by rw [← txts_map e g3]; exact .inl (.inl (h.fz _ _ g1))), hl, p.ok h ⟨rfl, rfl⟩⟩
      · exact p.elim
    · exact p.elim
  · exact p.elim
theorem reps_txts : ∀ zs : List Str, Reps T W (zs.map D.str) (zs.map V.str)
  | [] => rfl
  | z :: zs => ⟨_, _, rfl, rfl, reps_txts zs⟩
theorem unds_txts (n : Nat) : ∀ zs : List Str, D.unds n (zs.map D.str) = true
  | [] => rfl
  | z :: zs => by simp only [List.map_cons, D.unds, D.und, Bool.true_and]; exact unds_txts n zs
end
end Dv
namespace Dv
open PySem PySem.Spec PyProof.Rows L2
section
variable {T : Stat} {X : Cx} {XP : XPT} {Wx : WX} {C : Cfg} {a o b : Expr} {ea eo eb : E} {apos pos : Pos}
def bmNm : Bm → String
  | .append => "append" | .pop => "pop" | .popAt => "pop" | .extend => "extend" | .insert => "insert" | .split => "split" | .join => "join" | .upper => "upper" | .index => "index"
def bmTy : Bm → String
  | .split => "str" | .join => "str" | .upper => "str" | _ => "list"
theorem recv_ty {m : Bm} {W : Wd} {M : Store} {H : Hp} {x : D} {v : V} (h : SH T W M H) (r : RV T W M.length x v) (e : recvOk m M x = true) : L2.tyV T.K (bmTy m) v H := by
  have lst : ∀ n, x = .ref n → (∃ xs, M[n]? = some (.lst xs)) → L2.tyV T.K "list" v H := fun n hx ⟨xs, q⟩ => by
    subst hx
    have e2 : V.ref (W.io n) = v := r.1.symm
    subst e2
    obtain ⟨vs, h1, _⟩ := h.cl n _ q
    exact .inl ⟨rfl, vs, .inl (.inl h1)⟩
  unfold recvOk at e
  split at e
  · cases r.1; rfl
  · cases r.1; rfl
  · cases r.1; rfl
  · cases e
  · cases e
  · cases e
  · rename_i n h1 h2 h3
    split at e
    · rename_i xs q
      cases m with
      | split => exact absurd rfl h2
      | join => exact absurd rfl h1
      | upper => exact absurd rfl h3
      | _ => exact lst n rfl ⟨xs, q⟩
    · cases e
  · cases e
theorem go_bm {m : Bm} {r : V → List V → Hp → VK → Prop} {es : Es} (hK : X.K = T.K) (k : ∀ {W : Wd} {M : Store} {H : Hp} {σ : L2.St} {Q : VK} {x : D} {v : V} {ds : List D} {vs : List V}, SH T W M H → RV T W M.length x v → RL T W M.length ds vs → Post T Wx σ (RV T) W M (bmD m M x ds) Q → r v vs H Q) :
    ∀ σ H Q, tE T XP Wx C (.bm m eo es) σ H Q → tBM X.K (bmTy m) r (tE T XP Wx C eo) (tA T XP Wx C es) σ H Q := fun σ H Q ⟨W, ρ, M, at_, p⟩ => by
  simp only [ev] at p
  refine ⟨W, ρ, M, at_, p.bind fun x M1 W1 v H1 s1 r1 p1 => ?_⟩
  split at p1
  · rename_i e
    exact ⟨by rw [hK]; exact recv_ty s1.sh r1 e, W1, ρ, M1, at_.step s1, p1.bind fun ds M2 W2 vs H2 s2 r2 p2 => k s2.sh (r1.up s2) r2 p2⟩
  · exact p1.elim
def bm1 : Bm → Bool
  | .append => true | .popAt => true | .extend => true | .join => true | .split => true | _ => false
def bm0 : Bm → Bool
  | .pop => true | .upper => true | _ => false
/-- o.m(e) -/
theorem e_bm1 {m : Bm} {n : Str} (h1 : bm1 m = true) (hK : X.K = T.K) (hn : n = Str.ofString (bmNm m)) (ho : PE X o (tE T XP Wx C eo)) (ha : PE X a (tE T XP Wx C ea)) (hs : notStar a = true) (hb : plainBase o = true) (hl : (apos.endLine == pos.line) = true) :
    PE X (.Call (.Attribute o n apos) [a] [] pos) (tE T XP Wx C (.bm m eo (.cons ea .nil))) := by
  have pa : PA X [a] (tA T XP Wx C (.cons ea .nil)) := a_cons ha a_nil (star_plain hs)
  subst hn
  cases m with
  | append => exact PE.weak (pe_bm PySem.F.plainAttrs_list PySem.F.slot_list_append PySem.F.type_list_append mt_append ho pa (base_plain hb) (few_one hs) hl (star_plain hs) rfl) (go_bm hK fun h r1 r2 p => append_ok h r1 r2 p)
  | popAt => exact PE.weak (pe_bm PySem.F.plainAttrs_list PySem.F.slot_list_pop PySem.F.type_list_pop mt_popAt ho pa (base_plain hb) (few_one hs) hl (star_plain hs) rfl) (go_bm hK fun h r1 r2 p => popAt_ok h r1 r2 p)
  | extend => exact PE.weak (pe_bm PySem.F.plainAttrs_list PySem.F.slot_list_extend PySem.F.type_list_extend mt_extend ho pa (base_plain hb) (few_one hs) hl (star_plain hs) rfl) (go_bm hK fun h r1 r2 p => extend_ok h r1 r2 p)
  | join => exact PE.weak (pe_bm PySem.F.plainAttrs_str PySem.F.slot_str_join PySem.F.type_str_join mt_join ho pa (base_plain hb) (few_one hs) hl (star_plain hs) rfl) (go_bm hK (by rw [hK]; exact fun h r1 r2 p => join_ok h r1 r2 p))
  | split =>
    refine PE.weak (pe_bm PySem.F.plainAttrs_str PySem.F.slot_str_split PySem.F.type_str_split mt_split ho pa (base_plain hb) (few_one hs) hl (star_plain hs) rfl) (go_bm hK fun {W M H σ Q x v ds vs} h rx r p => ?_)
    simp only [bmD] at p
    unfold splitD at p
    split at p
    · obtain ⟨w, rfl, r1⟩ := r.one
      cases rx.1
      cases r1.1
      split at p
      · rename_i s q hl
        have e : (List.map V.str (Txt.split s q)).length ≤ sizeLine := by rw [List.length_map]; exact sizeLine_le hl.2.2
        exact ⟨s, q, rfl, rfl, hl.1, sizeLine_le hl.2.1, newL_ok (r := false) h ⟨reps_txts _, unds_txts _ _⟩ e p⟩
      · exact p.elim
    · exact p.elim
  | _ => cases h1
theorem go_bm0 {m : Bm} {r : V → List V → Hp → VK → Prop} (hK : X.K = T.K) (k : ∀ {W : Wd} {M : Store} {H : Hp} {σ : L2.St} {Q : VK} {x : D} {v : V}, SH T W M H → RV T W M.length x v → Post T Wx σ (RV T) W M (bmD m M x []) Q → r v [] H Q) :
    ∀ σ H Q, tE T XP Wx C (.bm m eo .nil) σ H Q → tBM0 X.K (bmTy m) r (tE T XP Wx C eo) σ H Q := fun σ H Q ⟨W, ρ, M, at_, p⟩ => by
  simp only [ev, evs] at p
  refine ⟨W, ρ, M, at_, p.bind fun x M1 W1 v H1 s1 r1 p1 => ?_⟩
  split at p1
  · rename_i e
    exact ⟨by rw [hK]; exact recv_ty s1.sh r1 e, k s1.sh r1 p1⟩
  · exact p1.elim
/-- o.m() -/
theorem e_bm0 {m : Bm} {n : Str} (h1 : bm0 m = true) (hK : X.K = T.K) (hn : n = Str.ofString (bmNm m)) (ho : PE X o (tE T XP Wx C eo)) (hb : plainBase o = true) (hl : (apos.endLine == pos.line) = true) :
    PE X (.Call (.Attribute o n apos) [] [] pos) (tE T XP Wx C (.bm m eo .nil)) := by
  subst hn
  cases m with
  | pop => exact PE.weak (pe_bm0 PySem.F.plainAttrs_list PySem.F.slot_list_pop PySem.F.type_list_pop mt_pop ho (base_plain hb) hl) (go_bm0 hK fun {W M H σ Q x v} h r1 p => pop_ok (ds := []) h r1 ⟨by rw [Reps], rfl⟩ p)
  | upper =>
    refine PE.weak (pe_bm0 PySem.F.plainAttrs_str PySem.F.slot_str_upper PySem.F.type_str_upper mt_upper ho (base_plain hb) hl) (go_bm0 hK fun {W M H σ Q x v} h rx p => ?_)
    simp only [bmD] at p
    unfold upperD at p
    split at p
    · cases rx.1
      split at p
      · exact ⟨_, rfl, rfl, by assumption, p.ok h ⟨rfl, rfl⟩⟩
      · exact p.elim
    · exact p.elim
  | _ => cases h1
/-! ### attributes -/
theorem look_mem {α : Type} {f : Nat} {x : α} : ∀ {ks : List Nat} {ds : List α}, look f ks ds = some x → f ∈ ks
  | [], ds, z => by simp [look] at z
  | k :: ks, [], z => by simp [look] at z
  | k :: ks, d :: ds, z => by
    unfold look at z
    by_cases hk : k = f
    · simp [hk]
    · rw [if_neg hk] at z
      exact List.mem_cons_of_mem _ (look_mem z)
/-- e.f, e an object or the exception that a suite holds -/
theorem e_attr {f : Nat} {n : Str} (hX : ∀ o, XP o → XOk X o) (hK : X.K = T.K) (F : ClsF T C) (G : ∀ c f, C.exk c f = true → XfC T.K (T.cls c) ∧ PySem.W.findIn T.K (.ref (T.cls c)) (T.atn f) = some none) (hn : n = T.atn f) (ho : PE X o (tE T XP Wx C eo)) (hb : plainBase o = true) :
    PE X (.Attribute o n pos) (tE T XP Wx C (.attr eo f)) := by
  subst hn
  refine ⟨fun pins s σ H Q I h => ?_⟩
  obtain ⟨W, ρ, M, at_, p⟩ := h
  simp only [ev] at p
  refine attr_of (base_plain hb) (thn (ho.run pins s σ H _ I ⟨W, ρ, M, at_, p.bind (Q1 := fun v H1 => ∃ d M1 W1, Stp T W M W1 M1 H1 ∧ RV T W1 M1.length d v ∧ Post T Wx σ (RV T) W1 M1 (Rs.of (attrD C.exk M1 d f) M1) Q) fun d M1 W1 v H1 s1 r1 p1 => ⟨d, M1, W1, s1, r1, p1⟩⟩) fun u s1 hh => ?_)
  obtain ⟨v, H1, I1, rv, d, M1, W1, st, r1, p1⟩ := hh
  replace p1 := p1.of
  obtain ⟨x, e, p1⟩ := p1
  have obj : ∀ (a dx : Addr) (c : Nat) (ks : List Nat) (ds : List D) (vs : List V), v = .ref a → H1 a = some (.ins (T.cls c) dx (names T ks vs)) → ks.length = vs.length → KsOk T c ks → RL T W1 M1.length ds vs → look f ks ds = some x → wpAny (model X.prog X.w) X.A (getAttr u (T.atn f) true) (EP X pins σ Q) X.xe s1 := fun a dx c ks ds vs ev h1 hl ok rl lk => by
    subst ev
    obtain rfl : u = Value.ref a := rv
    obtain ⟨z, h3, h4⟩ := look_names F.inj f rl hl lk
    exact getattr_ok (X := X) I1 h1 (by rw [hK]; exact ok.co.cl) (by rw [hK]; exact ok.na f (look_mem lk)) h3 fun u' s2 I2 ru => ⟨z, H1, I2, ru, p1.ok st.sh h4⟩
  cases d with
  | obj c ks ds =>
    obtain ⟨⟨a, dx, vs, ev, h1, ⟨h2, ok⟩, h3⟩, ud⟩ := r1
    exact obj a dx c ks ds vs ev (st.sh.fz _ _ h1) h2 ok ⟨h3, ud⟩ e
  | ref m =>
    have ev : v = .ref (W1.io m) := r1.1
    simp only [attrD] at e
    cases q : M1[m]? with
    | none => rw [q] at e; cases e
    | some cc =>
      rw [q] at e
      cases cc with
      | lst ds => cases e
      | ins c ks ds =>
        obtain ⟨dx, vs, h1, ⟨h2, ok⟩, h3⟩ := st.sh.cl m _ q
        exact obj _ dx c ks ds vs ev h1 h2 ok ⟨h3, st.sh.wf m _ q⟩ e
      | dead => cases e
  | exn c ks ds =>
    obtain ⟨⟨a, dd, vs, ev, xa, ⟨hl, xd⟩, h3⟩, ud⟩ := r1
    subst ev
    obtain rfl : u = Value.ref a := rv
    simp only [attrD] at e
    split at e
    · rename_i ek
      obtain ⟨XF, hno⟩ := G c f ek
      obtain ⟨z, l, h4⟩ := look_names F.inj f (M := M1) ⟨h3, ud⟩ hl e
      obtain ⟨oe, hpn, hz, hf⟩ := hX _ at_.xo a _ dd (by rw [← st.le.xa]; exact xa)
      rcases xd with ⟨_, hk⟩ | ⟨dx, rfl, hx⟩
      · exact absurd (look_mem e) (by rw [hk]; simp)
      · have ea : H1 dx = some (.xd (names T ks vs)) := st.sh.fz _ _ hx
        obtain ⟨ha, _⟩ := I1.pin (a, oe) (List.mem_append_left _ hpn)
        obtain ⟨ws, hd⟩ := hf
        have hxx : ObjOk X.prog X.w H1 s1.heap dx (.xd (names T ks vs)) := I1.hok dx _ ea
        obtain ⟨mA, hns, hr⟩ := hxx
        obtain ⟨od, hoo, hll⟩ := lookIn_ns hns
        obtain ⟨u, hu, ru⟩ := RelO.some_of (v := z) (o := mA (T.atn f)) (by rw [← l]; exact hr _)
        have J : PySem.W.InstAt s1.heap a oe (T.cls c) (some od) := ⟨ha, hz.1, by unfold PySem.W.notCls; rw [hd] <;> rfl, by rw [hz.2]; exact hoo⟩
        exact HandSPX.exc_get (hK ▸ I1.kIn) J XF.ga XF.gg XF.exC (PySem.W.findObj_own XF.hdC hno rfl (by rw [hll, hu])) (handed_of ru) ⟨z, H1, I1.tok _, ru, p1.ok st.sh h4⟩
    · cases e
  | _ => cases e
/-! ### isinstance -/
/-- the class in an isinstance -/
theorem pe_ty {t : Ty} {x : Str} {p : Pos} (hg : Gl X x) (hd : (x == ("__debug__" : Str)) = false) (h : (∃ d, t = .own d ∧ X.mg x = some (.ref (T.cls d))) ∨ ((∀ d, t ≠ .own d) ∧ x = Str.ofString (tyNm t) ∧ X.mg x = none)) : PE X (.Name x p) (tC (tyV2 T t)) := by
  rcases h with ⟨d, rfl, hm⟩ | ⟨ho, rfl, hm⟩
  · exact pe_glob hg hm rfl hd
  · cases t with
    | own d => exact absurd rfl (ho d)
    | int => exact pe_bltn hg hm (u := .type "int") (by decide +kernel) rfl (by decide +kernel) hd
    | bool => exact pe_bltn hg hm (u := .type "bool") (by decide +kernel) rfl (by decide +kernel) hd
    | str => exact pe_bltn hg hm (u := .type "str") (by decide +kernel) rfl (by decide +kernel) hd
    | tuple => exact pe_bltn hg hm (u := .type "tuple") (by decide +kernel) rfl (by decide +kernel) hd
    | list => exact pe_bltn hg hm (u := .type "list") (by decide +kernel) rfl (by decide +kernel) hd
def noExn : D → Bool
  | .exn _ _ _ => false
  | _ => true
theorem e_isi1 {t : Ty} {p : Pos} {c : Expr} (hK : X.K = T.K) (F : ClsF T C) (hg : Gl X (Str.ofString "isinstance")) (hm : X.mg (Str.ofString "isinstance") = none) (ho : PE X o (tE T XP Wx C eo)) (hc : PE X c (tC (tyV2 T t))) (h1 : notStar o = true) (h2 : notStar c = true) (hX : ∀ o, XP o → o = none) :
    PE X (.Call (.Name (Str.ofString "isinstance") p) [o, c] [] pos) (tE T XP Wx C (.isi eo [t])) := by
  refine PE.weak (pe_callB call_isi hg hm (by decide +kernel) (pa_cons ho (pa_cons hc pa_nil (star_plain h2)) (star_plain h1)) (by decide +kernel) (by decide +kernel) (star_plain h1) (stars_none (by simp [h2]))) fun σ H Q ⟨W, ρ, M, at_, p⟩ => ?_
  simp only [ev] at p
  refine ⟨W, ρ, M, at_, p.bind fun x M1 W1 v H1 s1 r1 p1 => ?_⟩
  replace p1 := p1.of
  obtain ⟨b, e, p1⟩ := p1
  simp only [Option.map_eq_some_iff] at e
  obtain ⟨k, e, rfl⟩ := e
  have nx : ∀ c ks vs, x ≠ .exn c ks vs := fun c ks vs z => by
    subst z
    obtain ⟨⟨a, dd, _, _, xa, _⟩, _⟩ := r1
    have := hX _ at_.xo
    rw [s1.le.xa, this] at xa
    cases xa
  have q := isi_ty nx e
  have e1 : isiOne C.cok C.sub M1 x t = some k := by
    simp only [isiD] at e
    split at e
    · cases e; assumption
    · cases e; assumption
    · cases e
  exact ⟨v, tyV2 T t, _, tyVal T t, k, rfl, tyV2_ok t, by rw [hK]; exact tyx_ok s1.sh r1 q, by rw [hK]; exact isiOne_ok F q e1, p1.ok s1.sh ⟨rfl, rfl⟩⟩
end
end Dv
/-! Calls. -/
namespace Dv
open PySem PySem.Spec PyProof.Rows L2
/-- a def by its evaluation -/
def spG (T : Stat) (g : List D → Store → Rs D) : Sp := fun vs H Q E => ∃ W M ds, SH T W M H ∧ W.xa = none ∧ RL T W M.length ds vs ∧ Post T (fun cls dd _ H' => E cls dd H') [] (RV T) W M (g ds M) Q
def FnK (P : Program) (w : World) (K : PySem.W.Frag) (mg : Str → Option Value) (base : Heap) (k : Nat) (u : Addr) (n : Nat) (ks : List Str) (sp : Sp) : Prop :=
  ∀ (A : Around) (outer : List PySem.Env) (s : Shared) (H : Hp) (us ws : List Value) (vs zs : List V) (Q : VK) (E : XK), Room k A → Env0 P w K mg base A outer s H → Vals vs us → Vals zs ws → vs.length = n → zs.length = ks.length → sp (vs ++ zs) H Q E →
    codeAny (model P w) A (.call (.ref u) ⟨us, ks.zip ws⟩) (CR (L2.CX P w) outer P w H s Q E) s
theorem FnK.mono {P : Program} {w : World} {K : PySem.W.Frag} {mg : Str → Option Value} {base : Heap} {j k : Nat} {u : Addr} {n : Nat} {ks : List Str} {sp : Sp} (F : FnK P w K mg base j u n ks sp) (h : j ≤ k) : FnK P w K mg base k u n ks sp :=
  fun A outer s H us ws vs zs Q E hr => F A outer s H us ws vs zs Q E (hr.mono h)
section
variable {T : Stat} {X : Cx} {XP : XPT} {Wx : WX} {C : Cfg} {k n : Nat} {u : Addr} {ks : List Str} {sp : Sp}
theorem run_g {pins : List (Addr × Obj)} {σ : L2.St} {H : Hp} {s : Shared} {us ws : List Value} {vs zs : List V} {Q : VK} (F : FnK X.prog X.w X.K X.mg X.base k u n ks sp) (hr : Room k X.A) (tk : Takes X Wx) (I : L2.Inv X pins σ H s) (r : Vals vs us) (rz : Vals zs ws)
    (l1 : vs.length = n) (l2 : zs.length = ks.length) (h : sp (vs ++ zs) H Q fun c d H' => Wx c d σ H') : wpAny (model X.prog X.w) X.A (call (.ref u) us (ks.zip ws)) (EP X pins σ Q) X.xe s := by
  refine wpAny_call (codeAny_mono (F X.A X.stack s H us ws vs zs Q _ hr I.env0 r rz l1 l2 h) fun r s' hq => ?_)
  cases r with
  | error e => exact passAt tk σ pins H s e s' I hq
  | ok fl =>
    cases fl with
    | ret u => exact I.after hq
    | next => exact False.elim hq
    | brk => exact False.elim hq
    | cont => exact False.elim hq
/-! ### keywords -/
theorem k_nil : PK X [] (tA T XP Wx C .nil) := ⟨fun pos pins s σ H Q I h => pk_nil.run pos pins s σ H Q I (by
  obtain ⟨W, ρ, M, at_, p⟩ := h
  exact Post.ok (R := RL T) p at_.sh ⟨by rw [Reps], rfl⟩)⟩
theorem k_cons {e : Expr} {ee : E} {kws : List Keyword} {ess : Es} {nm : Option Str} {kpos : Pos} (ha : PE X e (tE T XP Wx C ee)) (hr : PK X kws (tA T XP Wx C ess)) : PK X (⟨nm, e, kpos⟩ :: kws) (tA T XP Wx C (.cons ee ess)) := ⟨fun pos pins s σ H Q I h => (pk_cons ha hr).run pos pins s σ H Q I (by
  obtain ⟨W, ρ, M, at_, p⟩ := h
  simp only [evs] at p
  refine ⟨W, ρ, M, at_, p.bind fun x M1 W1 v H1 s1 r1 p1 => ⟨W1, ρ, M1, at_.step s1, p1.bind fun y M2 W2 w H2 s2 r2 p2 => ?_⟩⟩
  refine p2.ok s2.sh ⟨⟨v, w, rfl, (r1.up s2).1, r2.1⟩, ?_⟩
  simp only [D.unds, Bool.and_eq_true]
  exact ⟨(r1.up s2).2, r2.2⟩)⟩
/-! ### a call by a name, in general -/
def kwNames (kws : List Keyword) : List Str := kws.filterMap (·.arg)
def tGC (R : List V → List V → L2.St → Hp → VK → Prop) (t tk : TA) : TE := fun σ H Q => t σ H fun vs H1 => tk σ H1 fun zs H2 => R vs zs σ H2 Q
theorem kwE_all {env : PySem.Env} {pos : Pos} : ∀ {kws : List Keyword}, (kws.all fun k => k.arg.isSome) = true → (backToKw pos (keywordEach kws env)).all (·.1.isSome) = true ∧ (backToKw pos (keywordEach kws env)).filterMap (·.1) = kwNames kws ∧ (backToKw pos (keywordEach kws env)).any (·.1.isNone) = false
  | [], _ => ⟨rfl, rfl, rfl⟩
  | ⟨nm, e, kp⟩ :: kws, h => by
    simp only [List.all_cons, Bool.and_eq_true] at h
    obtain ⟨h1, h2, h3⟩ := kwE_all (env := env) (pos := pos) h.2
    obtain ⟨nm', hn⟩ := Option.isSome_iff_exists.mp h.1
    have hn' : nm = some nm' := hn
    subst hn'
    have e : backToKw pos (keywordEach (⟨some nm', e, kp⟩ :: kws) env) = (some nm', (do let v ← eval e env; standAt pos; pure v)) :: backToKw pos (keywordEach kws env) := rfl
    rw [e]
    refine ⟨by simpa using h1, by simp [kwNames] at h2 ⊢; exact h2, by simpa using h3⟩
theorem tA_nil {σ : L2.St} {H : Hp} {Q : List V → Hp → Prop} (h : tA T XP Wx C .nil σ H Q) : Q [] H := by
  obtain ⟨W, ρ, M, at_, p⟩ := h
  exact Post.ok (R := RL T) p at_.sh ⟨by rw [Reps], rfl⟩
theorem pe_gc {x : Str} {p pos : Pos} {args : List Expr} {kws : List Keyword} {es kes : Es} {R : List V → List V → L2.St → Hp → VK → Prop} (hg : Gl X x) (hm : X.mg x = some (.ref u)) (hdb : (x == ("__debug__" : Str)) = false) (hk : PySem.W.keepIn X.K (.ref u) = true)
    (ha : PA X args (tA T XP Wx C es)) (hkw : PK X kws (tA T XP Wx C kes)) (hn : args = [] → es = .nil) (hn2 : kws = [] → kes = .nil) (hs : args.all notStar = true) (hkn : (kws.all fun k => k.arg.isSome) = true)
    (run : ∀ (pins : List (Addr × Obj)) (s : Shared) (σ : L2.St) (H : Hp) (us ws : List Value) (vs zs : List V) (Q : VK), L2.Inv X pins σ H s → Vals vs us → Vals zs ws → R vs zs σ H Q → wpAny (model X.prog X.w) X.A (call (.ref u) us ((kwNames kws).zip ws)) (EP X pins σ Q) X.xe s) :
    PE X (.Call (.Name x p) args kws pos) (tGC R (tA T XP Wx C es) (tA T XP Wx C kes)) := by
  refine ⟨fun pins s σ H Q I h => ?_⟩
  refine wpAny_Call_Name_kw (ld_glob I hg hm ?_ hdb)
  obtain ⟨hall, hks, hnone⟩ := kwE_all (env := X.env) (pos := pos) hkn
  cases args with
  | nil =>
    have := hn rfl
    subst this
    have h1 := tA_nil h
    cases kws with
    | nil =>
      have := hn2 rfl
      subst this
      have h2 := tA_nil h1
      exact PySem.W.callWith_K0 I.kIn hk (run pins s σ H [] [] [] [] Q I .nil .nil h2)
    | cons kw kws =>
      refine PySem.W.callWith_KW0 (h₀ := X.base) I.ok.mod.kin hk hall ?_ (by rw [hnone, Bool.or_false]; rfl)
      refine thn (hkw.run pos pins s σ H _ I h1) fun ws s2 ⟨zs, H2, I2, rz, q2⟩ => ⟨I2.kIn, ?_⟩
      rw [hks]
      exact run pins s2 σ H2 [] ws [] zs Q I2 .nil rz q2
  | cons a as =>
    simp only [List.all_cons, Bool.and_eq_true] at hs
    cases kws with
    | nil =>
      have := hn2 rfl
      subst this
      refine PySem.W.callWith_K (h₀ := X.base) I.ok.mod.kin hk (thn (ha.run pos pins s σ H _ I h) fun us s1 ⟨vs, H1, I1, r, q⟩ => ⟨I1.kIn, ?_⟩) (star_plain hs.1) (stars_none hs.2)
      exact run pins s1 σ H1 us [] vs [] Q I1 r .nil (tA_nil q)
    | cons kw kws =>
      refine PySem.W.callWith_KW (h₀ := X.base) I.ok.mod.kin hk hall (thn (ha.run pos pins s σ H _ I h) fun us s1 ⟨vs, H1, I1, r, q⟩ => ?_) (by rw [hnone, Bool.or_false]; exact stars_none (by simp [hs])) (star_plain hs.1)
      refine thn (hkw.run pos pins s1 σ H1 _ I1 q) fun ws s2 ⟨zs, H2, I2, rz, q2⟩ => ⟨I2.kIn, ?_⟩
      rw [hks]
      exact run pins s2 σ H2 us ws vs zs Q I2 r rz q2
/-- f(e, .., k = e, ..) -/
theorem e_call {f sh : Nat} {x : Str} {p pos : Pos} {args : List Expr} {kws : List Keyword} {es kes : Es} (hX : ∀ o, XP o → o = none) (hr : Room k X.A) (tk : Takes X Wx) (hg : Gl X x) (hm : X.mg x = some (.ref u)) (hdb : (x == ("__debug__" : Str)) = false) (hk : PySem.W.keepIn X.K (.ref u) = true)
    (F : FnK X.prog X.w X.K X.mg X.base k u (C.shp sh).n (kwNames kws) (spG T (callG C f sh))) (hkl : (kwNames kws).length = (C.shp sh).m)
    (ha : PA X args (tA T XP Wx C es)) (hkw : PK X kws (tA T XP Wx C kes)) (hn : args = [] → es = .nil) (hn2 : kws = [] → kes = .nil) (hs : args.all notStar = true) (hkn : (kws.all fun k => k.arg.isSome) = true) :
    PE X (.Call (.Name x p) args kws pos) (tE T XP Wx C (.call f sh es kes)) := by
  refine PE.weak (pe_gc (R := fun vs zs σ H Q => vs.length = (C.shp sh).n ∧ zs.length = (kwNames kws).length ∧ spG T (callG C f sh) (vs ++ zs) H Q fun c d H' => Wx c d σ H') hg hm hdb hk ha hkw hn hn2 hs hkn
    fun pins s σ H us ws vs zs Q I r rz q => run_g F hr tk I r rz q.1 q.2.1 q.2.2) fun σ H Q ⟨W, ρ, M, at_, p⟩ => ?_
  simp only [ev] at p
  refine ⟨W, ρ, M, at_, p.bind fun ds M1 W1 vs H1 s1 r1 p1 => ⟨W1, ρ, M1, at_.step s1, p1.bind fun es M2 W2 zs H2 s2 r2 p2 => ?_⟩⟩
  split at p2
  · rename_i hl
    refine ⟨by rw [← r1.1.length]; exact hl.1, by rw [← r2.1.length, hkl]; exact hl.2, W2, M2, ds ++ es, s2.sh, ?_, (r1.up s2).append r2, p2⟩
    exact hX _ ((at_.step s1).step s2).xo
  · exact p2.elim
/-! ### new objects -/
theorem new_ins (hW : True) {W : Wd} {M : Store} {H : Hp} {c : Nat} (h : SH T W M H) (ok : ClsOk T c) {x dx : Addr} (hx : H x = none) (hd : H dx = none) (hne : dx ≠ x) :
    ∃ W', Stp T W M W' (M ++ [.ins c [] []]) (upd (upd H dx (.own x)) x (.ins (T.cls c) dx [])) ∧ RV T W' (M ++ [Cell.ins c [] []]).length (.ref M.length) (.ref x) ∧ W'.io M.length = x := by
  have h1 : SH T W M (upd H dx (.own x)) := h.other hd
  have hx1 : upd H dx (.own x) x = none := by rw [upd_ne (Ne.symm hne)]; exact hx
  obtain ⟨s, l⟩ := h1.cell (o := .ins (T.cls c) dx []) (c := .ins c [] []) hx1 (fun z => nomatch z) rfl fun W' l' => ⟨dx, [], upd_same, ⟨rfl, ok, fun _ z => nomatch z⟩, by rw [Reps]⟩
  refine ⟨_, ⟨l, by simp, s⟩, ⟨?_, by simp [D.und]⟩, if_pos rfl⟩
  show V.ref x = V.ref (if M.length = M.length then x else W.io M.length)
  rw [if_pos rfl]
theorem freeze_ok {σ : L2.St} {W : Wd} {M : Store} {H : Hp} {Q : VK} {d : D} {v : V} (h : SH T W M H) (r : RV T W M.length d v) (p : Post T Wx σ (RV T) W M (freeze d M) Q) : Q v H := by
  cases d with
  | ref n =>
    have e2 : v = .ref (W.io n) := r.1
    simp only [freeze] at p
    split at p
    · rename_i xs e
      obtain ⟨vs, h1, h2, h3⟩ := h.cl n _ e
      obtain ⟨s, l⟩ := h.freeze e (fun z => nomatch z) h1
      subst e2
      exact p _ _ _ ⟨l, by rw [List.length_set]; exact Nat.le_refl _, s⟩ ⟨⟨_, vs, rfl, upd_same, h2, Reps.le l _ _ (h.wf n _ e) h3⟩, by rw [List.length_set]; exact h.wf n _ e⟩
    · rename_i c ks ds e
      obtain ⟨dx, vs, h1, h2, h3⟩ := h.cl n _ e
      obtain ⟨s, l⟩ := h.freeze e (fun z => nomatch z) h1
      subst e2
      exact p _ _ _ ⟨l, by rw [List.length_set]; exact Nat.le_refl _, s⟩ ⟨⟨_, dx, vs, rfl, upd_same, h2, Reps.le l _ _ (h.wf n _ e) h3⟩, by rw [List.length_set]; exact h.wf n _ e⟩
    · exact p.elim
  | non => exact p.ok h r
  | bl _ => exact p.ok h r
  | int _ => exact p.ok h r
  | str _ => exact p.ok h r
  | tup _ => exact p.ok h r
  | lst _ => exact p.ok h r
  | obj _ _ _ => exact p.ok h r
  | exn _ _ _ => exact p.ok h r
  | scr _ => exact p.ok h r
/-- C(..) at the machine -/
theorem run_mk {pins : List (Addr × Obj)} {σ : L2.St} {H : Hp} {s : Shared} {us ws : List Value} {vs zs : List V} {Q : VK} {Cl fI : Addr} (M : Mk X.K Cl fI) (F : FnK X.prog X.w X.K X.mg X.base k fI (n + 1) ks sp) (hr : Room (k + 1) X.A) (tk : Takes X Wx) (I : L2.Inv X pins σ H s) (r : Vals vs us) (rz : Vals zs ws)
    (l1 : vs.length = n) (l2 : zs.length = ks.length)
    (h : ∀ x dx, H x = none → H dx = none → dx ≠ x → sp (.ref x :: (vs ++ zs)) (upd (upd H dx (.own x)) x (.ins Cl dx [])) (fun v H2 => v = .non ∧ Q (.ref x) H2) fun c d H' => Wx c d σ H') :
    wpAny (model X.prog X.w) X.A (call (.ref Cl) us (ks.zip ws)) (EP X pins σ Q) X.xe s := by
  have hq := h (s.heap.objs.size + 1) s.heap.objs.size (I.hok.fresh (Nat.le_succ _)) (I.hok.fresh (Nat.le_refl _)) (Nat.ne_of_lt (Nat.lt_succ_self _))
  have I2 := Inv.made (C := Cl) I
  have r1 : Vals (V.ref (s.heap.objs.size + 1) :: vs) (Value.ref (s.heap.objs.size + 1) :: us) := .cons rfl r
  refine wpAny_call (make_map (f := fI) I.kIn M.makes M.init (beq_iff_eq.mp M.fn) (codeAny_mono (F _ X.stack _ _ (Value.ref (s.heap.objs.size + 1) :: us) ws (V.ref (s.heap.objs.size + 1) :: vs) zs _ _ (hr.make Cl us (ks.zip ws)) (I2.env0.make Cl us (ks.zip ws)) r1 rz (by rw [List.length_cons, l1]) l2 hq) fun r s' hq' => ?_))
  cases r with
  | error e => exact passAt tk σ pins _ _ e s' I2 hq'
  | ok fl =>
    cases fl with
    | ret u =>
      obtain ⟨v, H', I3, rv, ev, q3⟩ := I2.after hq'
      subst ev
      exact ⟨rv, ⟨V.ref (s.heap.objs.size + 1), H', I3, rfl, q3⟩⟩
    | next => exact False.elim hq'
    | brk => exact False.elim hq'
    | cont => exact False.elim hq'
theorem e_mk {c fi sh : Nat} {x : Str} {p pos : Pos} {args : List Expr} {kws : List Keyword} {es kes : Es} {fI : Addr} (hK : X.K = T.K) (hX : ∀ o, XP o → o = none) (hr : Room (k + 1) X.A) (tk : Takes X Wx) (hg : Gl X x) (hm : X.mg x = some (.ref (T.cls c))) (hdb : (x == ("__debug__" : Str)) = false)
    (hi : ∀ f, C.ini c = some f → f = fi) (ok : ClsOk T c) (MK : Mk X.K (T.cls c) fI) (F : FnK X.prog X.w X.K X.mg X.base k fI (C.shp sh).n (kwNames kws) (spG T (callG C fi sh))) (hkl : (kwNames kws).length = (C.shp sh).m)
    (ha : PA X args (tA T XP Wx C es)) (hkw : PK X kws (tA T XP Wx C kes)) (hn : args = [] → es = .nil) (hn2 : kws = [] → kes = .nil) (hs : args.all notStar = true) (hkn : (kws.all fun k => k.arg.isSome) = true) :
    PE X (.Call (.Name x p) args kws pos) (tE T XP Wx C (.mk c sh es kes)) := by
  refine PE.weak (pe_gc (R := fun vs zs σ H Q => vs.length + 1 = (C.shp sh).n ∧ zs.length = (kwNames kws).length ∧ ∀ x dx, H x = none → H dx = none → dx ≠ x → spG T (callG C fi sh) (.ref x :: (vs ++ zs)) (upd (upd H dx (.own x)) x (.ins (T.cls c) dx [])) (fun v H2 => v = .non ∧ Q (.ref x) H2) fun c d H' => Wx c d σ H') hg hm hdb MK.kp ha hkw hn hn2 hs hkn
    fun pins s σ H us ws vs zs Q I r rz q => run_mk MK (q.1 ▸ F) hr tk I r rz rfl q.2.1 q.2.2) fun σ H Q ⟨W, ρ, M, at_, p⟩ => ?_
  simp only [ev] at p
  refine ⟨W, ρ, M, at_, p.bind fun ds M1 W1 vs H1 s1 r1 p1 => ⟨W1, ρ, M1, at_.step s1, p1.bind fun es M2 W2 zs H2 s2 r2 p2 => ?_⟩⟩
  split at p2
  · rename_i hl
    refine ⟨by rw [← r1.1.length]; exact hl.1, by rw [← r2.1.length, hkl]; exact hl.2, fun x dx hx hd hne => ?_⟩
    obtain ⟨W3, s3, r3, io3⟩ := new_ins trivial s2.sh ok hx hd hne
    have rl := ((r1.up s2).append r2).up s3
    refine ⟨W3, M2 ++ [.ins c [] []], .ref M2.length :: (ds ++ es), s3.sh, by rw [s3.le.xa]; exact hX _ ((at_.step s1).step s2).xo, ⟨⟨_, _, rfl, r3.1, rl.1⟩, by simp only [D.unds, Bool.and_eq_true]; exact ⟨r3.2, rl.2⟩⟩, ?_⟩
    unfold make at p2
    split at p2
    · exact p2.elim
    · rename_i f hf
      have := hi f hf
      subst this
      have p3 := Post.shift (Post.gc p2 s2.sh) s3
      cases z : callG C f sh (.ref M2.length :: (ds ++ es)) (M2 ++ [.ins c [] []]) with
      | ok d M4 =>
        rw [z] at p3
        intro W4 v H4 s4 r4
        cases d with
        | non =>
          refine ⟨r4.1, ?_⟩
          have rx : RV T W4 M4.length (.ref M2.length) (.ref x) := ⟨by
            show V.ref x = V.ref (W4.io M2.length)
            rw [s4.le.io M2.length (by simp), io3], D.und_le s4.len _ r3.2⟩
          have p5 := Post.shift p3 s4
          simp only at p5
          split at p5
          · exact freeze_ok s4.sh rx p5
          · exact p5.ok s4.sh rx
        | _ => exact p3.elim
      | ex e M4 => rw [z] at p3; exact p3
      | no => rw [z] at p3; exact p3
  · exact p2.elim
end
end Dv
/-! Comparisons, own ones too. -/
namespace Dv
open PySem PySem.Spec PyProof.Rows L2
theorem kit_sub {K : PySem.W.Frag} {t : Value} {A : Addr} (h : PySem.W.kitOne K t (.ref A) = some false) : PySem.W.subIn K t (.ref A) = some false := by
  unfold PySem.W.kitOne at h
  split at h
  · cases h
  · unfold PySem.W.kitCls at h
    simp only at h
    split at h
    · exact h
    · cases h
/-- own ==: where its def stands -/
structure EqF (T : Stat) (X : Cx) (XP : XPT) (C : Cfg) : Prop where
  un : X.A.units + 65 < cLine
  at_ : ∀ c f, C.eqm c = some f → ∃ u k, PySem.W.findIn T.K (.ref (T.cls c)) "__eq__" = some (some (.ref u)) ∧ PySem.W.isFn T.K (.ref u) = true ∧ Room k X.A ∧ FnK X.prog X.w X.K X.mg X.base k u 2 [] (spG T (C.call f))
  xn : ∀ c f, C.eqm c = some f → ∀ o, XP o → o = none
def rOwnEq (T : Stat) (C : Cfg) : R2 := fun x y H Q => ∃ a c dx fs f t, x = .ref a ∧ H a = some (.ins (T.cls c) dx fs) ∧ C.eqm c = some f ∧ TyX T.K H y t ∧ PySem.W.notFirst T.K (T.cls c) t = true ∧
  spG T (C.call f) [x, y] H (fun v H' => ∃ b, v = .bl b ∧ Q (.bl b) H') fun _ _ _ => False
section
variable {T : Stat} {X : Cx} {XP : XPT} {Wx : WX} {C : Cfg} {k : Nat} {a b c : Expr} {ea eb ec : E} {pos : Pos}
theorem op_ownEq (hK : X.K = T.K) (F : EqF T X XP C) : OpR X (compareOp .Eq) (rOwnEq T C) := by
  intro pins s σ H x y v u Q I rx ry h
  obtain ⟨a, c, dx, fs, f, t, rfl, ha, hf, ty, nf, sp⟩ := h
  obtain ⟨fu, k, h1, h2, hr, FK⟩ := F.at_ c f hf
  cases rx
  obtain ⟨mA, J, _⟩ := ins_get I.hok ha
  obtain ⟨od, J, _⟩ := J.look
  obtain ⟨P, Z, p, hx⟩ := kit_of I ry (by rw [hK]; exact ty)
  obtain ⟨m, hF⟩ := I.fr
  show wpAny (model X.prog X.w) X.A (richCompare .Eq (.ref a) u) (EP X pins σ Q) X.xe s
  refine PySem.W.cmp_K (op := .Eq) (tb := t) (f := fu) hr.units0 hF I.ok.mod.kin J (Z.ty _ _ I.kIn p) (by rw [hK]; exact nf) (by rw [hK]; exact h1) (by rw [hK]; exact h2) ?_
  refine thn (run_g (ks := []) (ws := []) (zs := []) (Wx := fun _ _ _ _ => False) FK hr takes0 I (vs := [.ref a, y]) (us := [.ref a, u]) (.cons (show L2.RelV (.ref a) (.ref a) from rfl) (.cons ry .nil)) .nil rfl rfl sp) fun w s' hw => ?_
  obtain ⟨z, H', I', rz, b, rfl, q⟩ := hw
  cases rz
  exact ⟨.bl b, H', I', rfl, q⟩
def rCmpA (T : Stat) (C : Cfg) (o : COp) : R2 := match o with
  | .eq => fun x y H Q => rCmp T.K .eq x y H Q ∨ rOwnEq T C x y H Q
  | o => rCmp T.K o
theorem op_cmpA (hK : X.K = T.K) (F : EqF T X XP C) (o : COp) : OpR X (compareOp (cOf o)) (rCmpA T C o) := by
  have h0 := op_cmp (X := X) F.un o
  rw [hK] at h0
  cases o with
  | eq => exact h0.or (op_ownEq hK F)
  | _ => exact h0
theorem nf_ok {W : Wd} {M : Store} {c : Nat} {y : D} (F : ClsF T C) (h : eqOk C M c y = true) : PySem.W.notFirst T.K (T.cls c) (tyV T M y) = true := by
  simp only [eqOk, Bool.and_eq_true] at h
  obtain ⟨hc, ht, hm⟩ := h
  have blt : ∀ t ∈ ["NoneType", "bool", "int", "str", "tuple", "list"], PySem.W.notFirst T.K (T.cls c) (.type t) = true := fun t m => by
    unfold PySem.W.notFirst
    rw [kit_sub (F.kb t m c hc)]
    rfl
  have own : ∀ c', C.cok c' = true → (c' == c || !C.sub c' c) = true → PySem.W.notFirst T.K (T.cls c) (.ref (T.cls c')) = true := fun c' h1 h2 => by
    unfold PySem.W.notFirst
    rw [Bool.or_eq_true] at h2
    rcases h2 with h2 | h2
    · rw [beq_iff_eq.mp h2]
      simp
    · have := F.ko c' c h1 hc
      have h3 : C.sub c' c = false := by simpa using h2
      rw [h3] at this
      rw [kit_sub this]
      simp
  cases y with
  | non => exact blt _ (by simp)
  | bl _ => exact blt _ (by simp)
  | int _ => exact blt _ (by simp)
  | str _ => exact blt _ (by simp)
  | tup _ => exact blt _ (by simp)
  | lst _ => exact blt _ (by simp)
  | scr _ => exact blt _ (by simp)
  | obj c' ks vs => exact own c' ht hm
  | exn c' ks vs => cases ht
  | ref n =>
    unfold tyV
    unfold eqTy at ht
    unfold clsD at hm
    cases e : M[n]? with
    | none => simp only [e] at ht; cases ht
    | some cc =>
      simp only [e] at ht hm ⊢
      cases cc with
      | lst _ => exact blt _ (by simp)
      | ins c' _ _ => exact own c' ht hm
      | dead => cases ht
theorem cls_ins {W : Wd} {M : Store} {H : Hp} {x : D} {v : V} {c : Nat} (h : SH T W M H) (r : RV T W M.length x v) (e : clsD M x = some c) : ∃ a dx fs, v = .ref a ∧ H a = some (.ins (T.cls c) dx fs) := by
  cases x with
  | obj c' ks ds =>
    cases e
    obtain ⟨⟨a, dx, vs, ev, h1, _⟩, _⟩ := r
    exact ⟨a, dx, _, ev, h.fz _ _ h1⟩
  | ref n =>
    have e2 : v = .ref (W.io n) := r.1
    simp only [clsD] at e
    cases q : M[n]? with
    | none => rw [q] at e; cases e
    | some cc =>
      rw [q] at e
      cases cc with
      | lst _ => cases e
      | ins c' ks ds =>
        cases e
        obtain ⟨dx, vs, h1, _⟩ := h.cl n _ q
        exact ⟨_, dx, _, e2, h1⟩
      | dead => cases e
  | _ => cases e
theorem cmpR_ok {σ : L2.St} {W : Wd} {M : Store} {H : Hp} {Q : VK} {o : COp} {x y : D} {v w : V} (F : ClsF T C) (h : SH T W M H) (xn : ∀ c f, C.eqm c = some f → W.xa = none) (r1 : RV T W M.length x v) (r2 : RV T W M.length y w) (p : Post T Wx σ (RV T) W M (cmpR C o x y M) Q) : rCmpA T C o v w H Q := by
  unfold cmpR at p
  split at p
  · rename_i c e
    split at p
    · rename_i f hf
      split at p
      · rename_i hq
        obtain ⟨a, dx, fs, ev, h1⟩ := cls_ins h r1 e
        have ht : eqTy C M y = true := by
          simp only [eqOk, Bool.and_eq_true] at hq
          exact hq.2.1
        refine .inr ⟨a, c, dx, fs, f, _, ev, h1, hf, tyx_ok h r2 ht, nf_ok (W := W) F hq, W, M, [x, y], h, xn _ _ hf, ⟨⟨_, _, rfl, r1.1, _, _, rfl, r2.1, by rw [Reps]⟩, by simp only [D.unds, Bool.and_true, Bool.and_eq_true]; exact ⟨r1.2, r2.2⟩⟩, ?_⟩
        cases z : C.call f [x, y] M with
        | ok d M1 =>
          rw [z] at p
          cases d with
          | bl b =>
            intro W' v' H' s' r'
            cases r'.1
            exact ⟨b, rfl, p W' _ H' s' ⟨rfl, rfl⟩⟩
          | _ => exact p.elim
        | ex _ _ => rw [z] at p; exact p.elim
        | no => rw [z] at p; exact p.elim
      · exact p.elim
    · exact p.elim
  · exact p.elim
  · rename_i o _ _ _ _
    have q := cmp_ok h r1 r2 p
    cases o with
    | eq => exact .inl q
    | _ => exact q
theorem mark_ok {o : COp} {b : Expr} (h : ∀ es k p, b ≠ .Set es k p) : behindInMarks (cOf o) b = false := by
  unfold behindInMarks
  cases b <;> first | rfl | exact absurd rfl (h _ _ _)
theorem e_cmp {o : COp} (hK : X.K = T.K) (CF : ClsF T C) (F : EqF T X XP C) (ha : PE X a (tE T XP Wx C ea)) (hb : PE X b (tE T XP Wx C eb)) (hm : behindInMarks (cOf o) b = false) : PE X (.Compare a [cOf o] [b] pos) (tE T XP Wx C (.cmp o ea eb)) := by
  refine PE.weak (pe_cmpR (op_cmpA hK F o) ha hb hm) fun σ H Q ⟨W, ρ, M, at_, p⟩ => ?_
  simp only [ev] at p
  refine ⟨W, ρ, M, at_, p.bind fun x M1 W1 v H1 s1 r1 p1 => ⟨W1, ρ, M1, at_.step s1, p1.bind fun y M2 W2 w H2 s2 r2 p2 => ?_⟩⟩
  exact cmpR_ok CF s2.sh (fun c f h => F.xn c f h _ ((at_.step s1).step s2).xo) (r1.up s2) r2 p2
theorem e_cmp2 {o o' : COp} (hK : X.K = T.K) (CF : ClsF T C) (F : EqF T X XP C) (ha : PE X a (tE T XP Wx C ea)) (hb : PE X b (tE T XP Wx C eb)) (hcc : PE X c (tE T XP Wx C ec)) (hm : lastMarks [cOf o, cOf o'] [b, c] = false) :
    PE X (.Compare a [cOf o, cOf o'] [b, c] pos) (tE T XP Wx C (.cmp2 o o' ea eb ec)) := by
  refine PE.weak (pe_chain (op_cmpA hK F o) (op_cmpA hK F o') ha hb hcc hm) fun σ H Q ⟨W, ρ, M, at_, p⟩ => ?_
  simp only [ev] at p
  refine ⟨W, ρ, M, at_, p.bind fun x M1 W1 v H1 s1 r1 p1 => ⟨W1, ρ, M1, at_.step s1, p1.bind fun y M2 W2 w H2 s2 r2 p2 => ?_⟩⟩
  refine cmpR_ok CF s2.sh (fun c f h => F.xn c f h _ ((at_.step s1).step s2).xo) (r1.up s2) r2 (p2.bind fun z M3 W3 v3 H3 s3 r3 p3 => ?_ : Post T Wx σ (RV T) W2 M2 (cmpR C o x y M2) _)
  split at p3
  · cases r3.1
    refine ⟨true, rfl, ?_⟩
    rw [if_pos rfl]
    exact ⟨W3, ρ, M3, ((at_.step s1).step s2).step s3, p3.bind fun z M4 W4 v4 H4 s4 r4 p4 => cmpR_ok CF s4.sh (fun c f h => F.xn c f h _ ((((at_.step s1).step s2).step s3).step s4).xo) ((r2.up s3).up s4) r4 p4⟩
  · cases r3.1
    refine ⟨false, rfl, ?_⟩
    rw [if_neg Bool.false_ne_true]
    exact p3.ok s3.sh ⟨rfl, rfl⟩
  · exact p3.elim
end
end Dv
/-! Targets, what is walked, comprehensions. -/
namespace Dv
open PySem PySem.Spec PyProof.Rows L2
/-! ### targets -/
theorem wipe_set {σ : L2.St} {i : Nat} {x : Option V} : ∀ {vs : List Nat}, i ∈ vs → wipe (σ.set i x) vs = wipe σ vs
  | [], h => by cases h
  | v :: vs, h => by
    unfold wipe
    by_cases hi : i ∈ vs
    · rw [wipe_set hi]
    · have e : v = i := by
        rcases List.mem_cons.mp h with h | h
        · exact h.symm
        · exact absurd h hi
      subst e
      have : ∀ {vs : List Nat}, v ∉ vs → wipe (σ.set v x) vs = (wipe σ vs).set v x := fun {vs} => by
        induction vs with
        | nil => intro _; rfl
        | cons w ws ih =>
          intro hn
          simp only [List.mem_cons, not_or] at hn
          unfold wipe
          rw [ih hn.2, List.set_comm _ _ hn.1]
      rw [this hi, List.set_set]
def gT (T : Stat) (tg : Tg) : TG := fun v σ H Q => ∃ W ρ M d ρ', SH T W M H ∧ EnvOk T W M.length ρ σ ∧ RV T W M.length d v ∧ bindT tg d ρ = some ρ' ∧ ∀ σ', EnvOk T W M.length ρ' σ' → (∀ vs, (∀ i ∈ slots tg, i ∈ vs) → wipe σ' vs = wipe σ vs) → Q σ' H
theorem PG.weak {X : Cx} {e : Expr} {t t' : TG} (h : PG X e t') (w : ∀ v σ H Q, t v σ H Q → t' v σ H Q) : PG X e t := ⟨fun pins s σ H v u Q I r q => h.run pins s σ H v u Q I r (w v σ H Q q)⟩
section
variable {T : Stat} {X : Cx} {XP : XPT} {Wx : WX} {C : Cfg}
theorem g_n {i : Nat} {x : Str} {p : Pos} (hN : X.N.Nodup) (hi : X.N[i]? = some x) (hx : Loc X.env.scope x) (hf : X.fn x = true ∨ X.env.scope.names.lookup x = some .local) : PG X (.Name x p) (gT T (.n i)) := by
  refine PG.weak (pg_name hN hi hx hf) fun v σ H Q ⟨W, ρ, M, d, ρ', sh, en, r, e, k⟩ => ?_
  simp only [bindT] at e
  split at e
  · cases e
    exact k _ (en.set i r.1 r.2) fun vs hv => wipe_set (hv i (by simp [slots]))
  · cases e
def tgLike : Expr → Bool
  | .Name _ _ => true
  | .Tuple _ _ _ => true
  | _ => false
theorem asg_cons {e : Expr} {es : List Expr} {env : PySem.Env} (h : tgLike e = true) : assignEach (e :: es) env = (false, assign e env) :: assignEach es env := by
  cases e <;> first | rfl | cases h
theorem g_t2 {a b : Expr} {ta tb : Tg} {kk : Nat} {p : Pos} (hK : X.K = T.K) (hc : X.calm = true) (h1 : tgLike a = true) (h2 : tgLike b = true) (ha : PG X a (gT T ta)) (hb : PG X b (gT T tb)) : PG X (.Tuple [a, b] kk p) (gT T (.t2 ta tb)) := by
  refine PG.weak (pg_tup (n := 2) hc (pgs_cons ha (pgs_cons hb pgs_nil (by rw [asg_cons h2]; rfl)) (by rw [asg_cons h1]; rfl)) (by rw [asg_cons h1, asg_cons h2]; rfl) (by rw [asg_cons h1, asg_cons h2]; rfl)) fun v σ H Q ⟨W, ρ, M, d, ρ', sh, en, r, e, k⟩ => ?_
  cases d with
  | tup ds =>
    match ds, e with
    | [x, y], e =>
      obtain ⟨⟨q, vs, rfl, hq, hl, rr⟩, u⟩ := r
      obtain ⟨v1, w1, e1, z1, v2, w2, e2, z2, z3⟩ := rr
      rw [Reps] at z3
      subst z3 e2 e1
      simp only [D.und, D.unds, Bool.and_true, Bool.and_eq_true] at u
      simp only [bindT] at e
      cases q1 : bindT ta x ρ with
      | none => rw [q1] at e; cases e
      | some ρ1 =>
        rw [q1] at e
        refine ⟨q, [v1, v2], rfl, by rw [hK]; exact sh.sqT hq, rfl, v1, [v2], rfl, W, ρ, M, x, ρ1, sh, en, ⟨z1, u.1⟩, q1, fun σ1 en1 hw1 => ?_⟩
        refine ⟨v2, [], rfl, W, ρ1, M, y, ρ', sh, en1, ⟨z2, u.2⟩, e, fun σ2 en2 hw2 => ⟨rfl, ?_⟩⟩
        refine k σ2 en2 fun vs hv => ?_
        rw [hw2 vs fun i hi => hv i (by simp [slots, hi]), hw1 vs fun i hi => hv i (by simp [slots, hi])]
  | _ => cases e
theorem g_t3 {a b c : Expr} {ta tb tc : Tg} {kk : Nat} {p : Pos} (hK : X.K = T.K) (hc : X.calm = true) (h1 : tgLike a = true) (h2 : tgLike b = true) (h3 : tgLike c = true) (ha : PG X a (gT T ta)) (hb : PG X b (gT T tb)) (hcc : PG X c (gT T tc)) : PG X (.Tuple [a, b, c] kk p) (gT T (.t3 ta tb tc)) := by
  refine PG.weak (pg_tup (n := 3) hc (pgs_cons ha (pgs_cons hb (pgs_cons hcc pgs_nil (by rw [asg_cons h3]; rfl)) (by rw [asg_cons h2]; rfl)) (by rw [asg_cons h1]; rfl)) (by rw [asg_cons h1, asg_cons h2, asg_cons h3]; rfl) (by rw [asg_cons h1, asg_cons h2, asg_cons h3]; rfl)) fun v σ H Q ⟨W, ρ, M, d, ρ', sh, en, r, e, k⟩ => ?_
  cases d with
  | tup ds =>
    match ds, e with
    | [x, y, z], e =>
      obtain ⟨⟨q, vs, rfl, hq, hl, rr⟩, u⟩ := r
      obtain ⟨v1, w1, e1, z1, v2, w2, e2, z2, v3, w3, e3, z3, z4⟩ := rr
      rw [Reps] at z4
      subst z4 e3 e2 e1
      simp only [D.und, D.unds, Bool.and_true, Bool.and_eq_true] at u
      simp only [bindT] at e
      cases q1 : bindT ta x ρ with
      | none => rw [q1] at e; cases e
      | some ρ1 =>
        rw [q1] at e
        simp only [Option.bind_some] at e
        cases q2 : bindT tb y ρ1 with
        | none => rw [q2] at e; cases e
        | some ρ2 =>
          rw [q2] at e
          refine ⟨q, [v1, v2, v3], rfl, by rw [hK]; exact sh.sqT hq, rfl, v1, [v2, v3], rfl, W, ρ, M, x, ρ1, sh, en, ⟨z1, u.1⟩, q1, fun σ1 en1 hw1 => ?_⟩
          refine ⟨v2, [v3], rfl, W, ρ1, M, y, ρ2, sh, en1, ⟨z2, u.2.1⟩, q2, fun σ2 en2 hw2 => ?_⟩
          refine ⟨v3, [], rfl, W, ρ2, M, z, ρ', sh, en2, ⟨z3, u.2.2⟩, e, fun σ3 en3 hw3 => ⟨rfl, ?_⟩⟩
          refine k σ3 en3 fun vs hv => ?_
          rw [hw3 vs fun i hi => hv i (by simp [slots, hi]), hw2 vs fun i hi => hv i (by simp [slots, hi]), hw1 vs fun i hi => hv i (by simp [slots, hi])]
  | _ => cases e
end
theorem EnvOk.wipe {T : Stat} {W : Wd} {n : Nat} {ρ : Env} {σ : L2.St} (o : EnvOk T W n ρ σ) : ∀ vs : List Nat, EnvOk T W n (wipeE ρ vs) (L2.wipe σ vs)
  | [] => o
  | v :: vs => by
    unfold wipeE L2.wipe
    exact (EnvOk.wipe o vs).unset v
/-! ### what is walked -/
mutual
theorem Rep.fr {T : Stat} {W : Wd} (f : Hp) : ∀ (d : D) (v : V), Rep T W d v → Rep T ⟨W.hF, W.io, W.xa, f⟩ d v
  | .non, _, h => h
  | .bl _, _, h => h
  | .int _, _, h => h
  | .str _, _, h => h
  | .tup ds, _, h => by
    obtain ⟨a, vs, e, h1, h2, h3⟩ := h
    exact ⟨a, vs, e, h1, h2, Reps.fr f ds vs h3⟩
  | .lst ds, _, h => by
    obtain ⟨a, vs, e, h1, h2, h3⟩ := h
    exact ⟨a, vs, e, h1, h2, Reps.fr f ds vs h3⟩
  | .obj c ks ds, _, h => by
    obtain ⟨a, dx, vs, e, h1, h2, h3⟩ := h
    exact ⟨a, dx, vs, e, h1, h2, Reps.fr f ds vs h3⟩
  | .exn c ks ds, _, h => by
    obtain ⟨a, dd, vs, e, h1, h2, h3⟩ := h
    exact ⟨a, dd, vs, e, h1, h2, Reps.fr f ds vs h3⟩
  | .ref m, _, h => h
  | .scr ns, _, h => h
theorem Reps.fr {T : Stat} {W : Wd} (f : Hp) : ∀ (ds : List D) (vs : List V), Reps T W ds vs → Reps T ⟨W.hF, W.io, W.xa, f⟩ ds vs
  | [], _, h => h
  | d :: ds, _, h => by
    obtain ⟨v, r, e, h1, h2⟩ := h
    exact ⟨v, r, e, Rep.fr f d v h1, Reps.fr f ds r h2⟩
end
theorem EnvOk.fr {T : Stat} {W : Wd} {n : Nat} {ρ : Env} {σ : L2.St} (f : Hp) (o : EnvOk T W n ρ σ) : EnvOk T ⟨W.hF, W.io, W.xa, f⟩ n ρ σ := ⟨o.len, fun i d e => let ⟨v, h1, h2, h3⟩ := o.at_ i d e; ⟨v, h1, Rep.fr f d v h2, h3⟩⟩
theorem Le.any {n : Nat} {W W' : Wd} (l : Le n W W') : Le n ⟨W.hF, W.io, W.xa, W'.fr⟩ W' := ⟨l.fz, l.io, l.xa, Eq.refl _⟩
/-- the items are these, whatever is done meanwhile -/
def ItOk (T : Stat) (W : Wd) (n : Nat) (xs : List D) (J : It) : Prop := xs.length ≤ sizeLine ∧ ∀ W' M' H', Le n ⟨W.hF, W.io, W.xa, W'.fr⟩ W' → n ≤ M'.length → SH T W' M' H' →
  (∀ (i : Nat) (d : D), xs[i]? = some d → J.go i H' ∧ ∀ x H2, J.yld i H' x H2 → ∃ W2, Stp T W' M' W2 M' H2 ∧ RV T W2 M'.length d x) ∧ J.stop xs.length H'
def tI (T : Stat) (XP : XPT) (Wx : WX) (C : Cfg) (s : Src) (es : Es) : TI := fun σ H R => ∃ W ρ M, At T XP σ H W ρ M ∧ Post T Wx σ (ItOk T) W M ((evs C es ρ M).bind fun ds M1 => Rs.of (itemsOf s M1 ds) M1) R
section
variable {T : Stat} {W : Wd} {n : Nat}
theorem it_list {a : Addr} {vs : List V} {ds : List D} (h : W.hF a = some (.lst vs)) (hb : vs.length ≤ sizeLine) (r : RL T W n ds vs) : ItOk T W n ds (Itl T.K a) := by
  refine ⟨by rw [r.1.length]; exact hb, fun W' M' H' l hl sh => ?_⟩
  have q : SqL T.K H' a vs := .inl (.inl (sh.fz _ _ (l.fz _ _ h)))
  refine ⟨fun i d e => ?_, vs, q, by rw [r.1.length]; exact Nat.le_refl _⟩
  obtain ⟨v, h1, h2⟩ := r.1.get e
  refine ⟨⟨vs, v, q, h1⟩, fun x H2 ⟨e2, e3⟩ => ?_⟩
  subst e2
  have : x = v := Option.some.inj ((e3 vs q).symm.trans h1)
  subst this
  have ud := unds_iff.mp r.2 d (List.mem_of_getElem? e)
  exact ⟨W', Stp.rfl sh, Rep.le l d x ud (Rep.fr _ _ _ h2), D.und_le hl d ud⟩
theorem it_tup {a : Addr} {vs : List V} {ds : List D} (h : SqT T.K W.hF a vs) (hb : vs.length ≤ sizeLine) (r : RL T W n ds vs) : ItOk T W n ds (Itt T.K a) := by
  refine ⟨by rw [r.1.length]; exact hb, fun W' M' H' l hl sh => ?_⟩
  have q : SqT T.K H' a vs := sh.sqT (SqT.le (W := ⟨W.hF, W.io, W.xa, W'.fr⟩) l h)
  refine ⟨fun i d e => ?_, vs, q, by rw [r.1.length]; exact Nat.le_refl _⟩
  obtain ⟨v, h1, h2⟩ := r.1.get e
  refine ⟨⟨vs, v, q, h1⟩, fun x H2 ⟨e2, e3⟩ => ?_⟩
  subst e2
  have : x = v := Option.some.inj ((e3 vs q).symm.trans h1)
  subst this
  have ud := unds_iff.mp r.2 d (List.mem_of_getElem? e)
  exact ⟨W', Stp.rfl sh, Rep.le l d x ud (Rep.fr _ _ _ h2), D.und_le hl d ud⟩
theorem it_str {z : Str} (hb : z.length ≤ big) : ItOk T W n (z.cps.toList.map fun c => D.str ⟨#[c]⟩) (Its z) := by
  refine ⟨by rw [List.length_map, sizeLine_eq]; exact hb, fun W' M' H' l hl sh => ?_⟩
  refine ⟨fun i d e => ?_, by show z.cps.size ≤ _; simp⟩
  rw [List.getElem?_map] at e
  cases q : z.cps.toList[i]? with
  | none => rw [q] at e; cases e
  | some c =>
    rw [q] at e
    cases e
    have q' : z.cps[i]? = some c := by simpa using q
    refine ⟨(Array.getElem?_eq_some_iff.mp q').1, fun x H2 ⟨e2, c', e3, e4⟩ => ?_⟩
    subst e2
    rw [q'] at e3
    cases e3
    exact ⟨W', Stp.rfl sh, e4, rfl⟩
theorem it_rng {lo : Int} {m : Nat} (hb : m ≤ big) : ItOk T W n ((List.range m).map fun i => D.int (lo + (i : Nat))) (Itr lo m) := by
  refine ⟨by rw [List.length_map, List.length_range, sizeLine_eq]; exact hb, fun W' M' H' l hl sh => ?_⟩
  refine ⟨fun i d e => ?_, by show m ≤ _; simp⟩
  rw [List.getElem?_map] at e
  cases q : (List.range m)[i]? with
  | none => rw [q] at e; cases e
  | some c =>
    rw [q] at e
    cases e
    obtain ⟨h1, h2⟩ := List.getElem?_eq_some_iff.mp q
    have h3 : i < m := by simpa using h1
    have h4 : i = c := by simpa using h2
    subst h4
    refine ⟨h3, fun x H2 ⟨e2, e3⟩ => ?_⟩
    subst e2
    exact ⟨W', Stp.rfl sh, e3, rfl⟩
theorem it_enum {a : Addr} {vs : List V} {ds : List D} (h : W.hF a = some (.lst vs)) (hb : vs.length ≤ sizeLine) (r : RL T W n ds vs) : ItOk T W n (ds.zipIdx.map fun p => D.tup [.int (p.2 : Nat), p.1]) (Ite T.K a) := by
  refine ⟨by rw [List.length_map, List.length_zipIdx, r.1.length]; exact hb, fun W' M' H' l hl sh => ?_⟩
  have q : SqL T.K H' a vs := .inl (.inl (sh.fz _ _ (l.fz _ _ h)))
  refine ⟨fun i d e => ?_, vs, q, by simp [r.1.length]⟩
  rw [List.getElem?_map] at e
  cases z : ds.zipIdx[i]? with
  | none => rw [z] at e; cases e
  | some c =>
    rw [z] at e
    cases e
    rw [List.getElem?_zipIdx] at z
    cases z2 : ds[i]? with
    | none => rw [z2] at z; cases z
    | some d0 =>
      rw [z2] at z
      simp only [Option.map_some, Nat.zero_add, Option.some.injEq] at z
      subst z
      obtain ⟨v, h1, h2⟩ := r.1.get z2
      refine ⟨⟨vs, v, q, h1⟩, fun x H2 ⟨TT, x', e2, e3, e4, e5⟩ => ?_⟩
      subst e2 e4
      have : x' = v := Option.some.inj ((e5 vs q).symm.trans h1)
      subst this
      have ud := unds_iff.mp r.2 d0 (List.mem_of_getElem? z2)
      exact new_tup sh (ds := [.int (i : Nat), d0]) (vs := [.int (i : Nat), x']) ⟨⟨_, _, rfl, rfl, _, _, rfl, Rep.le l d0 x' ud (Rep.fr _ _ _ h2), by rw [Reps]⟩, by simp only [D.unds, D.und, Bool.true_and, Bool.and_true]; exact D.und_le hl d0 ud⟩ (by rw [sizeLine_eq]; simp) e3
theorem it_zipT {a b : Addr} {vs us : List V} {ds es : List D} (h : SqT T.K W.hF a vs) (hb : vs.length ≤ sizeLine) (r : RL T W n ds vs) (h2 : SqT T.K W.hF b us) (r2 : RL T W n es us) : ItOk T W n ((ds.zip es).map fun p => D.tup [p.1, p.2]) (RZ.ItzT T.K a b) := by
  refine ⟨by rw [List.length_map, List.length_zip, r.1.length]; exact Nat.le_trans (Nat.min_le_left _ _) hb, fun W' M' H' l hl sh => ?_⟩
  have q : SqT T.K H' a vs := sh.sqT (SqT.le (W := ⟨W.hF, W.io, W.xa, W'.fr⟩) l h)
  have q2 : SqT T.K H' b us := sh.sqT (SqT.le (W := ⟨W.hF, W.io, W.xa, W'.fr⟩) l h2)
  refine ⟨fun i d e => ?_, vs, us, q, q2, ?_⟩
  · rw [List.getElem?_map] at e
    cases z : (ds.zip es)[i]? with
    | none => rw [z] at e; cases e
    | some c =>
      rw [z] at e
      cases e
      rw [List.getElem?_zip_eq_some] at z
      obtain ⟨z1, z2⟩ := z
      obtain ⟨v, g1, g2⟩ := r.1.get z1
      obtain ⟨u, k1, k2⟩ := r2.1.get z2
      refine ⟨⟨vs, us, v, u, q, q2, g1, k1⟩, fun x H2 ⟨TT, x', y', e2, e3, e4, e5, e6⟩ => ?_⟩
      subst e2 e4
      have : x' = v := Option.some.inj ((e5 vs q).symm.trans g1)
      subst this
      have : y' = u := Option.some.inj ((e6 us q2).symm.trans k1)
      subst this
      have ud := unds_iff.mp r.2 _ (List.mem_of_getElem? z1)
      have ue := unds_iff.mp r2.2 _ (List.mem_of_getElem? z2)
      exact new_tup sh (ds := [c.1, c.2]) (vs := [x', y']) ⟨⟨_, _, rfl, Rep.le l _ x' ud (Rep.fr _ _ _ g2), _, _, rfl, Rep.le l _ y' ue (Rep.fr _ _ _ k2), by rw [Reps]⟩, by simp only [D.unds, Bool.and_true, Bool.and_eq_true]; exact ⟨D.und_le hl _ ud, D.und_le hl _ ue⟩⟩ (by rw [sizeLine_eq]; simp) e3
  · rw [List.length_map, List.length_zip, r.1.length, r2.1.length]
    omega
theorem it_zipL {a b : Addr} {vs us : List V} {ds es : List D} (h : W.hF a = some (.lst vs)) (hb : vs.length ≤ sizeLine) (r : RL T W n ds vs) (h2 : W.hF b = some (.lst us)) (r2 : RL T W n es us) : ItOk T W n ((ds.zip es).map fun p => D.tup [p.1, p.2]) (Itz T.K a b) := by
  refine ⟨by rw [List.length_map, List.length_zip, r.1.length]; exact Nat.le_trans (Nat.min_le_left _ _) hb, fun W' M' H' l hl sh => ?_⟩
  have q : SqL T.K H' a vs := .inl (.inl (sh.fz _ _ (l.fz _ _ h)))
  have q2 : SqL T.K H' b us := .inl (.inl (sh.fz _ _ (l.fz _ _ h2)))
  refine ⟨fun i d e => ?_, vs, us, q, q2, ?_⟩
  · rw [List.getElem?_map] at e
    cases z : (ds.zip es)[i]? with
    | none => rw [z] at e; cases e
    | some c =>
      rw [z] at e
      cases e
      rw [List.getElem?_zip_eq_some] at z
      obtain ⟨z1, z2⟩ := z
      obtain ⟨v, g1, g2⟩ := r.1.get z1
      obtain ⟨u, k1, k2⟩ := r2.1.get z2
      refine ⟨⟨vs, us, v, u, q, q2, g1, k1⟩, fun x H2 ⟨TT, x', y', e2, e3, e4, e5, e6⟩ => ?_⟩
      subst e2 e4
      have : x' = v := Option.some.inj ((e5 vs q).symm.trans g1)
      subst this
      have : y' = u := Option.some.inj ((e6 us q2).symm.trans k1)
      subst this
      have ud := unds_iff.mp r.2 _ (List.mem_of_getElem? z1)
      have ue := unds_iff.mp r2.2 _ (List.mem_of_getElem? z2)
      exact new_tup sh (ds := [c.1, c.2]) (vs := [x', y']) ⟨⟨_, _, rfl, Rep.le l _ x' ud (Rep.fr _ _ _ g2), _, _, rfl, Rep.le l _ y' ue (Rep.fr _ _ _ k2), by rw [Reps]⟩, by simp only [D.unds, Bool.and_true, Bool.and_eq_true]; exact ⟨D.und_le hl _ ud, D.und_le hl _ ue⟩⟩ (by rw [sizeLine_eq]; simp) e3
  · rw [List.length_map, List.length_zip, r.1.length, r2.1.length]
    omega
end
section
variable {T : Stat} {X : Cx} {XP : XPT} {Wx : WX} {C : Cfg} {tg e : Expr} {ee : E}
def iSeq (K : PySem.W.Frag) (tl : TE) : TI := fun σ H R => tl σ H fun x H1 => (∃ a, x = V.ref a ∧ (∃ xs, SqL K H1 a xs) ∧ R (Itl K a) H1) ∨ ((∃ a, x = V.ref a ∧ (∃ xs, SqT K H1 a xs) ∧ R (Itt K a) H1) ∨ ∃ y, x = V.str y ∧ R (Its y) H1)
/-- a value once evaluated -/
theorem pe_done {v : V} {u : Value} (r : L2.RelV v u) {pins : List (Addr × Obj)} {σ : L2.St} {H : Hp} {s : Shared} : True := trivial
theorem pi_seq {tl : TE} (hl : PE X e tl) : PI X tg e (iSeq X.K tl) := by
  refine ⟨fun pins s σ H R I h => ?_⟩
  refine thn (hl.run pins s σ H _ I h) fun v s1 ⟨x, H1, I1, r1, q1⟩ => ?_
  rcases q1 with ⟨a, rfl, ⟨xs, hq⟩, q⟩ | ⟨a, rfl, ⟨xs, hq⟩, q⟩ | ⟨y, rfl, q⟩
  · cases r1
    obtain ⟨its, rv, p, hz⟩ := I1.list hq
    refine wpAny_pyIter_list p.isList ?_
    refine ⟨s1.heap.objs.size, [s1.heap.objs.size], _, _, H1, rfl, I1.kept (t' := s1.toks) fun b o e => Heap.get?_push_of_some _ e, turn_list a _, ⟨_, Heap.get?_push_size _ rfl, rfl, rfl⟩, fun b hb => ?_, q⟩
    have e : b = s1.heap.objs.size := by simpa using hb
    subst e
    exact I1.fpOk (Nat.le_refl _) (I1.hok.fresh (Nat.le_refl _))
  · cases r1
    obtain ⟨its, rv, p, hz⟩ := I1.tuple hq
    refine wpAny_pyIter_tuple p ?_
    refine ⟨s1.heap.objs.size, [s1.heap.objs.size], _, _, H1, rfl, I1.kept (t' := s1.toks) fun b o e => Heap.get?_push_of_some _ e, turn_tuple a _, ⟨_, Heap.get?_push_size _ rfl, rfl, rfl⟩, fun b hb => ?_, q⟩
    have e : b = s1.heap.objs.size := by simpa using hb
    subst e
    exact I1.fpOk (Nat.le_refl _) (I1.hok.fresh (Nat.le_refl _))
  · obtain ⟨t, rfl⟩ := r1
    cases ha : y.cps.all (· < 128)
    · exact wpAny_pyIter_wide ha (pi_one (tk := s1.toks) I1 _ (turn_str _ y t "str_iterator" (.inr rfl)) ⟨_, Heap.get?_push_size _ rfl, rfl, rfl⟩ q)
    · exact wpAny_pyIter_ascii ha (pi_one (tk := s1.toks) I1 _ (turn_str _ y t "str_ascii_iterator" (.inl rfl)) ⟨_, Heap.get?_push_size _ rfl, rfl, rfl⟩ q)
theorem PI.weak {t t' : TI} (h : PI X tg e t') (w : ∀ σ H R, t σ H R → t' σ H R) : PI X tg e t := ⟨fun pins s σ H R I q => h.run pins s σ H R I (w σ H R q)⟩
theorem evs_one {ρ : Env} {M : Store} {β : Type} {f : List D → Store → Rs β} : (evs C (.cons ee .nil) ρ M).bind f = (ev C ee ρ M).bind fun d M1 => f [d] M1 := by
  simp only [evs]
  cases ev C ee ρ M <;> rfl
theorem i_seq (hK : X.K = T.K) (h : PE X e (tE T XP Wx C ee)) : PI X tg e (tI T XP Wx C .seq (.cons ee .nil)) := by
  refine PI.weak (pi_seq h) fun σ H R ⟨W, ρ, M, at_, p⟩ => ?_
  rw [evs_one] at p
  refine ⟨W, ρ, M, at_, p.bind fun d M1 W1 v H1 s1 r1 p1 => ?_⟩
  replace p1 := p1.of
  obtain ⟨xs, e, p1⟩ := p1
  rw [hK]
  cases d with
  | str z =>
    simp only [itemsOf] at e
    split at e
    · rename_i hb
      cases e
      cases r1.1
      exact .inr (.inr ⟨z, rfl, p1.ok s1.sh (it_str hb)⟩)
    · cases e
  | tup ds =>
    cases e
    obtain ⟨⟨a, vs, rfl, h1, h2, h3⟩, u⟩ := r1
    exact .inr (.inl ⟨a, rfl, ⟨vs, s1.sh.sqT h1⟩, p1.ok s1.sh (it_tup h1 h2 ⟨h3, u⟩)⟩)
  | lst ds =>
    cases e
    obtain ⟨⟨a, vs, rfl, h1, h2, h3⟩, u⟩ := r1
    exact .inl ⟨a, rfl, ⟨vs, .inl (.inl (s1.sh.fz _ _ h1))⟩, p1.ok s1.sh (it_list h1 h2 ⟨h3, u⟩)⟩
  | _ => cases e
theorem rng1_inv {M : Store} {d : D} {xs : List D} (e : itemsOf .rng M [d] = some xs) : ∃ n : Int, d = .int n ∧ (n ≤ big ∧ -(2 ^ 62) ≤ n) ∧ xs = (List.range n.toNat).map fun i => .int (i : Nat) := by
  cases d with
  | int n =>
    unfold itemsOf at e
    dsimp only at e
    by_cases h : n ≤ big ∧ -(2 ^ 62) ≤ n
    · rw [if_pos h] at e
      exact ⟨n, rfl, h, (Option.some.inj e).symm⟩
    · rw [if_neg h] at e
      exact nomatch e
  | _ => unfold itemsOf at e; exact nomatch e
theorem rng2_inv {M : Store} {d d2 : D} {xs : List D} (e : itemsOf .rng M [d, d2] = some xs) : ∃ a b : Int, d = .int a ∧ d2 = .int b ∧ (-(2 ^ 62) ≤ a ∧ b - a ≤ big ∧ b < 2 ^ 62 ∧ a < 2 ^ 62 ∧ -(2 ^ 62) ≤ b) ∧ xs = (List.range (b - a).toNat).map fun i => .int (a + (i : Nat)) := by
  cases d with
  | int a =>
    cases d2 with
    | int b =>
      unfold itemsOf at e
      dsimp only at e
      by_cases h : -(2 ^ 62) ≤ a ∧ b - a ≤ big ∧ b < 2 ^ 62 ∧ a < 2 ^ 62 ∧ -(2 ^ 62) ≤ b
      · rw [if_pos h] at e
        exact ⟨a, b, rfl, rfl, h, (Option.some.inj e).symm⟩
      · rw [if_neg h] at e
        exact nomatch e
    | _ => unfold itemsOf at e; exact nomatch e
  | _ => unfold itemsOf at e; exact nomatch e
theorem evs_two {e1 e2 : E} {ρ : Env} {M : Store} {β : Type} {f : List D → Store → Rs β} : (evs C (.cons e1 (.cons e2 .nil)) ρ M).bind f = (ev C e1 ρ M).bind fun d M1 => (ev C e2 ρ M1).bind fun d2 M2 => f [d, d2] M2 := by
  simp only [evs]
  cases ev C e1 ρ M with
  | ok d M1 =>
    simp only [Rs.bind]
    cases ev C e2 ρ M1 <;> rfl
  | ex => rfl
  | no => rfl
/-- one value as a row -/
theorem evs_len1 {e1 : E} {ρ : Env} {M M1 : Store} {ds : List D} (h : evs C (.cons e1 .nil) ρ M = .ok ds M1) : ∃ d, ds = [d] := by
  simp only [evs] at h
  cases z : ev C e1 ρ M with
  | ok d M2 => rw [z] at h; cases h; exact ⟨d, rfl⟩
  | ex => rw [z] at h; cases h
  | no => rw [z] at h; cases h
theorem evs_len2 {e1 e2 : E} {ρ : Env} {M M1 : Store} {ds : List D} (h : evs C (.cons e1 (.cons e2 .nil)) ρ M = .ok ds M1) : ∃ d d2, ds = [d, d2] := by
  simp only [evs] at h
  cases z : ev C e1 ρ M with
  | ok d M2 =>
    rw [z] at h
    simp only [Rs.bind] at h
    cases z2 : ev C e2 ρ M2 with
    | ok d2 M3 => rw [z2] at h; cases h; exact ⟨d, d2, rfl⟩
    | ex => rw [z2] at h; cases h
    | no => rw [z2] at h; cases h
  | ex => rw [z] at h; cases h
  | no => rw [z] at h; cases h
theorem Post.bindE {α β γ δ : Type} {T : Stat} {Wx : WX} {σ : L2.St} {R : Wd → Nat → α → β → Prop} {R' : Wd → Nat → γ → δ → Prop} {W : Wd} {M : Store} {r : Rs α} {f : α → Store → Rs γ} {Q : δ → Hp → Prop} {Q1 : β → Hp → Prop} (h : Post T Wx σ R' W M (r.bind f) Q)
    (k : ∀ a M1 W1 b H1, r = .ok a M1 → Stp T W M W1 M1 H1 → R W1 M1.length a b → Post T Wx σ R' W1 M1 (f a M1) Q → Q1 b H1) : Post T Wx σ R W M r Q1 := by
  cases r with
  | ok d M' => exact fun W' v H' s' q => k d M' W' v H' rfl s' q (Post.shift h s')
  | ex x M' => exact h
  | no => exact h
theorem i_rng1 {a : Expr} {p pos : Pos} (hg : Gl X "range") (hm : X.mg "range" = none) (ha : PA X [a] (tA T XP Wx C (.cons ee .nil))) (ps : starEach [a] X.env = [(false, eval a X.env)]) :
    PI X tg (.Call (.Name "range" p) [a] [] pos) (tI T XP Wx C .rng (.cons ee .nil)) := by
  refine PI.weak (pi_range1 hg hm ha ps) fun σ H R ⟨W, ρ, M, at_, p⟩ => ⟨W, ρ, M, at_, p.bindE fun ds M1 W1 vs H1 he s1 r1 p1 => ?_⟩
  obtain ⟨xs, e, p1⟩ := p1.of
  obtain ⟨d, rfl⟩ := evs_len1 he
  obtain ⟨n, rfl, hn, rfl⟩ := rng1_inv e
  obtain ⟨v, rfl, rv⟩ := r1.one
  cases rv.1
  refine ⟨n, rfl, hn.2, ?_, p1.ok s1.sh ?_⟩
  · have := hn.1; unfold big at this; omega
  · have hb : n.toNat ≤ big := by have := hn.1; unfold big at this ⊢; omega
    have := it_rng (T := T) (W := W1) (n := M1.length) (lo := 0) (m := n.toNat) hb
    simpa only [Int.zero_add] using this
theorem i_rng2 {a b : Expr} {e2 : E} {p pos : Pos} (hg : Gl X "range") (hm : X.mg "range" = none) (ha : PA X [a, b] (tA T XP Wx C (.cons ee (.cons e2 .nil)))) (ps : starEach [a, b] X.env = [(false, eval a X.env), (false, eval b X.env)]) (ps2 : starEach [b] X.env = [(false, eval b X.env)]) :
    PI X tg (.Call (.Name "range" p) [a, b] [] pos) (tI T XP Wx C .rng (.cons ee (.cons e2 .nil))) := by
  refine PI.weak (pi_range2 hg hm ha ps ps2) fun σ H R ⟨W, ρ, M, at_, p⟩ => ⟨W, ρ, M, at_, p.bindE fun ds M1 W1 vs H1 he s1 r1 p1 => ?_⟩
  obtain ⟨xs, e, p1⟩ := p1.of
  obtain ⟨d, d2, rfl⟩ := evs_len2 he
  obtain ⟨i, j, rfl, rfl, ⟨h1, h2, h3, h4, h5⟩, rfl⟩ := rng2_inv e
  obtain ⟨v, v2, rfl, rv, rv2⟩ := r1.two
  cases rv.1
  cases rv2.1
  exact ⟨i, j, rfl, ⟨h1, h4, h5, h3⟩, p1.ok s1.sh (it_rng (by unfold big at h2 ⊢; omega))⟩
theorem i_enum {as : Expr} {ee : E} {p pos tpos : Pos} {elts : List Expr} {kk : Nat} (hK : X.K = T.K) (hg : Gl X "enumerate") (hm : X.mg "enumerate" = none) (ha : PA X [as] (tA T XP Wx C (.cons ee .nil))) (hs : starEach [as] X.env = [(false, eval as X.env)]) :
    PI X (.Tuple elts kk tpos) (.Call (.Name "enumerate" p) [as] [] pos) (tI T XP Wx C .enum (.cons ee .nil)) := by
  refine PI.weak (pi_enum hg hm ha hs) fun σ H R ⟨W, ρ, M, at_, p⟩ => ⟨W, ρ, M, at_, p.bindE fun ds M1 W1 vs H1 he s1 r1 p1 => ?_⟩
  obtain ⟨xs, e, p1⟩ := p1.of
  rw [hK]
  obtain ⟨d, rfl⟩ := evs_len1 he
  obtain ⟨v, rfl, rv⟩ := r1.one
  cases d with
  | lst ys =>
    cases e
    obtain ⟨⟨a, us, rfl, q1, q2, q3⟩, u'⟩ := rv
    exact ⟨a, us, rfl, .inl (.inl (s1.sh.fz _ _ q1)), p1.ok s1.sh (it_enum q1 q2 ⟨q3, u'⟩)⟩
  | _ => unfold itemsOf at e; exact nomatch e
theorem i_zip {a b : Expr} {e1 e2 : E} {p pos tpos : Pos} {elts : List Expr} {kk : Nat} (hK : X.K = T.K) (hg : Gl X "zip") (hm : X.mg "zip" = none) (ha : PA X [a, b] (tA T XP Wx C (.cons e1 (.cons e2 .nil)))) (hs : starEach [a, b] X.env = (false, eval a X.env) :: starEach [b] X.env) (hpl : (backTo pos (starEach [b] X.env)).any (·.1) = false) :
    PI X (.Tuple elts kk tpos) (.Call (.Name "zip" p) [a, b] [] pos) (tI T XP Wx C .zip (.cons e1 (.cons e2 .nil))) := by
  refine PI.weak (RZ.pi_zipA hg hm ha hs hpl) fun σ H R ⟨W, ρ, M, at_, p⟩ => ⟨W, ρ, M, at_, p.bindE fun ds M1 W1 vs H1 he s1 r1 p1 => ?_⟩
  obtain ⟨xs, e, p1⟩ := p1.of
  rw [hK]
  obtain ⟨d, d2, rfl⟩ := evs_len2 he
  obtain ⟨v, v2, rfl, rv, rv2⟩ := r1.two
  cases d with
  | lst xs =>
    cases d2 with
    | lst ys =>
      cases e
      obtain ⟨⟨a, us, rfl, q1, q2, q3⟩, u⟩ := rv
      obtain ⟨⟨a2, us2, rfl, k1, k2, k3⟩, u2⟩ := rv2
      exact ⟨a, a2, us, us2, rfl, .inl ⟨.inl (.inl (s1.sh.fz _ _ q1)), .inl (.inl (s1.sh.fz _ _ k1)), p1.ok s1.sh (it_zipL q1 q2 ⟨q3, u⟩ k1 ⟨k3, u2⟩)⟩⟩
    | _ => unfold itemsOf at e; exact nomatch e
  | tup xs =>
    cases d2 with
    | tup ys =>
      cases e
      obtain ⟨⟨a, us, rfl, q1, q2, q3⟩, u⟩ := rv
      obtain ⟨⟨a2, us2, rfl, k1, k2, k3⟩, u2⟩ := rv2
      exact ⟨a, a2, us, us2, rfl, .inr ⟨s1.sh.sqT q1, s1.sh.sqT k1, p1.ok s1.sh (it_zipT q1 q2 ⟨q3, u⟩ k1 ⟨k3, u2⟩)⟩⟩
    | _ => unfold itemsOf at e; exact nomatch e
  | _ => unfold itemsOf at e; exact nomatch e
end
end Dv
/-! Comprehensions. -/
namespace Dv
open PySem PySem.Spec PyProof.Rows L2
theorem CellOk.fr {T : Stat} {W : Wd} {H H' : Hp} {a : Addr} {c : Cell} (f : Hp) (e : c ≠ .dead → H' a = H a) (h : CellOk T W H a c) : CellOk T ⟨W.hF, W.io, W.xa, f⟩ H' a c := by
  cases c with
  | lst ds =>
    obtain ⟨vs, e1, h1, h2⟩ := h
    exact ⟨vs, (e (fun z => nomatch z)).trans e1, h1, Reps.fr f ds vs h2⟩
  | ins c ks ds =>
    obtain ⟨dx, vs, e1, h1, h2⟩ := h
    exact ⟨dx, vs, (e (fun z => nomatch z)).trans e1, h1, Reps.fr f ds vs h2⟩
  | dead => trivial
section
variable {T : Stat} {W : Wd} {M : Store} {H : Hp}
theorem SH.live_ne (h : SH T W M H) {p : Addr} (hp : H p = none) {n : Nat} {c : Cell} (e : M[n]? = some c) (d : c ≠ .dead) : W.io n ≠ p := fun z => by
  obtain ⟨u, hu⟩ := (h.cl n c e).live d
  rw [z, hp] at hu
  cases hu
/-- an object is put aside -/
theorem SH.frame (h : SH T W M H) {p : Addr} {o : HO} (hp : H p = none) : SH T ⟨W.hF, W.io, W.xa, upd W.fr p o⟩ M (upd H p o) := by
  have hF : W.hF p = none := by
    cases e : W.hF p with
    | none => rfl
    | some o' => rw [h.fz _ _ e] at hp; cases hp
  refine ⟨fun a u e => ?_, fun n c e => ?_, h.nf, h.inj, h.wf, fun a u e => ?_, fun n c e d => ?_⟩
  · rw [upd_ne (ne_of_none e hF)]
    exact h.fz _ _ e
  · exact (h.cl n c e).fr _ fun d => upd_ne (h.live_ne hp e d)
  · have e' : upd W.fr p o a = some u := e
    by_cases ha : a = p
    · subst ha
      rw [upd_same] at e' ⊢
      exact ⟨e', hF⟩
    · rw [upd_ne ha] at e' ⊢
      exact h.fr a u e'
  · show upd W.fr p o (W.io n) = none
    rw [upd_ne (h.live_ne hp e d)]
    exact h.frc n c e d
theorem SH.reframe (h : SH T W M H) {p : Addr} {o o0 : HO} (hp : W.fr p = some o0) : SH T ⟨W.hF, W.io, W.xa, upd W.fr p o⟩ M (upd H p o) := by
  have hF : W.hF p = none := (h.fr p o0 hp).2
  have ne : ∀ (n : Nat) (c : Cell), M[n]? = some c → c ≠ .dead → W.io n ≠ p := fun n c e d z => by
    have := h.frc n c e d
    rw [z, hp] at this
    cases this
  refine ⟨fun a u e => ?_, fun n c e => ?_, h.nf, h.inj, h.wf, fun a u e => ?_, fun n c e d => ?_⟩
  · rw [upd_ne (ne_of_none e hF)]
    exact h.fz _ _ e
  · exact (h.cl n c e).fr _ fun d => upd_ne (ne n c e d)
  · have e' : upd W.fr p o a = some u := e
    by_cases ha : a = p
    · subst ha
      rw [upd_same] at e' ⊢
      exact ⟨e', hF⟩
    · rw [upd_ne ha] at e' ⊢
      exact h.fr a u e'
  · show upd W.fr p o (W.io n) = none
    rw [upd_ne (ne n c e d)]
    exact h.frc n c e d
/-- .. and frozen -/
theorem SH.unframe (h : SH T W M H) {p : Addr} {o : HO} {f0 : Hp} (hf : W.fr = upd f0 p o) (h0 : f0 p = none) : SH T ⟨upd W.hF p o, W.io, W.xa, f0⟩ M H := by
  have hp : W.fr p = some o := by rw [hf]; exact upd_same
  obtain ⟨hH, hF⟩ := h.fr p o hp
  have ne : ∀ (n : Nat) (c : Cell), M[n]? = some c → c ≠ .dead → W.io n ≠ p := fun n c e d z => by
    have := h.frc n c e d
    rw [z, hp] at this
    cases this
  have l : Le M.length W ⟨upd W.hF p o, W.io, W.xa, W.fr⟩ := ⟨fun a u e => by
    show upd W.hF p o a = some u
    rw [upd_ne (ne_of_none e hF)]; exact e, fun _ _ => rfl, rfl, rfl⟩
  refine ⟨fun a u e => ?_, fun n c e => ?_, fun n c e d => ?_, h.inj, h.wf, fun a u e => ?_, fun n c e d => ?_⟩
  · have e' : upd W.hF p o a = some u := e
    by_cases ha : a = p
    · rw [ha, upd_same] at e'
      rw [ha, hH]
      exact e'
    · rw [upd_ne ha] at e'
      exact h.fz _ _ e'
  · exact CellOk.fr (W := ⟨upd W.hF p o, W.io, W.xa, W.fr⟩) f0 (fun _ => rfl) ((h.cl n c e).le l (h.wf n c e) fun _ => rfl)
  · show upd W.hF p o (W.io n) = none
    rw [upd_ne (ne n c e d)]
    exact h.nf n c e d
  · have e0 : f0 a = some u := e
    have z : a ≠ p := fun z => by rw [z, h0] at e0; cases e0
    have e' : W.fr a = some u := by rw [hf, upd_ne z]; exact e
    show H a = some u ∧ upd W.hF p o a = none
    rw [upd_ne z]
    exact h.fr a u e'
  · have := h.frc n c e d
    rw [hf, upd_ne (ne n c e d)] at this
    exact this
/-- .. or made a cell -/
theorem SH.uncell (h : SH T W M H) {p : Addr} {vs : List V} {ds : List D} {f0 : Hp} (hf : W.fr = upd f0 p (.lst vs)) (h0 : f0 p = none) (r : RL T W M.length ds vs) (hl : vs.length ≤ sizeLine) :
    SH T ⟨W.hF, fun i => if i = M.length then p else W.io i, W.xa, f0⟩ (M ++ [.lst ds]) H := by
  have hp : W.fr p = some (.lst vs) := by rw [hf]; exact upd_same
  obtain ⟨hH, hF⟩ := h.fr p _ hp
  have ne : ∀ (n : Nat) (c : Cell), M[n]? = some c → c ≠ .dead → W.io n ≠ p := fun n c e d z => by
    have := h.frc n c e d
    rw [z, hp] at this
    cases this
  have l : Le M.length W ⟨W.hF, fun i => if i = M.length then p else W.io i, W.xa, W.fr⟩ := ⟨fun _ _ e => e, fun i hi => if_neg (Nat.ne_of_lt hi), rfl, rfl⟩
  have cs : ∀ (n : Nat) (c' : Cell), (M ++ [Cell.lst ds])[n]? = some c' → (M[n]? = some c' ∧ n ≠ M.length) ∨ (n = M.length ∧ c' = .lst ds) := fun n c' e => by
    by_cases hn : n < M.length
    · rw [List.getElem?_append_left hn] at e
      exact .inl ⟨e, Nat.ne_of_lt hn⟩
    · rw [List.getElem?_append_right (by omega)] at e
      have : n - M.length = 0 := by
        cases q : n - M.length with
        | zero => rfl
        | succ k => rw [q] at e; simp at e
      rw [this] at e
      exact .inr ⟨by omega, by simpa using e.symm⟩
  refine ⟨h.fz, fun n c e => ?_, fun n c e d => ?_, fun n m c1 c2 e1 e2 d1 d2 z => ?_, fun n c e => ?_, fun a u e => ?_, fun n c e d => ?_⟩
  · rcases cs n c e with ⟨e', hn⟩ | ⟨hn, rfl⟩
    · show CellOk T _ _ (if n = M.length then p else W.io n) c
      rw [if_neg hn]
      exact CellOk.fr (W := ⟨W.hF, fun i => if i = M.length then p else W.io i, W.xa, W.fr⟩) f0 (fun _ => rfl) ((h.cl n c e').le l (h.wf n c e') fun _ => rfl)
    · show CellOk T _ _ (if n = M.length then p else W.io n) _
      rw [if_pos hn]
      exact ⟨vs, hH, hl, Reps.fr (W := ⟨W.hF, fun i => if i = M.length then p else W.io i, W.xa, W.fr⟩) f0 ds vs (Reps.le l ds vs r.2 r.1)⟩
  · show W.hF (if n = M.length then p else W.io n) = none
    rcases cs n c e with ⟨e', hn⟩ | ⟨hn, rfl⟩
    · rw [if_neg hn]
      exact h.nf n c e' d
    · rw [if_pos hn]
      exact hF
  · have z' : (if n = M.length then p else W.io n) = (if m = M.length then p else W.io m) := z
    rcases cs n c1 e1 with ⟨e1', hn⟩ | ⟨hn, rfl⟩
    · rcases cs m c2 e2 with ⟨e2', hm⟩ | ⟨hm, rfl⟩
      · rw [if_neg hn, if_neg hm] at z'
        exact h.inj n m c1 c2 e1' e2' d1 d2 z'
      · rw [if_neg hn, if_pos hm] at z'
        exact absurd z' (ne n c1 e1' d1)
    · rcases cs m c2 e2 with ⟨e2', hm⟩ | ⟨hm, rfl⟩
      · rw [if_pos hn, if_neg hm] at z'
        exact absurd z'.symm (ne m c2 e2' d2)
      · exact hn.trans hm.symm
  · have hl : M.length ≤ (M ++ [Cell.lst ds]).length := by simp
    rcases cs n c e with ⟨e', hn⟩ | ⟨hn, rfl⟩
    · exact Cell.und_le hl c (h.wf n c e')
    · exact Cell.und_le hl _ r.2
  · have e0 : f0 a = some u := e
    have z : a ≠ p := fun z => by rw [z, h0] at e0; cases e0
    exact h.fr a u (by rw [hf, upd_ne z]; exact e)
  · show f0 (if n = M.length then p else W.io n) = none
    rcases cs n c e with ⟨e', hn⟩ | ⟨hn, rfl⟩
    · rw [if_neg hn]
      have := h.frc n c e' d
      rw [hf, upd_ne (ne n c e' d)] at this
      exact this
    · rw [if_pos hn]
      exact h0
end
/-- the tests of a comprehension -/
def tIfs (T : Stat) (XP : XPT) (Wx : WX) (C : Cfg) (es : Es) : TT := fun σ H Q => ∃ W ρ M, At T XP σ H W ρ M ∧ Post T Wx σ RB W M (evIfs C es ρ M) Q
abbrev W0 : WX := fun _ _ _ _ => False
abbrev X0 : XPT := fun o => o = none
section
variable {T : Stat} {X : Cx} {XP : XPT} {Wx : WX} {C : Cfg}
theorem ifs_nil : PTs X [] (tIfs T XP Wx C .nil) := ⟨fun pins s σ H Q I h => pts_nil.run pins s σ H Q I (by
  obtain ⟨W, ρ, M, at_, p⟩ := h
  exact Post.ok (R := RB) p at_.sh rfl)⟩
theorem ifs_one {c : Expr} {e : E} (hc : PT X c (tT T XP Wx C e)) : PTs X [c] (tIfs T XP Wx C (.cons e .nil)) := ⟨fun pins s σ H Q I h => (pts_one hc).run pins s σ H Q I (by
  obtain ⟨W, ρ, M, at_, p⟩ := h
  exact ⟨W, ρ, M, at_, by simpa only [evIfs, evT] using p⟩)⟩
theorem Le.refr {n : Nat} {W W' : Wd} {f : Hp} (l : Le n W W') (hf : f = W.fr) : Le n W ⟨W'.hF, W'.io, W'.xa, f⟩ := ⟨l.fz, l.io, l.xa, hf⟩
theorem set_comm_none {σ : L2.St} {a b : Nat} : (σ.set a none).set b none = (σ.set b none).set a none := by
  by_cases h : a = b
  · subst h; rfl
  · exact List.set_comm _ _ h
theorem wipe_set_none {σ : L2.St} {a : Nat} : ∀ {vs : List Nat}, wipe (σ.set a none) vs = (wipe σ vs).set a none
  | [] => rfl
  | v :: vs => by
    unfold wipe
    rw [wipe_set_none, set_comm_none]
theorem wipe_wipe {σ : L2.St} : ∀ {vs : List Nat}, wipe (wipe σ vs) vs = wipe σ vs
  | [] => rfl
  | v :: vs => by
    show (wipe ((wipe σ vs).set v none) vs).set v none = (wipe σ vs).set v none
    rw [wipe_set_none, wipe_wipe, List.set_set]
theorem Reps.snoc {T : Stat} {W : Wd} {d : D} {v : V} : ∀ {ds : List D} {vs : List V}, Reps T W ds vs → Rep T W d v → Reps T W (ds ++ [d]) (vs ++ [v])
  | [], vs, h, r => by
    rw [Reps] at h
    subst h
    exact ⟨v, [], rfl, r, by rw [Reps]⟩
  | e :: ds, vs, h, r => by
    obtain ⟨u, w, rfl, h1, h2⟩ := h
    exact ⟨u, w ++ [v], rfl, h1, Reps.snoc h2 r⟩
theorem RL.snoc {T : Stat} {W : Wd} {n : Nat} {ds : List D} {vs : List V} {d : D} {v : V} (r : RL T W n ds vs) (q : RV T W n d v) : RL T W n (ds ++ [d]) (vs ++ [v]) := ⟨Reps.snoc r.1 q.1, unds_iff.mpr fun e he => by
  rcases List.mem_append.mp he with h | h
  · exact unds_iff.mp r.2 e h
  · rw [List.mem_singleton.mp h]; exact q.2⟩
/-- one turn -/
def lcF (C : Cfg) (ifs : Es) (elt : E) (ρ : Env) (M : Store) : Rs (Option D) := (evIfs C ifs ρ M).bind fun b M2 => if b then (ev C elt ρ M2).bind fun d M3 => .ok (some d) M3 else .ok none M2
theorem lc_read {r : Bool} {s : Src} {es ifs : Es} {tg : Tg} {elt : E} (hX : ∀ o, XP o → o = none) : ∀ σ H Q, tE T XP Wx C (.lc r s es tg ifs elt) σ H Q → tLc (tI T XP Wx C s es) (gT T tg) (tIfs T X0 W0 C ifs) (tE T X0 W0 C elt) (slots tg) σ H Q := fun σ H Q ⟨W, ρ, M, at_, p⟩ => by
  have p' : Post T Wx σ (RV T) W M (((evs C es ρ M).bind fun ds M1 => Rs.of (itemsOf s M1 ds) M1).bind fun xs M1 => (lcL C tg (lcF C ifs elt) xs ρ M1 []).bind fun ys M2 => newL r ys M2) Q := by
    simp only [ev] at p
    cases z : evs C es ρ M with
    | ok ds M1 =>
      rw [z] at p
      simp only [Rs.bind] at p ⊢
      cases z2 : itemsOf s M1 ds with
      | none => rw [z2] at p; exact p
      | some xs => rw [z2] at p; exact p
    | ex x M1 => rw [z] at p; exact p
    | no => rw [z] at p; exact p
  refine ⟨W, ρ, M, at_, p'.bind fun xs M1 W1 J H1 s1 it p1 => ?_⟩
  have at1 := at_.step s1
  intro L hL
  have f1 : W1.fr L = none := by
    cases e : W1.fr L with
    | none => rfl
    | some o => have := (s1.sh.fr L o e).1; rw [hL] at this; cases this
  -- what holds between two turns
  refine ⟨fun i m H => m = xs.length - i ∧ i ≤ xs.length ∧ ∃ W2 M2 acc vs, SH T W2 M2 H ∧ W2.fr = upd W1.fr L (.lst vs) ∧ Le M1.length W1 ⟨W2.hF, W2.io, W2.xa, W1.fr⟩ ∧ M1.length ≤ M2.length ∧ RL T W2 M2.length acc vs ∧ vs.length ≤ i ∧
    Post T Wx σ (RV T) W1 M1 ((lcL C tg (lcF C ifs elt) (xs.drop i) ρ M2 acc).bind fun ys M2 => newL r ys M2) Q, ⟨xs.length, by simp, Nat.zero_le _, ⟨W1.hF, W1.io, W1.xa, upd W1.fr L (.lst [])⟩, M1, [], [], s1.sh.frame hL, rfl, ⟨fun _ _ e => e, fun _ _ => rfl, rfl, rfl⟩, Nat.le_refl _, ⟨by rw [Reps], rfl⟩, Nat.le_refl _, by rw [List.drop_zero]; exact p1⟩, ?_⟩
  rintro i m H ⟨rfl, hi', W2, M2, acc, vs, sh, hf, le, hl, rl, hlen, pp⟩
  have le' : Le M1.length ⟨W1.hF, W1.io, W1.xa, W2.fr⟩ W2 := ⟨le.fz, le.io, le.xa, Eq.refl _⟩
  obtain ⟨it1, it2⟩ := it.2 W2 M2 H le' hl sh
  have hsz := it.1
  by_cases hx : i < xs.length
  · have ex : xs[i]? = some xs[i] := List.getElem?_eq_getElem hx
    obtain ⟨hgo, hy⟩ := it1 i _ ex
    have ed : xs.drop i = xs[i] :: xs.drop (i + 1) := List.drop_eq_getElem_cons hx
    rw [ed] at pp
    refine .inr ⟨hgo, fun H' => ∃ W2 M2 acc vs, SH T W2 M2 H' ∧ W2.fr = upd W1.fr L (.lst vs) ∧ Le M1.length W1 ⟨W2.hF, W2.io, W2.xa, W1.fr⟩ ∧ M1.length ≤ M2.length ∧ RL T W2 M2.length acc vs ∧ vs.length ≤ i + 1 ∧
      Post T Wx σ (RV T) W1 M1 ((lcL C tg (lcF C ifs elt) (xs.drop (i + 1)) ρ M2 acc).bind fun ys M2 => newL r ys M2) Q, fun H' h => ⟨xs.length - (i + 1), by omega, rfl, hx, h⟩, fun x H3 hyl => ?_⟩
    obtain ⟨W3, s3, rx⟩ := hy x H3 hyl
    cases zb : bindT tg xs[i] (wipeE ρ (slots tg)) with
    | none => simp only [lcL, zb, Rs.bind] at pp; exact pp.elim
    | some ρ' =>
      have en3 : EnvOk T W3 M2.length (wipeE ρ (slots tg)) (wipe σ (slots tg)) := ((at1.env.fr W2.fr).le le' hl |>.le s3.le (Nat.le_refl _)).wipe _
      refine ⟨W3, _, M2, _, ρ', s3.sh, en3, rx, zb, fun σ' en' hw => ⟨?_, ?_⟩⟩
      · rw [hw _ fun i h => h]
        exact wipe_wipe
      have hxa : W3.xa = none := (s3.le.xa.trans le.xa).trans (hX _ at1.xo)
      have fr3 : W3.fr = upd W1.fr L (.lst vs) := s3.le.fr.trans hf
      have rl3 := rl.up s3
      have le3 : Le M1.length W1 ⟨W3.hF, W3.io, W3.xa, W1.fr⟩ := ⟨fun a o e => s3.le.fz a o (le.fz a o e), fun j hj => (s3.le.io j (Nat.lt_of_lt_of_le hj hl)).trans (le.io j hj), s3.le.xa.trans le.xa, Eq.refl _⟩
      refine ⟨W3, ρ', M2, ⟨s3.sh, en', hxa⟩, ?_⟩
      cases zi : evIfs C ifs ρ' M2 with
      | no => simp only [lcL, zb, lcF, zi, Rs.bind] at pp; exact pp.elim
      | ex x M' => simp only [lcL, zb, lcF, zi, Rs.bind] at pp; exact pp.elim
      | ok b M3 =>
        intro W4 b' H4 s4 eb
        have eb' : b' = b := eb
        subst eb'
        have fr4 : W4.fr = upd W1.fr L (.lst vs) := s4.le.fr.trans fr3
        have rl4 := rl3.up s4
        have le4 : Le M1.length W1 ⟨W4.hF, W4.io, W4.xa, W1.fr⟩ := ⟨fun a o e => s4.le.fz a o (le3.fz a o e), fun j hj => (s4.le.io j (Nat.lt_of_lt_of_le hj hl)).trans (le3.io j hj), s4.le.xa.trans le3.xa, Eq.refl _⟩
        have hl4 : M1.length ≤ M3.length := Nat.le_trans hl s4.len
        cases b' with
        | false =>
          rw [if_neg (by simp)]
          refine ⟨W4, M3, acc, vs, s4.sh, fr4, le4, hl4, rl4, by omega, ?_⟩
          simpa only [lcL, zb, lcF, zi, Rs.bind, Bool.false_eq_true, if_false] using pp
        | true =>
          rw [if_pos rfl]
          refine ⟨W4, ρ', M3, ⟨s4.sh, en'.le s4.le s4.len, s4.le.xa.trans hxa⟩, ?_⟩
          cases ze : ev C elt ρ' M3 with
          | no => simp only [lcL, zb, lcF, zi, ze, Rs.bind, if_true] at pp; exact pp.elim
          | ex x M' => simp only [lcL, zb, lcF, zi, ze, Rs.bind, if_true] at pp; exact pp.elim
          | ok d M4 =>
            intro W5 y H5 s5 ry
            have fr5 : W5.fr = upd W1.fr L (.lst vs) := s5.le.fr.trans fr4
            have rl5 := rl4.up s5
            have le5 : Le M1.length W1 ⟨W5.hF, W5.io, W5.xa, W1.fr⟩ := ⟨fun a o e => s5.le.fz a o (le4.fz a o e), fun j hj => (s5.le.io j (Nat.lt_of_lt_of_le hj hl4)).trans (le4.io j hj), s5.le.xa.trans le4.xa, Eq.refl _⟩
            have h5 : W5.fr L = some (.lst vs) := by rw [fr5, upd_same]
            refine ⟨vs, (s5.sh.fr L _ h5).1, by omega, ⟨W5.hF, W5.io, W5.xa, upd W5.fr L (.lst (vs ++ [y]))⟩, M4, acc ++ [d], vs ++ [y], s5.sh.reframe h5, ?_, le5, Nat.le_trans hl4 s5.len, ?_, ?_, ?_⟩
            · show upd W5.fr L _ = _
              rw [fr5, upd_upd]
            · have ra := RL.snoc rl5 ry
              exact ⟨Reps.fr _ _ _ ra.1, ra.2⟩
            · rw [List.length_append, List.length_singleton]; omega
            · simpa only [lcL, zb, lcF, zi, ze, Rs.bind, if_true] using pp
  · have hi2 : i = xs.length := by omega
    subst hi2
    rw [List.drop_length] at pp
    refine .inl ⟨it2, ?_⟩
    simp only [lcL, Rs.bind] at pp
    have hv : vs.length ≤ sizeLine := Nat.le_trans hlen hsz
    cases r with
    | false =>
      have h2 := sh.unframe hf f1
      refine pp ⟨upd W2.hF L (.lst vs), W2.io, W2.xa, W1.fr⟩ (.ref L) H ⟨⟨fun a o e => ?_, le.io, le.xa, Eq.refl _⟩, hl, h2⟩ ⟨⟨L, vs, rfl, upd_same, hv, ?_⟩, rl.2⟩
      · have hF : W2.hF L = none := (sh.fr L (.lst vs) (by rw [hf, upd_same])).2
        show upd W2.hF L _ a = some o
        rw [upd_ne (ne_of_none (le.fz a o e) hF)]
        exact le.fz a o e
      · have hF : W2.hF L = none := (sh.fr L (.lst vs) (by rw [hf, upd_same])).2
        have l2 : Le M2.length ⟨W2.hF, W2.io, W2.xa, W1.fr⟩ ⟨upd W2.hF L (.lst vs), W2.io, W2.xa, W1.fr⟩ := ⟨fun a o e => by
          show upd W2.hF L _ a = some o
          rw [upd_ne (ne_of_none e hF)]; exact e, fun _ _ => rfl, rfl, rfl⟩
        exact Reps.le l2 acc vs rl.2 (Reps.fr W1.fr acc vs rl.1)
    | true =>
      have h2 := sh.uncell hf f1 rl hv
      refine pp ⟨W2.hF, fun i => if i = M2.length then L else W2.io i, W2.xa, W1.fr⟩ (.ref L) H ⟨⟨le.fz, fun j hj => ?_, le.xa, Eq.refl _⟩, by rw [List.length_append]; omega, h2⟩ ⟨?_, ?_⟩
      · show (if j = M2.length then L else W2.io j) = _
        rw [if_neg (by omega)]
        exact le.io j hj
      · show V.ref L = V.ref (if M2.length = M2.length then L else W2.io M2.length)
        rw [if_pos rfl]
      · simp [D.und]
theorem e_lc {r : Bool} {s : Src} {es ifs : Es} {tg : Tg} {elt : E} {telt ttg titer : Expr} {tifs : List Expr} {scope : Scope} {own : List (Str × Nat)} {pos : Pos} (hK : X.K = T.K) (hX : ∀ o, XP o → o = none) (hc : X.calm = true) (hN : X.N.Nodup)
    (hi : PI X ttg titer (tI T XP Wx C s es)) (ok : BlkOk X.N X.env.scope scope own) (how : own.map (·.2) = slots tg)
    (hg : ∀ (s : Shared) (H : Hp) (A : Addr) (cl : List (Str × Addr)) (fp : List Addr), PG (X.blk s H scope (compEnvC scope cl A X.env) fp) ttg (gT T tg))
    (ht : ∀ (s : Shared) (H : Hp) (A : Addr) (cl : List (Str × Addr)) (fp : List Addr), PTs (X.blk s H scope (compEnvC scope cl A X.env) fp) tifs (tIfs T X0 W0 C ifs))
    (he : ∀ (s : Shared) (H : Hp) (A : Addr) (cl : List (Str × Addr)) (fp : List Addr), PE (X.blk s H scope (compEnvC scope cl A X.env) fp) telt (tE T X0 W0 C elt))
    (hs : ∀ x, foldedSetIterable titer X.env x = pure x) :
    PE X (.ListComp telt [⟨ttg, titer, tifs, 0⟩] scope pos) (tE T XP Wx C (.lc r s es tg ifs elt)) := by
  refine PE.weak (pe_lc hc hN hi ok hg ht he hs) ?_
  rw [how]
  exact lc_read hX
end
end Dv
/-! Statements. -/
namespace Dv
open PySem PySem.Spec PyProof.Rows L2
/-- what a statement leaves -/
def PostS (T : Stat) (Wx : WX) (W : Wd) (M : Store) (r : Fl) (K : Ends) : Prop := match r with
  | .nx ρ' M' => ∀ W' σ' H', Stp T W M W' M' H' → EnvOk T W' M'.length ρ' σ' → K.nx σ' H'
  | .bk ρ' M' => ∀ W' σ' H', Stp T W M W' M' H' → EnvOk T W' M'.length ρ' σ' → K.bk σ' H'
  | .ct ρ' M' => ∀ W' σ' H', Stp T W M W' M' H' → EnvOk T W' M'.length ρ' σ' → K.ct σ' H'
  | .rt d M' => ∀ W' v H', Stp T W M W' M' H' → RV T W' M'.length d v → K.rt v H'
  | .ex x ρ' M' => ∀ W' σ' cls dd H', Stp T W M W' M' H' → EnvOk T W' M'.length ρ' σ' → XRep T W' M'.length x cls dd → Wx cls dd σ' H'
  | .no => False
section
variable {T : Stat} {Wx : WX} {W W1 : Wd} {M M1 : Store} {H H1 : Hp} {K : Ends}
theorem PostS.shift {r : Fl} (h : PostS T Wx W M r K) (s : Stp T W M W1 M1 H1) : PostS T Wx W1 M1 r K := by
  cases r with
  | nx ρ M' => exact fun W' v H' s' q => h W' v H' (s.trans s') q
  | bk ρ M' => exact fun W' v H' s' q => h W' v H' (s.trans s') q
  | ct ρ M' => exact fun W' v H' s' q => h W' v H' (s.trans s') q
  | rt ρ M' => exact fun W' v H' s' q => h W' v H' (s.trans s') q
  | ex x ρ M' => exact fun W' σ c d H' s' q => h W' σ c d H' (s.trans s') q
  | no => exact h
theorem PostS.fl {α β : Type} {R : Wd → Nat → α → β → Prop} {σ : L2.St} {ρ : Env} {r : Rs α} {f : α → Store → Fl} {Q1 : β → Hp → Prop} (h : PostS T Wx W M (r.fl ρ f) K) (en : EnvOk T W M.length ρ σ)
    (k : ∀ a M1 W1 b H1, r = .ok a M1 → Stp T W M W1 M1 H1 → R W1 M1.length a b → PostS T Wx W1 M1 (f a M1) K → Q1 b H1) : Post T Wx σ R W M r Q1 := by
  cases r with
  | ok d M' => exact fun W' v H' s' q => k d M' W' v H' rfl s' q (PostS.shift h s')
  | ex x M' => exact fun W' cls dd H' s' q => h W' σ cls dd H' s' (en.le s'.le s'.len) q
  | no => exact h
theorem PostS.seq {r : Fl} {f : Env → Store → Fl} (h : PostS T Wx W M (r.seq f) K) {N : L2.St → Hp → Prop} (k : ∀ ρ1 M1 W1 σ1 H1, Stp T W M W1 M1 H1 → EnvOk T W1 M1.length ρ1 σ1 → PostS T Wx W1 M1 (f ρ1 M1) K → N σ1 H1) : PostS T Wx W M r { K with nx := N } := by
  cases r with
  | nx ρ M' => exact fun W' σ' H' s' q => k ρ M' W' σ' H' s' q (PostS.shift h s')
  | bk ρ M' => exact h
  | ct ρ M' => exact h
  | rt ρ M' => exact h
  | ex x ρ M' => exact h
  | no => exact h
theorem PostS.nxt {ρ : Env} {σ : L2.St} (h : PostS T Wx W M (.nx ρ M) K) (s : SH T W M H) (en : EnvOk T W M.length ρ σ) : K.nx σ H := h W σ H (Stp.rfl s) en
end
def tS (T : Stat) (XP : XPT) (Wx : WX) (C : Cfg) (s : S) : TS := fun K σ H => ∃ W ρ M, At T XP σ H W ρ M ∧ PostS T Wx W M (sx C s ρ M) K
def tSs (T : Stat) (XP : XPT) (Wx : WX) (C : Cfg) (s : Ss) : TS := fun K σ H => ∃ W ρ M, At T XP σ H W ρ M ∧ PostS T Wx W M (sxs C s ρ M) K
theorem PS.weak {X : Cx} {a : Stmt} {t t' : TS} (h : PS X a t') (w : ∀ K σ H, t K σ H → t' K σ H) : PS X a t := ⟨fun pins s σ H K I q => h.run pins s σ H K I (w K σ H q)⟩
theorem PSs.weak {X : Cx} {a : List Stmt} {t t' : TS} (h : PSs X a t') (w : ∀ K σ H, t K σ H → t' K σ H) : PSs X a t := ⟨fun pins s σ H K I q => h.run pins s σ H K I (w K σ H q)⟩
theorem XPa.le {T : Stat} {XP : XPT} {σ σ1 : L2.St} {H H1 : Hp} {W W1 : Wd} {ρ ρ1 : Env} {M M1 : Store} (a : At T XP σ H W ρ M) (s : Stp T W M W1 M1 H1) (en : EnvOk T W1 M1.length ρ1 σ1) : At T XP σ1 H1 W1 ρ1 M1 := ⟨s.sh, en, by rw [s.le.xa]; exact a.xo⟩
section
variable {T : Stat} {X : Cx} {XP : XPT} {Wx : WX} {C : Cfg} {pos : Pos}
theorem ss_nil : PSs X [] (tSs T XP Wx C .nil) := PSs.weak pss_nil fun K σ H ⟨W, ρ, M, at_, p⟩ => by
  simp only [sxs] at p
  exact p.nxt at_.sh at_.env
theorem ss_cons {a : Stmt} {as : List Stmt} {s : S} {ss : Ss} (h1 : PS X a (tS T XP Wx C s)) (h2 : PSs X as (tSs T XP Wx C ss)) : PSs X (a :: as) (tSs T XP Wx C (.cons s ss)) := by
  refine PSs.weak (pss_cons h1 h2) fun K σ H ⟨W, ρ, M, at_, p⟩ => ?_
  simp only [sxs] at p
  exact ⟨W, ρ, M, at_, p.seq fun ρ1 M1 W1 σ1 H1 s1 en p1 => ⟨W1, ρ1, M1, XPa.le at_ s1 en, p1⟩⟩
/-- a docstring is passed by -/
theorem ss_doc {x : Str} {j : Nat} {p1 p2 : Pos} {as : List Stmt} {ss : Ss} (h2 : PSs X as (tSs T XP Wx C ss)) : PSs X (.Expr (.Constant (.str x) j p1) p2 :: as) (tSs T XP Wx C ss) := by
  refine PSs.weak (pss_cons ps_doc h2) fun K σ H h => h
theorem s_pass : PS X (.Pass pos) (tS T XP Wx C .pass) := PS.weak ps_pass fun K σ H ⟨W, ρ, M, at_, p⟩ => by
  simp only [sx] at p
  exact p.nxt at_.sh at_.env
theorem s_brk : PS X (.Break pos) (tS T XP Wx C .brk) := PS.weak ps_break fun K σ H ⟨W, ρ, M, at_, p⟩ => by
  simp only [sx] at p
  exact p W σ H (Stp.rfl at_.sh) at_.env
theorem s_cont : PS X (.Continue pos) (tS T XP Wx C .cont) := PS.weak ps_continue fun K σ H ⟨W, ρ, M, at_, p⟩ => by
  simp only [sx] at p
  exact p W σ H (Stp.rfl at_.sh) at_.env
theorem s_retN : PS X (.Return none pos) (tS T XP Wx C .retN) := PS.weak ps_retN fun K σ H ⟨W, ρ, M, at_, p⟩ => by
  simp only [sx] at p
  exact p W .non H (Stp.rfl at_.sh) ⟨rfl, rfl⟩
theorem s_ret {a : Expr} {ea : E} {z : Bool} (ha : PE X a (tE T XP Wx C ea)) : PS X (.Return (some a) pos) (tS T XP Wx C (.ret z ea)) := by
  refine PS.weak (ps_ret ha) fun K σ H ⟨W, ρ, M, at_, p⟩ => ?_
  simp only [sx] at p
  refine ⟨W, ρ, M, at_, p.fl (R := RV T) at_.env fun d M1 W1 v H1 _ s1 r1 p1 => ?_⟩
  cases z with
  | false => exact p1 W1 v H1 (Stp.rfl s1.sh) r1
  | true =>
    simp only [if_true] at p1
    have p2 : Post T Wx σ (RV T) W1 M1 (freeze d M1) K.rt := p1.fl (R := RV T) (at_.step s1).env fun d2 M2 W2 v2 H2 _ s2 r2 p2 => p2 W2 v2 H2 (Stp.rfl s2.sh) r2
    exact freeze_ok s1.sh r1 p2
theorem s_ex {a : Expr} {ea : E} (ha : PE X a (tE T XP Wx C ea)) (hs : swapsWith a none pos.line X.env = pure false) : PS X (.Expr a pos) (tS T XP Wx C (.ex ea)) := by
  refine PS.weak (ps_expr ha hs) fun K σ H ⟨W, ρ, M, at_, p⟩ => ?_
  simp only [sx] at p
  exact ⟨W, ρ, M, at_, p.fl (R := RV T) at_.env fun d M1 W1 v H1 _ s1 r1 p1 => p1.nxt s1.sh (at_.step s1).env⟩
theorem s_if {c : Expr} {ec : E} {a b : List Stmt} {sa sb : Ss} (hc : PT X c (tT T XP Wx C ec)) (ha : PSs X a (tSs T XP Wx C sa)) (hb : PSs X b (tSs T XP Wx C sb)) : PS X (.If c a b pos) (tS T XP Wx C (.ite ec sa sb)) := by
  refine PS.weak (ps_if hc ha hb) fun K σ H ⟨W, ρ, M, at_, p⟩ => ?_
  simp only [sx] at p
  refine ⟨W, ρ, M, at_, p.fl (R := RB) at_.env fun d M1 W1 v H1 _ s1 r1 p1 => ?_⟩
  have e : v = d := r1
  subst e
  cases v with
  | true => exact ⟨W1, ρ, M1, at_.step s1, p1⟩
  | false => exact ⟨W1, ρ, M1, at_.step s1, p1⟩
theorem s_set {tg : Tg} {t a : Expr} {ea : E} (ha : PE X a (tE T XP Wx C ea)) (hg : PG X t (gT T tg)) (hs : swapsWithSole [t] a pos.line X.env = pure false) (hw : swappedStores [t] a X.env = pure none) (h1 : tgLike t = true) : PS X (.Assign [t] a pos) (tS T XP Wx C (.set tg ea)) := by
  refine PS.weak (ps_asg ha hg hs hw (by rw [asg_cons h1]; rfl)) fun K σ H ⟨W, ρ, M, at_, p⟩ => ?_
  simp only [sx] at p
  refine ⟨W, ρ, M, at_, p.fl (R := RV T) at_.env fun d M1 W1 v H1 _ s1 r1 p1 => ?_⟩
  cases z : bindT tg d ρ with
  | none => rw [z] at p1; exact p1.elim
  | some ρ' =>
    rw [z] at p1
    exact ⟨W1, ρ, M1, d, ρ', s1.sh, (at_.step s1).env, r1, z, fun σ' en' _ => p1.nxt s1.sh en'⟩
/-- name = value -/
theorem s_n {i : Nat} {x : Str} {a : Expr} {ea : E} {p' : Pos} (hN : X.N.Nodup) (hi : X.N[i]? = some x) (hx : Loc X.env.scope x) (hf : X.fn x = true ∨ X.env.scope.names.lookup x = some .local) (ha : PE X a (tE T XP Wx C ea)) (hs : swapsWith a (some (.Name x p')) pos.line X.env = pure false) :
    PS X (.Assign [.Name x p'] a pos) (tS T XP Wx C (.set (.n i) ea)) := by
  refine PS.weak (ps_set hN hi hx ha hs hf) fun K σ H ⟨W, ρ, M, at_, p⟩ => ?_
  simp only [sx] at p
  refine ⟨W, ρ, M, at_, p.fl (R := RV T) at_.env fun d M1 W1 v H1 _ s1 r1 p1 => ?_⟩
  simp only [bindT] at p1
  split at p1
  · rename_i ρ' e
    split at e
    · cases e
      exact p1.nxt s1.sh ((at_.step s1).env.set i r1.1 r1.2)
    · cases e
  · exact p1.elim
/-- a, b = x, y -/
theorem s_par {i j : Nat} {x y : Str} {a b : Expr} {ea eb : E} {px py pt : Pos} {kt k2 : Nat} {pt2 : Pos} (hc : X.calm = true) (hN : X.N.Nodup) (hi : X.N[i]? = some x) (hj : X.N[j]? = some y)
    (hx : X.env.scope.names.lookup x = some .local) (hy : X.env.scope.names.lookup y = some .local) (hij : i ≠ j) (ha : PA X [a, b] (tA T XP Wx C (.cons ea (.cons eb .nil))))
    (hw : swappedStores [.Tuple [.Name x px, .Name y py] kt pt] (.Tuple [a, b] k2 pt2) X.env = pure (some [x, y])) (hs : swapsWithSole [.Tuple [.Name x px, .Name y py] kt pt] (.Tuple [a, b] k2 pt2) pos.line X.env = pure false) :
    PS X (.Assign [.Tuple [.Name x px, .Name y py] kt pt] (.Tuple [a, b] k2 pt2) pos) (tS T XP Wx C (.par i j ea eb)) := by
  refine PS.weak (ps_par hc hN hi hj hij hx hy ha hw hs) fun K σ H ⟨W, ρ, M, at_, p⟩ => ?_
  have p' : PostS T Wx W M ((evs C (.cons ea (.cons eb .nil)) ρ M).fl ρ fun ds M2 => match ds with
      | [x, y] => if i < ρ.length ∧ j < ρ.length ∧ i ≠ j then .nx ((ρ.set i (some x)).set j (some y)) M2 else .no
      | _ => .no) K := by
    simp only [sx] at p
    simp only [evs]
    cases z : ev C ea ρ M with
    | ok d M1 =>
      rw [z] at p
      simp only [Rs.fl] at p
      simp only [Rs.bind]
      cases z2 : ev C eb ρ M1 with
      | ok d2 M2 => rw [z2] at p; simp only [Rs.fl] at p ⊢; exact p
      | ex x M2 => rw [z2] at p; exact p
      | no => rw [z2] at p; exact p
    | ex x M1 => rw [z] at p; exact p
    | no => rw [z] at p; exact p
  refine ⟨W, ρ, M, at_, p'.fl (R := RL T) at_.env fun ds M1 W1 vs H1 he s1 r1 p1 => ?_⟩
  obtain ⟨d, d2, rfl⟩ := evs_len2 he
  obtain ⟨v, v2, rfl, rv, rv2⟩ := r1.two
  refine ⟨v, v2, rfl, ?_⟩
  simp only at p1
  split at p1
  · exact p1.nxt s1.sh (((at_.step s1).env.set i rv.1 rv.2).set j rv2.1 rv2.2)
  · exact p1.elim
/-- name op= value -/
theorem s_add {i : Nat} {x : Str} {a : Expr} {ea : E} {p' : Pos} (hN : X.N.Nodup) (hi : X.N[i]? = some x) (hx : Loc X.env.scope x) (hf : X.fn x = true ∨ X.env.scope.names.lookup x = some .local) (ha : PE X a (tE T XP Wx C ea)) :
    PS X (.AugAssign (.Name x p') .Add a pos) (tS T XP Wx C (.aug i .add ea)) := by
  refine PS.weak (ps_aug hN hi hx ha ip_add hf) fun K σ H ⟨W, ρ, M, at_, p⟩ => ?_
  simp only [sx] at p
  split at p
  · rename_i d ed
    obtain ⟨v, e1, rv, ru⟩ := at_.env.at_ i d ed
    refine ⟨v, e1, W, ρ, M, at_, p.fl (R := RV T) at_.env fun d2 M1 W1 v2 H1 _ s1 r1 p1 => ?_⟩
    cases d with
    | int a =>
      cases d2 with
      | int b =>
        cases rv
        cases r1.1
        exact ⟨a, b, rfl, rfl, p1.nxt s1.sh ((at_.step s1).env.set (d := .int (a + b)) i rfl rfl)⟩
      | _ => exact p1.elim
    | _ => exact p1.elim
  · exact p.elim
theorem s_subt {i : Nat} {x : Str} {a : Expr} {ea : E} {p' : Pos} (hN : X.N.Nodup) (hi : X.N[i]? = some x) (hx : Loc X.env.scope x) (hf : X.fn x = true ∨ X.env.scope.names.lookup x = some .local) (ha : PE X a (tE T XP Wx C ea)) :
    PS X (.AugAssign (.Name x p') .Sub a pos) (tS T XP Wx C (.aug i .sub ea)) := by
  refine PS.weak (ps_aug hN hi hx ha ip_sub hf) fun K σ H ⟨W, ρ, M, at_, p⟩ => ?_
  simp only [sx] at p
  split at p
  · rename_i d ed
    obtain ⟨v, e1, rv, ru⟩ := at_.env.at_ i d ed
    refine ⟨v, e1, W, ρ, M, at_, p.fl (R := RV T) at_.env fun d2 M1 W1 v2 H1 _ s1 r1 p1 => ?_⟩
    cases d with
    | int a =>
      cases d2 with
      | int b =>
        cases rv
        cases r1.1
        exact ⟨a, b, rfl, rfl, p1.nxt s1.sh ((at_.step s1).env.set (d := .int (a - b)) i rfl rfl)⟩
      | _ => exact p1.elim
    | _ => exact p1.elim
  · exact p.elim
/-- o[i] = value -/
theorem s_sub {o i a : Expr} {eo ei ea : E} {p' : Pos} (ha : PE X a (tE T XP Wx C ea)) (ho : PE X o (tE T XP Wx C eo)) (hi : PE X i (tE T XP Wx C ei)) (hs : swapsWithSole [.Subscript o i p'] a pos.line X.env = pure false) (hg : ∀ v, assign (.Subscript o i p') X.env v = (do
      let ov ← holding [v] (eval o X.env)
      let iv ← holding [v, ov] (eval i X.env)
      standAt p'
      holding [v, ov, iv] (setItem ov iv v)
      release [v, ov, iv] [])) : PS X (.Assign [.Subscript o i p'] a pos) (tS T XP Wx C (.sub eo ei ea)) := by
  refine PS.weak (ps_asg ha (pg_sub ho hi set_list hg) hs (by cases a <;> rfl) rfl) fun K σ H ⟨W, ρ, M, at_, p⟩ => ?_
  simp only [sx] at p
  refine ⟨W, ρ, M, at_, p.fl (R := RV T) at_.env fun d M1 W1 v H1 _ s1 r1 p1 => ?_⟩
  refine ⟨W1, ρ, M1, at_.step s1, p1.fl (R := RV T) (at_.step s1).env fun d2 M2 W2 v2 H2 _ s2 r2 p2 => ?_⟩
  refine ⟨W2, ρ, M2, (at_.step s1).step s2, p2.fl (R := RV T) ((at_.step s1).step s2).env fun d3 M3 W3 v3 H3 _ s3 r3 p3 => ?_⟩
  have r1' := (r1.up s2).up s3
  have r2' := r2.up s3
  split at p3
  · rename_i M4 e4
    cases d2 with
    | ref n =>
      cases d3 with
      | int j =>
        simp only [setD] at e4
        cases q : M3[n]? with
        | none => rw [q] at e4; cases e4
        | some c =>
          rw [q] at e4
          cases c with
          | lst xs =>
            simp only at e4
            cases qj : L2.ixN xs.length j with
            | none => rw [qj] at e4; cases e4
            | some k =>
              rw [qj] at e4
              cases e4
              have e2 : v2 = V.ref (W3.io n) := r2'.1
              cases r3.1
              obtain ⟨vs, h1, h2, h3⟩ := s3.sh.cl n _ q
              have hl : xs.length = vs.length := h3.length
              refine ⟨W3.io n, vs, j, k, e2, rfl, h1, by rw [← hl]; exact qj, ?_⟩
              have u : Cell.und M3.length (.lst (xs.set k d)) = true := by
                refine unds_iff.mpr fun y hy => ?_
                rcases List.mem_or_eq_of_mem_set hy with h | h
                · exact unds_iff.mp (s3.sh.wf n _ q) y h
                · rw [h]; exact r1'.2
              have w := s3.sh.write (o := .lst (vs.set k v)) q (fun z => nomatch z) (c := .lst (xs.set k d)) (fun z => nomatch z) u ⟨vs.set k v, upd_same, by rw [List.length_set]; exact h2, Reps.set r1'.1 k h3⟩
              refine p3 W3 σ _ ⟨Le.rfl, by rw [List.length_set]; exact Nat.le_refl _, w⟩ ?_
              rw [List.length_set]
              exact (((at_.step s1).step s2).step s3).env
          | _ => cases e4
      | _ => simp only [setD] at e4; cases e4
    | _ => simp only [setD] at e4; cases e4
  · exact p3.elim
theorem put_names (inj : ∀ i j, T.atn i = T.atn j → i = j) {f : Nat} {y : V} : ∀ {ks : List Nat} {vs : List V}, ks.length = vs.length → names T (put f y ks vs).1 (put f y ks vs).2 = putF (T.atn f) y (names T ks vs)
  | [], [], _ => by simp [put, names, putF]
  | k :: ks, v :: vs, h => by
    by_cases hk : k = f
    · subst hk
      simp [put, names, putF]
    · have hne : T.atn k ≠ T.atn f := fun z => hk (inj _ _ z)
      have ih := put_names inj (f := f) (y := y) (ks := ks) (vs := vs) (by simpa using h)
      unfold names at ih ⊢
      simp only [put, if_neg hk, List.map_cons, List.zip_cons_cons, putF, if_neg hne, ih]
  | [], v :: vs, h => by simp at h
  | k :: ks, [], h => by simp at h
theorem put_fst {α β : Type} {f : Nat} {x : α} {y : β} : ∀ {ks : List Nat} {as : List α} {bs : List β}, as.length = bs.length → (put f x ks as).1 = (put f y ks bs).1
  | [], _, _, _ => by simp [put]
  | k :: ks, [], [], _ => by simp [put]
  | k :: ks, a :: as, b :: bs, h => by
    simp only [put]
    by_cases hk : k = f
    · simp [hk]
    · simp only [if_neg hk]
      rw [put_fst (f := f) (x := x) (y := y) (ks := ks) (as := as) (bs := bs) (by simpa using h)]
  | k :: ks, [], b :: bs, h => by simp at h
  | k :: ks, a :: as, [], h => by simp at h
theorem put_len {α : Type} {f : Nat} {x : α} : ∀ {ks : List Nat} {as : List α}, ks.length = as.length → (put f x ks as).1.length = (put f x ks as).2.length
  | [], [], _ => by simp [put]
  | k :: ks, a :: as, h => by
    simp only [put]
    by_cases hk : k = f
    · simp only [if_pos hk]; exact h
    · simp only [if_neg hk, List.length_cons]
      rw [put_len (by simpa using h)]
  | [], v :: vs, h => by simp at h
  | k :: ks, [], h => by simp at h
theorem put_mem {α : Type} {f : Nat} {x : α} {n : Nat} : ∀ {ks : List Nat} {as : List α}, n ∈ (put f x ks as).1 → n ∈ ks ∨ n = f
  | [], as, h => by simp [put] at h; exact .inr h
  | k :: ks, [], h => by simp [put] at h; exact .inr h
  | k :: ks, a :: as, h => by
    simp only [put] at h
    by_cases hk : k = f
    · rw [if_pos hk] at h; exact .inl h
    · rw [if_neg hk] at h
      rcases List.mem_cons.mp h with h | h
      · exact .inl (by simp [h])
      · rcases put_mem h with h | h
        · exact .inl (by simp [h])
        · exact .inr h
theorem put_reps {W : Wd} {f : Nat} {d : D} {v : V} (r : Rep T W d v) : ∀ {ks : List Nat} {ds : List D} {vs : List V}, Reps T W ds vs → Reps T W (put f d ks ds).2 (put f v ks vs).2
  | [], ds, vs, h => by simp only [put]; exact Reps.one r
  | k :: ks, [], vs, h => by
    rw [Reps] at h
    subst h
    simp only [put]
    exact Reps.one r
  | k :: ks, x :: ds, vs, h => by
    obtain ⟨w, u, rfl, h1, h2⟩ := h
    simp only [put]
    by_cases hk : k = f
    · simp only [if_pos hk]; exact ⟨v, u, rfl, r, h2⟩
    · simp only [if_neg hk]; exact ⟨w, _, rfl, h1, put_reps r h2⟩
theorem put_unds {f n : Nat} {d : D} (r : d.und n = true) : ∀ {ks : List Nat} {ds : List D}, D.unds n ds = true → D.unds n (put f d ks ds).2 = true
  | [], ds, h => by simp only [put, D.unds, Bool.and_true]; exact r
  | k :: ks, [], h => by simp only [put, D.unds, Bool.and_true]; exact r
  | k :: ks, x :: ds, h => by
    simp only [D.unds, Bool.and_eq_true] at h
    simp only [put]
    by_cases hk : k = f
    · simp only [if_pos hk, D.unds, Bool.and_eq_true]; exact ⟨r, h.2⟩
    · simp only [if_neg hk, D.unds, Bool.and_eq_true]; exact ⟨h.1, put_unds r h.2⟩
/-- o.f = value -/
theorem s_fld {o a : Expr} {eo ea : E} {f : Nat} {n : Str} {p' : Pos} (hK : X.K = T.K) (inj : ∀ i j, T.atn i = T.atn j → i = j) (G : ∀ c f, C.fok c f = true → NoAttr T.K (T.cls c) (T.atn f)) (hn : n = T.atn f) (ha : PE X a (tE T XP Wx C ea)) (ho : PE X o (tE T XP Wx C eo)) (hs : swapsWith a (some (.Attribute o n p')) pos.line X.env = pure false) :
    PS X (.Assign [.Attribute o n p'] a pos) (tS T XP Wx C (.fld eo f ea)) := by
  subst hn
  refine PS.weak (ps_fld ho ha hs) fun K σ H ⟨W, ρ, M, at_, p⟩ => ?_
  rw [hK]
  simp only [sx] at p
  refine ⟨W, ρ, M, at_, p.fl (R := RV T) at_.env fun d M1 W1 v H1 _ s1 r1 p1 => ?_⟩
  refine ⟨W1, ρ, M1, at_.step s1, p1.fl (R := RV T) (at_.step s1).env fun d2 M2 W2 v2 H2 _ s2 r2 p2 => ?_⟩
  have r1' := r1.up s2
  split at p2
  · rename_i M4 e4
    cases d2 with
    | ref n =>
      simp only [fldD] at e4
      cases q : M2[n]? with
      | none => rw [q] at e4; cases e4
      | some c =>
        rw [q] at e4
        cases c with
        | ins c ks ds =>
          simp only at e4
          split at e4
          · rename_i hb
            cases e4
            have e2 : v2 = V.ref (W2.io n) := r2.1
            obtain ⟨dx, vs, h1, ⟨h2, ko⟩, h3⟩ := s2.sh.cl n _ q
            refine ⟨W2.io n, T.cls c, dx, names T ks vs, e2, h1, ko.co.cl, G c f hb.2, by simp [names, ← h2]; omega, ?_⟩
            have na := G c f hb.2
            have ee : (put f d ks ds).1 = (put f v ks vs).1 := put_fst h3.length
            have w := s2.sh.write (o := .ins (T.cls c) dx (putF (T.atn f) v (names T ks vs))) q (fun z => nomatch z) (c := .ins c (put f d ks ds).1 (put f d ks ds).2) (fun z => nomatch z) (put_unds r1'.2 (s2.sh.wf n _ q))
              ⟨dx, (put f v ks vs).2, by rw [upd_same, ee, put_names inj h2], ⟨by rw [ee]; exact put_len h2, ko.co, fun k hk => by
                rcases put_mem hk with h | h
                · exact ko.na k h
                · rw [h]; exact na⟩, put_reps r1'.1 h3⟩
            refine p2 W2 σ _ ⟨Le.rfl, by rw [List.length_set]; exact Nat.le_refl _, w⟩ ?_
            rw [List.length_set]
            exact ((at_.step s1).step s2).env
          · cases e4
        | _ => cases e4
    | _ => simp only [fldD] at e4; cases e4
  · exact p2.elim
end
end Dv
/-! Loops. -/
namespace Dv
open PySem PySem.Spec PyProof.Rows L2
section
variable {T : Stat} {X : Cx} {XP : XPT} {Wx : WX} {C : Cfg}
/-- y = [..] stored within the comprehension -/
theorem s_setLc {i : Nat} {y : Str} {py spos : Pos} {r : Bool} {s : Src} {es ifs : Es} {tg : Tg} {elt : E} {telt ttg titer : Expr} {tifs : List Expr} {scope : Scope} {own : List (Str × Nat)} {pos : Pos} (hy : X.N[i]? = some y) (hyl : X.env.scope.names.lookup y = some .local) (hsw : swapsWith (.ListComp telt [⟨ttg, titer, tifs, 0⟩] scope pos) (some (.Name y py)) spos.line X.env = pure true) (hK : X.K = T.K) (hX : ∀ o, XP o → o = none) (hc : X.calm = true) (hN : X.N.Nodup)
    (hi : PI X ttg titer (tI T XP Wx C s es)) (ok : BlkOk X.N X.env.scope scope own) (how : own.map (·.2) = slots tg)
    (hg : ∀ (s : Shared) (H : Hp) (A : Addr) (cl : List (Str × Addr)) (fp : List Addr), PG (X.blk s H scope (compEnvC scope cl A X.env) fp) ttg (gT T tg))
    (ht : ∀ (s : Shared) (H : Hp) (A : Addr) (cl : List (Str × Addr)) (fp : List Addr), PTs (X.blk s H scope (compEnvC scope cl A X.env) fp) tifs (tIfs T X0 W0 C ifs))
    (he : ∀ (s : Shared) (H : Hp) (A : Addr) (cl : List (Str × Addr)) (fp : List Addr), PE (X.blk s H scope (compEnvC scope cl A X.env) fp) telt (tE T X0 W0 C elt))
    (hs : ∀ x, foldedSetIterable titer X.env x = pure x) :
    PS X (.Assign [.Name y py] (.ListComp telt [⟨ttg, titer, tifs, 0⟩] scope pos) spos) (tS T XP Wx C (.set (.n i) (.lc r s es tg ifs elt))) := by
  refine PS.weak (ps_setLc hc hN hy hyl hsw hi ok hg ht he hs) fun K σ H ⟨W, ρ, M, at_, p⟩ => ?_
  rw [how]
  rw [sx] at p
  refine lc_read hX σ H _ ⟨W, ρ, M, at_, p.fl (R := RV T) at_.env fun d M1 W1 v H1 _ s1 r1 p1 => ?_⟩
  simp only [bindT] at p1
  split at p1
  · rename_i ρ' e
    split at e
    · cases e
      exact p1.nxt s1.sh ((at_.step s1).env.set i r1.1 r1.2)
    · cases e
  · exact p1.elim
/-- a turn of a loop -/
theorem turn_ok {W W1 : Wd} {M M1 : Store} {σ : L2.St} {H : Hp} {ρ ρ' : Env} {K : Ends} {N : L2.St → Hp → Prop} {r : Fl} {g : Env → Store → Fl} 
    (p : PostS T Wx W M (match r with
      | .nx ρ1 M1 => g ρ1 M1
      | .ct ρ1 M1 => g ρ1 M1
      | .bk ρ1 M1 => .nx ρ1 M1
      | r => r) K) (k : ∀ ρ1 M1 W1 σ1 H1, Stp T W M W1 M1 H1 → EnvOk T W1 M1.length ρ1 σ1 → PostS T Wx W1 M1 (g ρ1 M1) K → N σ1 H1) : PostS T Wx W M r { K with nx := N, ct := N, bk := K.nx } := by
  cases r with
  | nx ρ1 M1 => exact fun W' σ' H' s' en => k ρ1 M1 W' σ' H' s' en (PostS.shift p s')
  | ct ρ1 M1 => exact fun W' σ' H' s' en => k ρ1 M1 W' σ' H' s' en (PostS.shift p s')
  | bk ρ1 M1 => exact p
  | rt d M1 => exact p
  | ex x ρ1 M1 => exact p
  | no => exact p
def forT (T : Stat) (XP : XPT) (Wx : WX) (C : Cfg) (tg : Tg) (b : Ss) (J : It) (K : Ends) (σ : L2.St) (H1 : Hp) : Prop := ∃ W : Nat → Nat → L2.St → Hp → Prop, (∃ m, W 0 m σ H1) ∧ ∀ i m σ H, W i m σ H →
  (J.stop i H ∧ K.nx σ H) ∨ (J.go i H ∧ ∃ N : L2.St → Hp → Prop, (∀ σ' H', N σ' H' → ∃ m', m' < m ∧ W (i + 1) m' σ' H') ∧ ∀ x H', J.yld i H x H' → gT T tg x σ H' fun σ2 H2 => tSs T XP Wx C b { K with nx := N, ct := N, bk := K.nx } σ2 H2)
theorem for_core {W1 : Wd} {M1 : Store} {σ : L2.St} {H1 : Hp} {ρ : Env} {K : Ends} {tg : Tg} {b : Ss} {J : It} {xs : List D} (at1 : At T XP σ H1 W1 ρ M1) (it : ItOk T W1 M1.length xs J) (p : PostS T Wx W1 M1 (forL tg (fun ρ' M' => sxs C b ρ' M') xs ρ M1) K) : forT T XP Wx C tg b J K σ H1 := by
  refine ⟨fun i m σ H => m = xs.length - i ∧ i ≤ xs.length ∧ ∃ W2 ρ2 M2, At T XP σ H W2 ρ2 M2 ∧ Stp T W1 M1 W2 M2 H ∧ PostS T Wx W2 M2 (forL tg (fun ρ' M' => sxs C b ρ' M') (xs.drop i) ρ2 M2) K,
    ⟨xs.length, by simp, Nat.zero_le _, W1, ρ, M1, at1, Stp.rfl at1.sh, by rw [List.drop_zero]; exact p⟩, ?_⟩
  rintro i m σ H ⟨rfl, hi', W2, ρ2, M2, at2, s2, pp⟩
  obtain ⟨it1, it2⟩ := it.2 W2 M2 H s2.le.any s2.len s2.sh
  by_cases hx : i < xs.length
  · have ex : xs[i]? = some xs[i] := List.getElem?_eq_getElem hx
    obtain ⟨hgo, hy⟩ := it1 i _ ex
    rw [List.drop_eq_getElem_cons hx] at pp
    refine .inr ⟨hgo, fun σ' H' => ∃ W2 ρ2 M2, At T XP σ' H' W2 ρ2 M2 ∧ Stp T W1 M1 W2 M2 H' ∧ PostS T Wx W2 M2 (forL tg (fun ρ' M' => sxs C b ρ' M') (xs.drop (i + 1)) ρ2 M2) K, fun σ' H' h => ⟨xs.length - (i + 1), by omega, rfl, hx, h⟩, fun x H3 hyl => ?_⟩
    obtain ⟨W3, s3, rx⟩ := hy x H3 hyl
    cases zb : bindT tg xs[i] ρ2 with
    | none => simp only [forL, zb] at pp; exact pp.elim
    | some ρ' =>
      refine ⟨W3, ρ2, M2, _, ρ', s3.sh, (at2.step s3).env, rx, zb, fun σ' en' _ => ⟨W3, ρ', M2, XPa.le at2 s3 en', ?_⟩⟩
      have pp' := pp.shift s3
      simp only [forL, zb] at pp'
      exact turn_ok (g := fun ρ1 M1 => forL tg (fun ρ' M' => sxs C b ρ' M') (xs.drop (i + 1)) ρ1 M1) (W1 := W3) (M1 := M2) (σ := σ') (H := H3) (ρ := ρ') (ρ' := ρ') pp' fun ρ4 M4 W4 σ4 H4 s4 en4 p4 => ⟨W4, ρ4, M4, XPa.le (XPa.le at2 s3 en') s4 en4, (s2.trans s3).trans s4, p4⟩
  · have hi2 : i = xs.length := by omega
    subst hi2
    rw [List.drop_length] at pp
    simp only [forL] at pp
    exact .inl ⟨it2, pp.nxt at2.sh at2.env⟩
theorem for_cell {W1 : Wd} {M1 : Store} {σ : L2.St} {H1 : Hp} {ρ : Env} {K : Ends} {tg : Tg} {b : Ss} {n k : Nat} (hn : n < M1.length) (at1 : At T XP σ H1 W1 ρ M1) (p : PostS T Wx W1 M1 (forC tg (fun ρ' M' => sxs C b ρ' M') n k 0 ρ M1) K) : forT T XP Wx C tg b (Itl T.K (W1.io n)) K σ H1 := by
  refine ⟨fun i m σ H => ∃ W2 ρ2 M2, At T XP σ H W2 ρ2 M2 ∧ Stp T W1 M1 W2 M2 H ∧ PostS T Wx W2 M2 (forC tg (fun ρ' M' => sxs C b ρ' M') n m i ρ2 M2) K, ⟨k, W1, ρ, M1, at1, Stp.rfl at1.sh, p⟩, ?_⟩
  rintro i m σ H ⟨W2, ρ2, M2, at2, s2, pp⟩
  cases m with
  | zero => simp only [forC] at pp; exact pp.elim
  | succ m =>
    simp only [forC] at pp
    cases q : M2[n]? with
    | none => rw [q] at pp; exact pp.elim
    | some c =>
      rw [q] at pp
      cases c with
      | ins _ _ _ => exact pp.elim
      | dead => exact pp.elim
      | lst xs =>
        simp only at pp
        obtain ⟨vs, h1, h2, h3⟩ := s2.sh.cl n _ q
        rw [s2.le.io n hn] at h1
        have sq : SqL T.K H (W1.io n) vs := .inl (.inl h1)
        cases z : xs[i]? with
        | none =>
          rw [z] at pp
          refine .inl ⟨⟨vs, sq, ?_⟩, pp.nxt at2.sh at2.env⟩
          rw [← h3.length]
          exact List.getElem?_eq_none_iff.mp z
        | some d =>
          rw [z] at pp
          obtain ⟨v, g1, g2⟩ := h3.get z
          have ud : d.und M2.length = true := unds_iff.mp (s2.sh.wf n _ q) d (List.mem_of_getElem? z)
          refine .inr ⟨⟨vs, v, sq, g1⟩, fun σ' H' => ∃ W2 ρ2 M2, At T XP σ' H' W2 ρ2 M2 ∧ Stp T W1 M1 W2 M2 H' ∧ PostS T Wx W2 M2 (forC tg (fun ρ' M' => sxs C b ρ' M') n m (i + 1) ρ2 M2) K, fun σ' H' h => ⟨m, Nat.lt_succ_self _, h⟩, fun x H3 ⟨e2, e3⟩ => ?_⟩
          subst e2
          have : x = v := Option.some.inj ((e3 vs sq).symm.trans g1)
          subst this
          simp only at pp
          cases zb : bindT tg d ρ2 with
          | none => rw [zb] at pp; exact pp.elim
          | some ρ' =>
            rw [zb] at pp
            refine ⟨W2, ρ2, M2, d, ρ', s2.sh, at2.env, ⟨g2, ud⟩, zb, fun σ' en' _ => ⟨W2, ρ', M2, XPa.le at2 (Stp.rfl s2.sh) en', ?_⟩⟩
            exact turn_ok (g := fun ρ1 M1 => forC tg (fun ρ' M' => sxs C b ρ' M') n m (i + 1) ρ1 M1) (W1 := W2) (M1 := M2) (σ := σ') (H := H3) (ρ := ρ') (ρ' := ρ') pp fun ρ4 M4 W4 σ4 H4 s4 en4 p4 => ⟨W4, ρ4, M4, XPa.le (XPa.le at2 (Stp.rfl s2.sh) en') s4 en4, s2.trans s4, p4⟩
def notSeq : Src → Bool
  | .seq => false
  | _ => true
theorem s_for {s : Src} {es : Es} {tg : Tg} {b : Ss} {ttg titer : Expr} {body : List Stmt} {pos : Pos} (hns : notSeq s = true) (hp : PassesOwn (model X.prog X.w) X.A X.env X.xe) (hc : X.calm = true) (hi : PI X ttg titer (tI T XP Wx C s es)) (hg : PG X ttg (gT T tg)) (hb : PSs X body (tSs T XP Wx C b))
    (hs : ∀ x, foldedSetIterable titer X.env x = pure x) : PS X (.For ttg titer body [] pos) (tS T XP Wx C (.for_ s es tg b)) := by
  refine PS.weak (ps_for hp hc hi hg hb hs) fun K σ H ⟨W, ρ, M, at_, p⟩ => ?_
  refine ⟨W, ρ, M, at_, ?_⟩
  have p' : PostS T Wx W M (((evs C es ρ M).bind fun ds M1 => Rs.of (itemsOf s M1 ds) M1).fl ρ fun xs M1 => forL tg (fun ρ' M' => sxs C b ρ' M') xs ρ M1) K := by
    simp only [sx] at p
    cases z : evs C es ρ M with
    | ok ds M1 =>
      rw [z] at p
      simp only [Rs.fl, Rs.bind] at p ⊢
      split at p
      · cases hns
      · cases z2 : itemsOf s M1 ds with
        | none => rw [z2] at p; exact p
        | some xs => rw [z2] at p; exact p
    | ex x M1 => rw [z] at p; exact p
    | no => rw [z] at p; exact p
  exact p'.fl (R := ItOk T) at_.env fun xs M1 W1 J H1 _ s1 it p1 => for_core (at_.step s1) it p1
theorem s_forS {ee : E} {tg : Tg} {b : Ss} {ttg titer : Expr} {body : List Stmt} {pos : Pos} (hK : X.K = T.K) (hp : PassesOwn (model X.prog X.w) X.A X.env X.xe) (hc : X.calm = true) (hi : PE X titer (tE T XP Wx C ee)) (hg : PG X ttg (gT T tg)) (hb : PSs X body (tSs T XP Wx C b))
    (hs : ∀ x, foldedSetIterable titer X.env x = pure x) : PS X (.For ttg titer body [] pos) (tS T XP Wx C (.for_ .seq (.cons ee .nil) tg b)) := by
  refine PS.weak (ps_for hp hc (pi_seq hi) hg hb hs) fun K σ H ⟨W, ρ, M, at_, p⟩ => ?_
  refine ⟨W, ρ, M, at_, ?_⟩
  have p' : PostS T Wx W M ((ev C ee ρ M).fl ρ fun d M1 => match d with
      | .ref n => (match M1[n]? with
        | some (.lst xs) => forC tg (fun ρ' M' => sxs C b ρ' M') n (xs.length + 1) 0 ρ M1
        | _ => .no)
      | d => match itemsOf .seq M1 [d] with
        | some xs => forL tg (fun ρ' M' => sxs C b ρ' M') xs ρ M1
        | none => .no) K := by
    simp only [sx, evs] at p
    cases z : ev C ee ρ M with
    | ok d M1 =>
      rw [z] at p
      simp only [Rs.fl, Rs.bind] at p ⊢
      cases d <;> exact p
    | ex x M1 => rw [z] at p; exact p
    | no => rw [z] at p; exact p
  refine p'.fl (R := RV T) at_.env fun d M1 W1 v H1 _ s1 r1 p1 => ?_
  rw [hK]
  have at1 := at_.step s1
  cases d with
  | str z =>
    simp only [itemsOf] at p1
    split at p1
    · rename_i xs e
      split at e
      · rename_i hb
        cases e
        cases r1.1
        exact .inr (.inr ⟨z, rfl, for_core at1 (it_str hb) p1⟩)
      · cases e
    · exact p1.elim
  | tup ds =>
    obtain ⟨⟨a, vs, rfl, h1, h2, h3⟩, u⟩ := r1
    exact .inr (.inl ⟨a, rfl, ⟨vs, s1.sh.sqT h1⟩, for_core at1 (it_tup h1 h2 ⟨h3, u⟩) p1⟩)
  | lst ds =>
    obtain ⟨⟨a, vs, rfl, h1, h2, h3⟩, u⟩ := r1
    exact .inl ⟨a, rfl, ⟨vs, .inl (.inl (s1.sh.fz _ _ h1))⟩, for_core at1 (it_list h1 h2 ⟨h3, u⟩) p1⟩
  | ref n =>
    simp only at p1
    have e2 : v = V.ref (W1.io n) := r1.1
    have hn : n < M1.length := by simpa [D.und] using r1.2
    cases q : M1[n]? with
    | none => rw [q] at p1; exact p1.elim
    | some c =>
      rw [q] at p1
      cases c with
      | ins _ _ _ => exact p1.elim
      | dead => exact p1.elim
      | lst xs =>
        obtain ⟨vs, h1, h2, h3⟩ := s1.sh.cl n _ q
        exact .inl ⟨W1.io n, e2, ⟨vs, .inl (.inl h1)⟩, for_cell hn at1 p1⟩
  | non => exact p1.elim
  | bl _ => exact p1.elim
  | int _ => exact p1.elim
  | obj _ _ _ => exact p1.elim
  | exn _ _ _ => exact p1.elim
  | scr _ => exact p1.elim
theorem s_while {n : Nat} {c : Expr} {ec : E} {b : Ss} {body : List Stmt} {pos : Pos} (hp : PassesOwn (model X.prog X.w) X.A X.env X.xe) (hc : PT X c (tT T XP Wx C ec)) (hb : PSs X body (tSs T XP Wx C b)) : PS X (.While c body [] pos) (tS T XP Wx C (.while_ n ec b)) := by
  refine PS.weak (ps_while hp hc hb) fun K σ H ⟨W, ρ, M, at_, p⟩ => ?_
  simp only [sx] at p
  refine ⟨fun m σ H => ∃ W2 ρ2 M2, At T XP σ H W2 ρ2 M2 ∧ PostS T Wx W2 M2 (whileL (fun ρ' M' => evT C ec ρ' M') (fun ρ' M' => sxs C b ρ' M') m ρ2 M2) K, ⟨n, W, ρ, M, at_, p⟩, ?_⟩
  rintro m σ H ⟨W2, ρ2, M2, at2, pp⟩
  cases m with
  | zero => simp only [whileL] at pp; exact pp.elim
  | succ m =>
    simp only [whileL] at pp
    refine ⟨W2, ρ2, M2, at2, pp.fl (R := RB) at2.env fun d M3 W3 v H3 _ s3 r3 p3 => ?_⟩
    have e : v = d := r3
    subst e
    cases v with
    | false =>
      rw [if_neg Bool.false_ne_true]
      simp only [Bool.false_eq_true, if_false] at p3
      exact p3.nxt s3.sh (at2.step s3).env
    | true =>
      rw [if_pos rfl]
      simp only [if_true] at p3
      refine ⟨fun σ' H' => ∃ W2 ρ2 M2, At T XP σ' H' W2 ρ2 M2 ∧ PostS T Wx W2 M2 (whileL (fun ρ' M' => evT C ec ρ' M') (fun ρ' M' => sxs C b ρ' M') m ρ2 M2) K, fun σ' H' h => ⟨m, Nat.lt_succ_self _, h⟩, W3, ρ2, M3, at2.step s3, ?_⟩
      exact turn_ok (g := fun ρ1 M1 => whileL (fun ρ' M' => evT C ec ρ' M') (fun ρ' M' => sxs C b ρ' M') m ρ1 M1) (W1 := W3) (M1 := M3) (σ := σ) (H := H3) (ρ := ρ2) (ρ' := ρ2) p3 fun ρ4 M4 W4 σ4 H4 s4 en4 p4 => ⟨W4, ρ4, M4, XPa.le (at2.step s3) s4 en4, p4⟩
end
end Dv
/-! Own exceptions whose __init__ says super().__init__(text), then keeps its arguments. -/
namespace Dv
open PySem PySem.Spec PyProof.Rows L2 PySem.W PySem.Calls
section
variable {prog : Program} {w : World} {A : Around} {E : Value → Shared → Prop} {h : Heap} {g : Array GenState} {d : Drawn} {t : Nat} {os : OsState}
variable {nm q : Str} {C N : Addr} {bs bm : List Value} {hdct : Bool} {sn : List Str} {sub : List Value} {ab : Bool} {col : Option Bool} {dd : Option Addr} {k0 k1 k2 k3 k5 : Option Value}
theorem call_mwV {u e t0 : Addr} {rest : List Value} {Q : Value → Shared → Prop}
    (hC : h.get? C = some (excClassObj nm q C N bs bm hdct sn sub ab col dd k0 k1 k2 k3 k5 "ValueError.__new__")) (he : h.get? e = some (HandSPX.excO C t0)) (hu : h.get? u = some (kxs_mw "ValueError.__init__" e)) (hrest : rest.length ≤ sizeLine)
    (hq : ∀ h' t1, (∀ b o, b ≠ e → h.get? b = some o → h'.get? b = some o) → h'.get? e = some (HandSPX.excO C t1) → Q .none ⟨h', g, d, t, os⟩) :
    wpAny (model prog w) A (call (.ref u) rest) Q E ⟨h, g, d, t, os⟩ := by
  refine wpAny_call (codeAny_of_tree ?_)
  show wpAny _ A.in1 (callAny (.ref u) ⟨rest, []⟩) _ _ _
  simp only [callAny]
  refine wpAny_bind (wpAny_load hu ?_)
  simp only [kxs_mw, show (Value.type "method-wrapper" == Value.type "method" || Value.type "method-wrapper" == Value.type "builtin_function_or_method" || Value.type "method-wrapper" == Value.type "method-wrapper") = true by decide, if_true]
  refine W.KFB.if_so (by decide) ?_
  refine wpAny_bind (ESX.check_bound F.excBase_ValueError hC he rfl ?_)
  refine wpAny_bind (wpAny_pure (wpAny_pure ?_))
  refine ⟨Code.quiet_builtin _ (by decide +kernel), codeAny_builtin F.excBase_ValueError.initEntry ?_⟩
  rw [Around.under_plainId F.excBase_ValueError.init.plain _]
  wp_walk
  refine hq _ h.objs.size (fun b o hb ho => ?_) ?_
  · rw [Heap.get?_update_other _ _ (Ne.symm hb)]
    exact Heap.get?_push_of_some _ ho
  · rw [Heap.get?_update_self _ (Heap.get?_push_of_some _ he) rfl]
    rfl
end
/-- the facts of the written part -/
structure XCls (K : PySem.W.Frag) (C : Addr) : Prop where
  oex : OexC K C
  sub : subIn K (.ref C) (.type "ValueError") = some true
  opq : nsIn K cStatics "thirdparty.any" = some none
  sup : ks_superIn K C C "__init__" = some (some (.builtin "ValueError.__init__"))
  mro : mroIn K C (.ref C) = some true
section
variable {prog : Program} {w : World} {A : Around} {s : Shared} {R : Result → Shared → Prop} {K : PySem.W.Frag} {C fI x t0 cda cc : Addr}
variable {name qual self : Str} {params : Arguments} {body rest : List Stmt} {scope : Scope} {dV kV doc pm ct oc : Value} {an od : Option Addr} {osl : Array (Option Value)} {args : Args} {binds : List (Str × Value)} {ar : Arg} {vs : Array Value} {file msg : Str} {tf : Tok} {ccl cl : Value} {cdd cld : Option Addr} {ccs csl : Array (Option Value)} {p0 p1 p2 p3 p4 p5 : Pos} {j : Nat} {mg : Str → Option Value}
theorem xinit_code (XC : XCls K C) (hK : K.In s.heap) (hg : s.heap.Ns mainGlobals mg) (hgs : mg "super" = none) (hb : ∃ mb, s.heap.Ns builtinsNs mb ∧ ∀ y : Str, y ≠ "__name__" → mb y = bootBuiltins y) (lim : s.heap.NoLimit) (hd : A.depth < recursionLimit)
    (lk : K.lookup fI = some ⟨oc, od, .func (ksFn name qual params body scope dV kV doc pm an (.ref cda) ct cc), osl⟩) (hcd : codeIn K (.ref cda) qual = true) (hbind : BindsTo s (ksFn name qual params body scope dV kV doc pm an (.ref cda) ct cc) args binds)
    (hloc : ∀ y ∈ binds, scope.names.lookup y.1 = some .local) (hnc : ∀ z ∈ scope.names, z.2 ≠ .cell) (hco : scope.isCoroutine = false) (hgen : scope.isGenerator = false) (hk : scope.kind = .function)
    (eb : body = .Expr (.Call (.Attribute (.Call (.Name "super" p0) [] [] p1) "__init__" p2) [.Constant (.str msg) j p3] [] p4) p5 :: rest)
    (hp : (params.posonlyargs ++ params.args).head? = some ar) (hself : binds.reverse.lookup ar.arg = some (.ref x)) (hsl : scope.names.lookup ar.arg = some .local)
    (hcode : K.lookup cda = some ⟨ccl, cdd, .fields vs, ccs⟩) (hvs : vs[2]? = some (.str file tf)) (hfile : ((prog.main.file : Str) == file) = true) (htop : (prog.main.scope.names.lookup ("super" : Str)).isSome = false)
    (hcell : K.lookup cc = some ⟨cl, cld, .cell (some (.ref C)), csl⟩) (hks : scope.names.lookup ("super" : Str) = some .globalImplicit) (hkc : scope.names.lookup ("__class__" : Str) = some .free)
    (he : ∀ env : PySem.Env, ∃ pl : Sem Bool, eval (.Call (.Attribute (.Call (.Name "super" p0) [] [] p1) "__init__" p2) [.Constant (.str msg) j p3] [] p4) env = (do
      let ov ← attributeBase (.Call (.Name "super" p0) [] [] p1) "__init__" env (eval (.Call (.Name "super" p0) [] [] p1) env)
      standAt p2.atName
      let (f, first) ← holding [ov] (getMethod ov "__init__" pl)
      callWith p4 f first (backTo p4 (starEach [.Constant (.str msg) j p3] env)) []))
    (hx : s.heap.get? x = some (HandSPX.excO C t0))
    (h : ∀ L h' tk t1, s.heap.objs.size ≤ L → h'.Ns L (fun y => binds.reverse.lookup y) → (∀ b o, b ≠ x → s.heap.get? b = some o → h'.get? b = some o) → h'.get? x = some (HandSPX.excO C t1) → L ≠ x →
      wpAny (model prog w) (A.deeper (ksEnv qual scope L fI (.ref cda) cc)) (execs rest (ksEnv qual scope L fI (.ref cda) cc)) (fun f s' => R (.ok (.ret (match f with | .ret v => v | _ => .none))) s')
        (fun e s' => wpAny (model prog w) (A.deeper (ksEnv qual scope L fI (.ref cda) cc)) (leaving (ksEnv qual scope L fI (.ref cda) cc) e) (fun _ s'' => R (.error e) s'') (fun e' s'' => R (.error e') s'') s')
        { s with heap := h', toks := tk }) : codeAny (model prog w) A (.call (.ref fI) args) R s := by
  obtain ⟨nm, q, N, bs, bm, sn, sub, ab, col, dd, k0, k1, k2, k3, k5, hC, hbm⟩ := XC.oex.cls
  have hcl : PySem.W.clsIn K C = some { name := nm, bases := bs, mro := .ref C :: bm, ns := N, qualname := q, hasDict := true, slotNames := sn, subclasses := sub, abstract := ab, collection := col, hasDel := false } := by unfold PySem.W.clsIn; rw [hC] <;> rfl
  subst eb
  refine ks_codeAny_call_defAt (fd := ksFn name qual params _ scope dV kV doc pm an (.ref cda) ct cc) hd (hK _ _ lk) rfl lim (codeRec_of hK hcd) rfl hbind hnc hloc (fun h₀ hns hk₀ => ?_) hco hgen hk
  have hK0 : K.In h₀ := hK.keeps hk₀
  have hx0 := hk₀ _ _ hx
  have hLx : s.heap.objs.size ≠ x := Ne.symm (Nat.ne_of_lt (Heap.lt_size hx))
  obtain ⟨pl, he⟩ := he (ksEnv qual scope s.heap.objs.size fI (.ref cda) cc)
  refine ks_wpAt_execs_cons (ks_wpAt_Expr_any (env := ksEnv qual scope s.heap.objs.size fI (.ref cda) cc) (ks_wpAt_MethodCall (pl := pl) ?_ he) (by simp [interactive, hk]) rfl)
  refine ks_wpAt_super_base (env := ksEnv qual scope s.heap.objs.size fI (.ref cda) cc) hks hkc (by decide) rfl (hK0 _ _ lk) rfl hp rfl (hK0 _ _ hcode) rfl hvs hfile htop ?_
  obtain ⟨mb, hb1, hb2⟩ := hb
  refine ks_loadName_global hk hks (loadGlobal_builtin (env := ksEnv qual scope s.heap.objs.size fI (.ref cda) cc) (hg.keeps hk₀) hgs (hb1.keeps hk₀) ((hb2 _ (by decide)).trans PyProof.Rows.Boot.«super») ⟨rfl, ?_⟩)
  refine wpAny_loadName_free hk hkc rfl ⟨_, hK0 _ _ hcell, rfl⟩ ?_
  refine wpAny_loadName_local hk hsl hns hself ?_
  obtain ⟨hp, g, dr, tk, os⟩ := s
  refine ks_wpAny_isType_cls (hK0 _ _ hC) rfl ⟨rfl, ?_⟩
  refine ks_wpAny_call_super (hK0 _ _ hC) rfl hx0 rfl (fun c e => by cases e) (looks_mroIn hK0 XC.mro) fun h1 hso hk1 => ?_
  have hK1 : K.In h1 := hK0.keeps hk1
  have hx1 := hk1 _ _ hx0
  have I1 : InstAt h1 x (HandSPX.excO C t0) C none := ⟨hx1, rfl, rfl, trivial⟩
  have hI : Looks (model prog w) h1 (isInstance (.ref x) (.type "ValueError")) true := I1.type.andThen (looks_subIn hK1 XC.sub)
  have hm : alongIn K "__init__" (((Value.ref C :: bm).dropWhile (· != .ref C)).drop 1) = some (some (.builtin "ValueError.__init__")) := by
    have := XC.sup
    unfold ks_superIn at this
    rw [hcl] at this
    exact this
  refine kxs_getMethod kxs_ValueError hso (looks_opaque hK1 XC.opq) (l₀ := .ref C :: bm) ?_ rfl hK1 hm hI (ks_ne hK1 I1 hcl) (by decide) ?_
  · exact fun A Q E s k q => wpAny_bind ((looks_clsIn hK1 hcl) A _ E s k (wpAny_pure q))
  refine kxs_callWith (i := "ValueError.__init__") (x := x) (by rfl) ?_
  refine Calls.evalArgs_plain (Calls.spliced_cons (Calls.Constant_str (k := j) (pos := p3) (Calls.spliced_nil ⟨Heap.get?_push_size _ rfl, ?_⟩)))
  have up2 : ∀ b o, h1.get? b = some o → (h1.push (kxs_mw "ValueError.__init__" x)).get? b = some o := fun b o e => Heap.get?_push_of_some _ e
  refine call_mwV (up2 _ _ (hK1 _ _ hC)) (up2 _ _ hx1) (Heap.get?_push_size _ rfl) (by rw [sizeLine_eq]; simp) fun h2 t1 hk2 hx2 => ?_
  refine wpAt_of_wpAny (h hp.objs.size h2 _ t1 (Nat.le_refl _) ?_ (fun b o hb e => hk2 b o hb (up2 _ _ (hk1 _ _ (hk₀ _ _ e)))) hx2 hLx)
  refine hns.at fun o e => hk2 _ _ hLx (up2 _ _ (hk1 _ _ e))
/-- self.f = p, the first one -/
theorem xasg_new {env : PySem.Env} {L : Addr} {m : Str → Option Value} {sf pn f : Str} {v : Value} {q1 q2 q3 q4 : Pos} {t1 : Addr} {Q : Flow → Shared → Prop} {E : Value → Shared → Prop} {rest : List Stmt} (XC : XCls K C) (hK : K.In s.heap) (hL : env.locals = L) (hns : s.heap.Ns L m) (hk : env.scope.kind = .function)
    (h1 : m sf = some (.ref x)) (h2 : m pn = some v) (k1 : env.kindOf sf = some .local) (k2 : env.kindOf pn = some .local) (d1 : (sf == ("__debug__" : Str)) = false) (d2 : (pn == ("__debug__" : Str)) = false) (hf : findIn K (.ref C) f = some none)
    (hx : s.heap.get? x = some (HandSPX.excO C t1)) (hLx : L ≠ x)
    (h : ∀ h' tk dx, (∀ b o, b ≠ x → s.heap.get? b = some o → h'.get? b = some o) → s.heap.objs.size ≤ dx → dx ≠ x → h'.get? x = some { cls := .ref C, dict := some dx, data := .fields #[.ref t1, .none, .none, .none, .bool false, .none] } →
      h'.Ns1 dx (fun y => if y = f then some v else none) → h'.Ns L m → wpAny (model prog w) A (execs rest env) Q E { s with heap := h', toks := tk }) :
    wpAny (model prog w) A (execs (.Assign [.Attribute (.Name sf q1) f q2] (.Name pn q3) q4 :: rest) env) Q E s := by
  obtain ⟨nm, q, N, bs, bm, sn, sub, ab, col, dd, k0, k1', k2', k3, k5, hC, hbm⟩ := XC.oex.cls
  have hcl : PySem.W.clsIn K C = some { name := nm, bases := bs, mro := .ref C :: bm, ns := N, qualname := q, hasDict := true, slotNames := sn, subclasses := sub, abstract := ab, collection := col, hasDel := false } := by unfold PySem.W.clsIn; rw [hC] <;> rfl
  subst hL
  refine wpAny_execs_cons (plainObj_wpAny_Assign_Attribute (ESX.ldL hns h2 (ESX.ldL hns h1 ?_ hk k1 d1) hk k2 d2) rfl)
  obtain ⟨hp, g, d, t, os⟩ := s
  refine PySem.W.set_plain hK (ox := HandSPX.excO C t1) (od := none) ⟨hx, rfl, rfl, trivial⟩ XC.oex.sa ?_
  refine PySem.HandSPX.exc_osa hK hx hcl (show PySem.HandSPX.refsVE (.ref C :: bm) = true from hbm) rfl hf (fun h' tk' dx k dn dne hx' hn => ?_)
  exact h h' tk' dx k dn dne hx' hn (hns.at fun o e => k _ _ hLx e)
theorem xasg_old {env : PySem.Env} {L dx : Addr} {m m0 : Str → Option Value} {nl : List Str} {sf pn f : Str} {v : Value} {q1 q2 q3 q4 : Pos} {t1 : Addr} {Q : Flow → Shared → Prop} {E : Value → Shared → Prop} {rest : List Stmt} (XC : XCls K C) (hK : K.In s.heap) (hL : env.locals = L) (hns : s.heap.Ns L m) (hk : env.scope.kind = .function)
    (h1 : m sf = some (.ref x)) (h2 : m pn = some v) (k1 : env.kindOf sf = some .local) (k2 : env.kindOf pn = some .local) (d1 : (sf == ("__debug__" : Str)) = false) (d2 : (pn == ("__debug__" : Str)) = false) (hf : findIn K (.ref C) f = some none)
    (hx : s.heap.get? x = some { cls := .ref C, dict := some dx, data := .fields #[.ref t1, .none, .none, .none, .bool false, .none] }) (hd : s.heap.Ns1 dx m0) (hw : Within m0 nl) (hz : nl.length ≤ 1000) (hLd : L ≠ dx)
    (h : ∀ h' tk, (∀ b o, b ≠ dx → s.heap.get? b = some o → h'.get? b = some o) → h'.Ns1 dx (fun y => if y = f then some v else m0 y) → h'.Ns L m → wpAny (model prog w) A (execs rest env) Q E { s with heap := h', toks := tk }) :
    wpAny (model prog w) A (execs (.Assign [.Attribute (.Name sf q1) f q2] (.Name pn q3) q4 :: rest) env) Q E s := by
  obtain ⟨nm, q, N, bs, bm, sn, sub, ab, col, dd, k0, k1', k2', k3, k5, hC, hbm⟩ := XC.oex.cls
  have hcl : PySem.W.clsIn K C = some { name := nm, bases := bs, mro := .ref C :: bm, ns := N, qualname := q, hasDict := true, slotNames := sn, subclasses := sub, abstract := ab, collection := col, hasDel := false } := by unfold PySem.W.clsIn; rw [hC] <;> rfl
  subst hL
  refine wpAny_execs_cons (plainObj_wpAny_Assign_Attribute (ESX.ldL hns h2 (ESX.ldL hns h1 ?_ hk k1 d1) hk k2 d2) rfl)
  obtain ⟨hp, g, d, t, os⟩ := s
  obtain ⟨oD, _, _, hoD, _, _⟩ := hd.count hw
  refine PySem.W.set_plain hK (ox := { cls := .ref C, dict := some dx, data := .fields #[.ref t1, .none, .none, .none, .bool false, .none] }) (od := some oD) ⟨hx, rfl, rfl, hoD⟩ XC.oex.sa ?_
  refine PySem.OEX.osa_old hK hx hd hw hz hcl (show PySem.HandSPX.refsVE (.ref C :: bm) = true from hbm) rfl hf (fun h' tk' k hn => ?_)
  exact h h' tk' k hn (hns.at fun o e => k _ _ hLd e)
end
/-- what __init__ leaves: the exception with its dict -/
def XIni (P : Program) (w : World) (K : PySem.W.Frag) (mg : Str → Option Value) (C fI : Addr) (fs : List Str) : Prop :=
  ∀ (A : Around) (s : Shared) (us : List Value) (x t0 : Addr) (R : Result → Shared → Prop), K.In s.heap → s.heap.Ns mainGlobals mg → (∃ mb, s.heap.Ns builtinsNs mb ∧ ∀ y : Str, y ≠ "__name__" → mb y = bootBuiltins y) → s.heap.NoLimit → Room 1 A → us.length = fs.length →
    s.heap.get? x = some (HandSPX.excO C t0) → K.lookup x = none →
    (∀ h' tk dx t1, (∀ b o, b ≠ x → s.heap.get? b = some o → h'.get? b = some o) → s.heap.objs.size ≤ dx → dx ≠ x → h'.get? x = some { cls := .ref C, dict := some dx, data := .fields #[.ref t1, .none, .none, .none, .bool false, .none] } →
      (∃ mA, h'.Ns1 dx mA ∧ ∀ y, mA y = (fs.zip us).lookup y) → R (.ok (.ret .none)) { s with heap := h', toks := tk }) →
    codeAny (model P w) A (.call (.ref fI) ⟨.ref x :: us, []⟩) R s
/-- C(e, ..) -/
def tMkX (C : Addr) (fs : List Str) (ta : TA) : L2.St → Hp → XK → Prop := fun σ H Q => ta σ H fun vs H1 => vs.length = fs.length ∧ ∀ dx, H1 dx = none → Q (.ref C) (some dx) (upd H1 dx (.xd (fs.zip vs)))
theorem relO_zip : ∀ {fs : List Str} {vs : List V} {us : List Value}, Vals vs us → ∀ f, RelO ((fs.zip vs).lookup f) ((fs.zip us).lookup f)
  | [], vs, us, r, f => by simp [RelO]
  | g :: fs, [], us, r, f => by cases r; simp [RelO]
  | g :: fs, v :: vs, us, r, f => by
    cases r with
    | cons r1 r2 =>
      simp only [List.zip_cons_cons, List.lookup]
      by_cases h : f = g
      · subst h
        simp only [beq_self_eq_true]
        exact r1
      · have e : (f == g) = false := by simpa using h
        simp only [e]
        exact relO_zip r2 f
theorem pmk_x {X : Cx} {x : Str} {C fI : Addr} {fs : List Str} {e : Expr} {es : List Expr} {ta : TA} {p pos : Pos} (XC : XCls X.K C) (iC : PySem.W.findIn X.K (.ref C) "__init__" = some (some (.ref fI))) (tI : PySem.W.typeIn X.K (.ref fI) = some (.type "function"))
    (F1 : XIni X.prog X.w X.K X.mg C fI fs) (hr : Room 2 X.A) (hl : fs.length ≤ 1000) (hg : Gl X x) (hm : X.mg x = some (.ref C)) (ha : PA X (e :: es) ta)
    (hdb : (x == ("__debug__" : Str)) = false) (he : starEach (e :: es) X.env = (false, eval e X.env) :: starEach es X.env) (hpl : (backTo pos (starEach es X.env)).any (·.1) = false) :
    PMk X (.Call (.Name x p) (e :: es) [] pos) (tMkX C fs ta) := by
  intro pins s σ H Q I h
  obtain ⟨nm, q, N, bs, bm, sn, sub, ab, col, dd, k0, k1, k2, k3, k5, hC, hbm⟩ := XC.oex.cls
  refine wpAny_Call_Name_kw (ld_glob I hg hm ?_ hdb)
  refine PySem.W.callWith_K (h₀ := X.base) I.ok.mod.kin XC.oex.kC (thn (ha.run pos pins s σ H _ I h) fun us s1 ⟨vs, H1, I1, r1, hz, q1⟩ => ⟨I1.kIn, ?_⟩) he hpl
  show wpAny _ _ (call (.ref C) us) _ _ _
  have ml := I1.mod
  have bk := I1.bk
  have bare := I1.bare
  obtain ⟨hp, g, dr, tk, os⟩ := s1
  have hus : us.length ≤ sizeLine := by
    rw [← r1.length, sizeLine_eq]
    omega
  have kk : ∀ b o, hp.get? b = some o → ((hp.push (PySem.W.kdv_tup us)).push (PySem.HandSPX.excO C hp.objs.size)).get? b = some o := fun b o e => Heap.get?_push_of_some _ (Heap.get?_push_of_some _ e)
  have hget : ((hp.push (PySem.W.kdv_tup us)).push (PySem.HandSPX.excO C hp.objs.size)).get? (hp.objs.size + 1) = some (PySem.HandSPX.excO C hp.objs.size) := by heap_get
  have bk2 : ∀ b o, X.base.get? b = some o → ((hp.push (PySem.W.kdv_tup us)).push (PySem.HandSPX.excO C hp.objs.size)).get? b = some o := fun b o e => kk b o (bk b o e)
  obtain ⟨mb, hb1, hb2⟩ := ml.blt
  refine wpAny_call (PySem.HandSPX.call_own F.excBase_ValueError (fun Y => PySem.HandSPX.refsVE_contains Y bm hbm) (I1.kIn _ _ hC) (PySem.W.looks_findIn I1.kIn iC) (fun self => PySem.W.bind_fn I1.kIn self tI) hus ?_)
  refine F1 _ _ us (hp.objs.size + 1) hp.objs.size _ (ml.kin.keeps bk2) (ml.glob.keeps bk2) ⟨mb, hb1.keeps bk2, hb2⟩ (ml.nolimit.keeps bk2) (hr.make C us []) (by rw [← r1.length]; exact hz) hget ?_ ?_
  · cases q : X.K.lookup (hp.objs.size + 1) with
    | none => rfl
    | some o => exact absurd (Heap.lt_size (bk _ _ (ml.kin _ _ q))) (Nat.not_lt_of_le (Nat.le_succ _))
  rintro h' tk' dx t1 hk hdx hne hx' ⟨mA, hn, hmA⟩
  have hsz : hp.objs.size + 2 ≤ dx := by
    have := hdx
    simp only [Heap.size_push] at this
    omega
  have hnd : H1 dx = none := I1.hok.fresh (by show hp.objs.size ≤ dx; omega)
  have hna : H1 (hp.objs.size + 1) = none := I1.hok.fresh (by show hp.objs.size ≤ _; omega)
  obtain ⟨G, g1', g2'⟩ := restrict h' fun b => decide (b ≠ hp.objs.size + 1)
  have gk : ∀ b, b ≠ hp.objs.size + 1 → G.get? b = h'.get? b := fun b hb => g1' b (decide_eq_true hb)
  have ge : G.get? (hp.objs.size + 1) = none := g2' _ (by simp)
  have nha : ∀ {b : Addr} {o : Obj}, hp.get? b = some o → b ≠ hp.objs.size + 1 := fun {b o} z => Nat.ne_of_lt (Nat.lt_succ_of_lt (Heap.lt_size z))
  have kG : ∀ b o, hp.get? b = some o → G.get? b = some o := fun b o z => by rw [gk b (nha z)]; exact hk b o (nha z) (kk b o z)
  have J : Inv X pins σ (upd H1 dx (.xd (fs.zip vs))) ⟨G, g, dr, tk', os⟩ := I1.laid (t' := tk') (a := dx) (o := .xd (fs.zip vs)) (h' := G) kG (by show hp.objs.size ≤ dx; omega) ⟨mA, hn.at fun o y => (gk dx hne).trans y, fun f => by rw [hmA f]; exact relO_zip r1 f⟩
  refine ⟨rfl, hp.objs.size + 1, _, _, ⟨G, g, dr, tk', os⟩, _, .ref C, some dx, rfl, J, fun b o z => ?_, ge, hx', ⟨rfl, rfl⟩, rfl, rfl, ?_, rfl, bare, raises_own XC.oex.exC XC.oex.tyC, q1 dx hnd⟩
  · by_cases hba : b = hp.objs.size + 1
    · rw [hba, ge] at z; cases z
    · exact (gk b hba).symm.trans z
  · rw [upd_ne (Ne.symm hne)]; exact hna
end Dv
/-! raise, try. -/
namespace Dv
open PySem PySem.Spec PyProof.Rows L2
section
variable {T : Stat} {X : Cx} {XP : XPT} {Wx : WX} {C : Cfg}
theorem s_raise {c : Nat} {x : Str} {fI : Addr} {e : Expr} {es : List Expr} {ess : Es} {p pos pos' : Pos} (hK : X.K = T.K) (hc : X.calm = true) (tk : Takes X Wx) (XC : XCls X.K (T.cls c)) (iC : PySem.W.findIn X.K (.ref (T.cls c)) "__init__" = some (some (.ref fI))) (tI : PySem.W.typeIn X.K (.ref fI) = some (.type "function"))
    (F1 : XIni X.prog X.w X.K X.mg (T.cls c) fI ((C.exf c).map T.atn)) (hr : Room 2 X.A) (hl : (C.exf c).length ≤ 1000) (hg : Gl X x) (hm : X.mg x = some (.ref (T.cls c))) (ha : PA X (e :: es) (tA T XP Wx C ess))
    (hdb : (x == ("__debug__" : Str)) = false) (he : starEach (e :: es) X.env = (false, eval e X.env) :: starEach es X.env) (hpl : (backTo pos (starEach es X.env)).any (·.1) = false) :
    PS X (.Raise (some (.Call (.Name x p) (e :: es) [] pos)) none pos') (tS T XP Wx C (.raise c ess)) := by
  refine PS.weak (ps_raise hc tk (pmk_x XC iC tI F1 hr (by rw [List.length_map]; exact hl) hg hm ha hdb he hpl)) fun K σ H ⟨W, ρ, M, at_, q⟩ => ?_
  simp only [sx] at q
  refine ⟨W, ρ, M, at_, q.fl (R := RL T) at_.env fun ds M1 W1 vs H1 _ s1 r1 p1 => ?_⟩
  split at p1
  · rename_i hlen
    have hv : ds.length = vs.length := r1.1.length
    refine ⟨by rw [List.length_map, hlen, hv], fun dx hdx => ?_⟩
    obtain ⟨sh, l⟩ := s1.sh.frozen (o := .xd (((C.exf c).map T.atn).zip vs)) hdx
    refine p1 _ σ _ _ _ ⟨l, Nat.le_refl _, sh⟩ ((at_.step s1).env.le l (Nat.le_refl _)) ⟨rfl, r1.2, vs, ⟨by rw [hlen, hv], .inr ⟨dx, rfl, upd_same⟩⟩, Reps.le l _ _ r1.2 r1.1⟩
  · exact p1.elim
end
/-! ### without exceptions -/
mutual
theorem Rep.nox {T : Stat} {W : Wd} (hx : W.xa = none) : ∀ (d : D) (v : V), Rep T W d v → d.nox = true
  | .non, _, _ => rfl
  | .bl _, _, _ => rfl
  | .int _, _, _ => rfl
  | .str _, _, _ => rfl
  | .tup ds, _, h => by
    obtain ⟨a, vs, e, h1, h2, h3⟩ := h
    exact Reps.nox hx ds vs h3
  | .lst ds, _, h => by
    obtain ⟨a, vs, e, h1, h2, h3⟩ := h
    exact Reps.nox hx ds vs h3
  | .obj c ks ds, _, h => by
    obtain ⟨a, dx, vs, e, h1, h2, h3⟩ := h
    exact Reps.nox hx ds vs h3
  | .exn c ks ds, _, h => by
    obtain ⟨a, dd, vs, e, h1, h2, h3⟩ := h
    rw [hx] at h1
    cases h1
  | .ref m, _, _ => rfl
  | .scr ns, _, _ => rfl
theorem Reps.nox {T : Stat} {W : Wd} (hx : W.xa = none) : ∀ (ds : List D) (vs : List V), Reps T W ds vs → D.noxs ds = true
  | [], _, h => rfl
  | d :: ds, _, h => by
    obtain ⟨v, r, e, h1, h2⟩ := h
    simp only [D.noxs, Bool.and_eq_true]
    exact ⟨Rep.nox hx d v h1, Reps.nox hx ds r h2⟩
end
mutual
theorem Rep.unx {T : Stat} {W : Wd} (x : Option (Addr × Value × Option Addr)) : ∀ (d : D) (v : V), d.nox = true → Rep T W d v → Rep T ⟨W.hF, W.io, x, W.fr⟩ d v
  | .non, _, _, h => h
  | .bl _, _, _, h => h
  | .int _, _, _, h => h
  | .str _, _, _, h => h
  | .tup ds, _, n, h => by
    obtain ⟨a, vs, e, h1, h2, h3⟩ := h
    exact ⟨a, vs, e, h1, h2, Reps.unx x ds vs n h3⟩
  | .lst ds, _, n, h => by
    obtain ⟨a, vs, e, h1, h2, h3⟩ := h
    exact ⟨a, vs, e, h1, h2, Reps.unx x ds vs n h3⟩
  | .obj c ks ds, _, n, h => by
    obtain ⟨a, dx, vs, e, h1, h2, h3⟩ := h
    exact ⟨a, dx, vs, e, h1, h2, Reps.unx x ds vs n h3⟩
  | .exn c ks ds, _, n, h => by cases n
  | .ref m, _, _, h => h
  | .scr ns, _, _, h => h
theorem Reps.unx {T : Stat} {W : Wd} (x : Option (Addr × Value × Option Addr)) : ∀ (ds : List D) (vs : List V), D.noxs ds = true → Reps T W ds vs → Reps T ⟨W.hF, W.io, x, W.fr⟩ ds vs
  | [], _, _, h => h
  | d :: ds, _, n, h => by
    obtain ⟨v, r, e, h1, h2⟩ := h
    simp only [D.noxs, Bool.and_eq_true] at n
    exact ⟨v, r, e, Rep.unx x d v n.1 h1, Reps.unx x ds r n.2 h2⟩
end
theorem CellOk.unx {T : Stat} {W : Wd} {H : Hp} {a : Addr} {c : Cell} (x : Option (Addr × Value × Option Addr)) (n : c.nox = true) (h : CellOk T W H a c) : CellOk T ⟨W.hF, W.io, x, W.fr⟩ H a c := by
  cases c with
  | lst ds =>
    obtain ⟨vs, e1, h1, h2⟩ := h
    exact ⟨vs, e1, h1, Reps.unx x ds vs n h2⟩
  | ins c ks ds =>
    obtain ⟨dx, vs, e1, h1, h2⟩ := h
    exact ⟨dx, vs, e1, h1, Reps.unx x ds vs n h2⟩
  | dead => trivial
theorem CellOk.nox {T : Stat} {W : Wd} {H : Hp} {a : Addr} {c : Cell} (hx : W.xa = none) (h : CellOk T W H a c) : c.nox = true := by
  cases c with
  | lst ds =>
    obtain ⟨vs, e1, h1, h2⟩ := h
    exact Reps.nox hx ds vs h2
  | ins c ks ds =>
    obtain ⟨dx, vs, e1, h1, h2⟩ := h
    exact Reps.nox hx ds vs h2
  | dead => rfl
theorem SH.unx {T : Stat} {W : Wd} {M : Store} {H : Hp} (x : Option (Addr × Value × Option Addr)) (n : ∀ (k : Nat) (c : Cell), M[k]? = some c → c.nox = true) (h : SH T W M H) : SH T ⟨W.hF, W.io, x, W.fr⟩ M H :=
  ⟨h.fz, fun k c e => (h.cl k c e).unx x (n k c e), h.nf, h.inj, h.wf, h.fr, h.frc⟩
theorem SH.noxs {T : Stat} {W : Wd} {M : Store} {H : Hp} (hx : W.xa = none) (h : SH T W M H) : ∀ (k : Nat) (c : Cell), M[k]? = some c → c.nox = true := fun k c e => (h.cl k c e).nox hx
theorem stX_ok : ∀ {M M1 : Store}, stX M M1 = true → (∀ (k : Nat) (c : Cell), M[k]? = some c → c.nox = true) → ∀ (k : Nat) (c : Cell), M1[k]? = some c → c.nox = true
  | [], M1, h, _ => fun k c e => by
    simp only [stX, List.all_eq_true] at h
    exact h c (List.mem_of_getElem? e)
  | a :: as, [], h, _ => by simp [stX] at h
  | a :: as, b :: bs, h, n => fun k c e => by
    simp only [stX, Bool.and_eq_true, Bool.or_eq_true, decide_eq_true_eq] at h
    cases k with
    | zero =>
      have : b = c := by simpa using e
      subst this
      rcases h.1 with h | h
      · subst h; exact n 0 _ rfl
      · exact h
    | succ k => exact stX_ok h.2 (fun k c e => n (k + 1) c (by simpa using e)) k c (by simpa using e)
theorem stX_len : ∀ {M M1 : Store}, stX M M1 = true → M.length ≤ M1.length
  | [], M1, _ => Nat.zero_le _
  | a :: as, [], h => by simp [stX] at h
  | a :: as, b :: bs, h => by
    simp only [stX, Bool.and_eq_true] at h
    exact Nat.succ_le_succ (stX_len h.2)
theorem EnvOk.noxs {T : Stat} {W : Wd} {n : Nat} {ρ : Env} {σ : L2.St} (hx : W.xa = none) (o : EnvOk T W n ρ σ) : ∀ (i : Nat) (d : D), ρ[i]? = some (some d) → d.nox = true := fun i d e => by
  obtain ⟨v, h1, h2, h3⟩ := o.at_ i d e
  exact Rep.nox hx d v h2
theorem envX_ok : ∀ {ρ ρ1 : Env}, envX ρ ρ1 = true → (∀ (i : Nat) (d : D), ρ[i]? = some (some d) → d.nox = true) → ∀ (i : Nat) (d : D), ρ1[i]? = some (some d) → d.nox = true
  | [], [], h, _ => fun i d e => by simp at e
  | [], b :: bs, h, _ => by simp [envX] at h
  | a :: as, [], h, _ => by simp [envX] at h
  | a :: as, b :: bs, h, n => fun i d e => by
    simp only [envX, Bool.and_eq_true, Bool.or_eq_true, decide_eq_true_eq] at h
    cases i with
    | zero =>
      have : b = some d := by simpa using e
      subst this
      rcases h.1 with h | h
      · subst h; exact n 0 _ rfl
      · exact h
    | succ i => exact envX_ok h.2 (fun k c e => n (k + 1) c (by simpa using e)) i d (by simpa using e)
theorem EnvOk.unx {T : Stat} {W : Wd} {n : Nat} {ρ : Env} {σ : L2.St} (x : Option (Addr × Value × Option Addr)) (h : ∀ (i : Nat) (d : D), ρ[i]? = some (some d) → d.nox = true) (o : EnvOk T W n ρ σ) : EnvOk T ⟨W.hF, W.io, x, W.fr⟩ n ρ σ :=
  ⟨o.len, fun i d e => let ⟨v, h1, h2, h3⟩ := o.at_ i d e; ⟨v, h1, Rep.unx x d v (h i d e) h2, h3⟩⟩
/-! ### several clauses, with and without a name -/
def endX (K : Ends) : Option Nat → Ends
  | none => K
  | some i => { nx := fun σ' H' => K.nx (σ'.set i none) H', rt := K.rt, bk := fun σ' H' => K.bk (σ'.set i none) H', ct := fun σ' H' => K.ct (σ'.set i none) H' }
def setX (σ : L2.St) (a : Addr) : Option Nat → L2.St
  | none => σ
  | some i => σ.set i (some (.ref a))
abbrev TsX := Addr → Value → Option Addr → TS
def wMix (F : PySem.W.Frag) (Wout : WX) (K : Ends) : List (Value × Option Nat × TsX) → WX
  | [] => Wout
  | (c, i, ts) :: r => fun cls d σ H => ∃ b, PySem.W.exmOne F cls c = some b ∧ (b = true → ∀ a, H a = none → ts a cls d (endX K i) (setX σ a i) H) ∧ (b = false → wMix F Wout K r cls d σ H)
def SuOk (X : Cx) (su : List Stmt) (ts : TsX) : Prop := ∀ (a : Addr) (oe : Obj) (cls : Value) (d : Option Addr) (pz : List (Addr × Obj)), Zc cls d oe → (∃ vs, oe.data = .fields vs) → PSs (X.suite a ((a, oe) :: pz)) su (ts a cls d)
inductive HdsM (X : Cx) : List ExceptHandler → List (Value × Option Nat × TsX) → Prop
  | nil : HdsM X [] []
  | only {x : Str} {c : Value} {ts : TsX} {b0 : Stmt} {su : List Stmt} {np pe : Pos} {hs : List ExceptHandler} {l : List (Value × Option Nat × TsX)} (hc : Names X x c) (hsu : SuOk X (b0 :: su) ts) (r : HdsM X hs l) :
      HdsM X (.ExceptHandler (some (.Name x np)) none (b0 :: su) pe :: hs) ((c, none, ts) :: l)
  | as {x n : Str} {i : Nat} {c : Value} {ts : TsX} {b0 : Stmt} {su : List Stmt} {np pe : Pos} {hs : List ExceptHandler} {l : List (Value × Option Nat × TsX)} (hN : X.N.Nodup) (hi : X.N[i]? = some n) (hln : X.env.kindOf n = some .local) (hc : Names X x c) (hsu : SuOk X (b0 :: su) ts) (r : HdsM X hs l) :
      HdsM X (.ExceptHandler (some (.Name x np)) (some n) (b0 :: su) pe :: hs) ((c, some i, ts) :: l)
theorem ps_try_mix {X : Cx} {body : List Stmt} {h0 : ExceptHandler} {hds : List ExceptHandler} {l : List (Value × Option Nat × TsX)} {pos : Pos} {tb : WX → TS} {Wout : WX} (hs : X.stack = X.env :: X.outer) (hf : X.env.frame = some X.env.locals) (tk : Takes X Wout)
    (hb : ∀ (W : WX) (pz : List (Addr × Obj)) (xe : Value → Shared → Prop), Takes (X.tr pz xe) W → PassesOwn (model X.prog X.w) X.A X.env xe → PSs (X.tr pz xe) body (tb W))
    (hh : HdsM X (h0 :: hds) l) : PS X (.Try body (h0 :: hds) [] [] pos) (fun K σ H => tb (wMix X.K Wout K l) K σ H) := by
  refine ⟨fun pz s σ H K I0 h => ?_⟩
  have ok := I0.ok
  have hfr : X.A.frames = some (X.env :: X.outer) := ok.frames.trans (congrArg some hs)
  refine wpAny_Try_except (wpAny_mono ((hb (wMix X.K Wout K l) (X.pn ++ pz) (fun e s₁ => wpAny (model X.prog X.w) X.A (noteFrame e X.env) (fun _ s₂ => wpAny (model X.prog X.w) X.A (setFlight e none) (fun _ s₃ =>
    wpAny (model X.prog X.w) X.A (handleBy e X.env (h0 :: hds)) (SP X pz K) X.xe s₃) X.xe s₂) X.xe s₁) (fun u s' xx => ?_) PassesOwn.looking).run [] s σ H K (I0.toTry _) h) (fun f s1 hsp => ?_) (fun _ _ z => z))
  · obtain ⟨a, B, sI, pz', σ', H', cls, d, rfl, J', nb, up, sky, na, os, ag, wq⟩ := xx
    have J : Inv X pz σ' H' sI := J'.ofTry ok
    refine Sky.land Zc.steady hfr hf (show Sky B (X.env :: X.outer) a (Zc cls d) X.env.locals s'.heap from hs ▸ sky) fun h3 fl3 up3 => ?_
    have J3 : Inv X pz σ' H' { s' with heap := h3 } := J.landed nb fl3.1 (up.trans up3) os ag
    obtain ⟨oe3, vs3, he3, hz3, hd3⟩ := fl3.there
    have nfr : a ∉ frs (X.env :: X.outer) := fun hm => by
      obtain ⟨_, o', e', hnf⟩ := fl3.2.2.1.mem hm
      rw [he3] at e'
      cases e'
      exact hnf _ hd3
    have nL : a ≠ X.env.locals := fun z => nfr (List.mem_filterMap.mpr ⟨_, .head _, by rw [hf, z]⟩)
    have nF : a ∉ X.fs := fun hm => by
      obtain ⟨e, hm1, hm2⟩ := List.mem_filterMap.mp hm
      exact nfr (List.mem_filterMap.mpr ⟨e, .tail _ hm1, hm2⟩)
    have S3 := J3.suite he3 hd3 na nL nF
    have LT : PySem.W.Looks (model X.prog X.w) h3 (typeOf (.ref a)) cls := fun A Q E s k q => wpAny_typeOf_ref (k _ _ he3) (hz3.1 ▸ q)
    have test : ∀ {x : Str} {c : Value} {np : Pos} {Q : Value → Shared → Prop} {E : Value → Shared → Prop}, Names X x c → Q c { s' with heap := h3 } → wpAny (model X.prog X.w) (X.A.mark (some (.ref a))) (eval (.Name x np) X.env) Q E { s' with heap := h3 } := fun {x c np Q E} hc q => by
      rcases hc with ⟨hg, hdbg, hm | ⟨hm, hv, hnn⟩⟩
      · exact ld_glob (X := X.suite a ((a, oe3) :: (X.pn ++ pz))) S3 hg hm q hdbg
      · exact ld_blt (X := X.suite a ((a, oe3) :: (X.pn ++ pz))) S3 hg hm hv q hnn hdbg
    have go : ∀ {hs' : List ExceptHandler} {l' : List (Value × Option Nat × TsX)}, HdsM X hs' l' → wMix X.K Wout K l' cls d σ' H' → wpAny (model X.prog X.w) X.A (handleBy (.ref a) X.env hs') (SP X pz K) X.xe { s' with heap := h3 } := by
      intro hs' l' hk
      induction hk with
      | nil =>
        intro wq
        refine wpAny_handleBy_nil ?_
        obtain ⟨k1, k2, k3, oe, vs, T, oT, ts', he, hz, hd, h1, hr⟩ := id fl3
        unfold PySem.passOn
        refine wpAny_bind (wpAny_field he hd h1 ?_)
        have fin : wpAny (model X.prog X.w) X.A (setFlight (.ref a) X.env.frame) (fun _ s4 => wpAny (model X.prog X.w) X.A (throw (.ref a) : Sem Flow) (SP X pz K) X.xe s4) X.xe { s' with heap := h3 } := by
          rw [hf]
          exact HandSPX.setFlight_upZ fl3 fun h4 hh4 up4 => wpAny_throw (tk _ _ ⟨a, B, sI, pz, σ', H', cls, d, rfl, J, nb, (up.trans up3).trans up4, .inr (.inr (hs ▸ hh4)), na, os, ag, wq⟩)
        rw [if_neg (by simp : ¬ ((Value.ref T == Value.none) = true))]
        first
          | exact wpAny_bind (wpAny_pure (wpAny_bind fin))
          | exact wpAny_bind fin
      | @only x c ts b0 su np pe hs2 l2 hc hsu r ih =>
        rintro ⟨b, hb1, hyes, hno⟩
        have LM := PySem.W.exm_one (M := model X.prog X.w) (J3.kIn) LT hb1
        refine wpAny_handleBy_cons (codeAny_handlers_test (test hc (LM.here ?_))) (fun q => nomatch q)
        cases b with
        | false => exact ih (hno rfl)
        | true =>
          refine codeAny_handlers_suite (HandSPX.lands_againZ fl3 fun h4 fl4 up4 => ?_)
          have J4 : Inv X pz σ' H' { s' with heap := h4 } := J.landed nb fl4.1 ((up.trans up3).trans up4) os ag
          obtain ⟨oe4, vs4, he4, hz4, hd4⟩ := fl4.there
          refine wpAny_mono ((hsu a oe4 cls d (X.pn ++ pz) hz4 ⟨_, hd4⟩).run [] _ _ H' _ (J4.suite he4 hd4 na nL nF) (hyes rfl a na)) (fun f s6 hsp => ?_) (fun _ _ z => False.elim z)
          cases f with
          | ret u => obtain ⟨v6, σ6, H6, S6, r6, q6⟩ := hsp; exact ⟨_, _, _, S6.unsuite ok, r6, q6⟩
          | _ => obtain ⟨σ6, H6, S6, q6⟩ := hsp; exact ⟨_, _, S6.unsuite ok, q6⟩
      | @as x n i c ts b0 su np pe hs2 l2 hN hi hln hc hsu r ih =>
        rintro ⟨b, hb1, hyes, hno⟩
        have LM := PySem.W.exm_one (M := model X.prog X.w) (J3.kIn) LT hb1
        refine wpAny_handleBy_cons (codeAny_handlers_test (test hc (LM.here ?_))) (fun q => nomatch q)
        cases b with
        | false => exact ih (hno rfl)
        | true =>
          refine codeAny_handlers_suite_as (HandSPX.lands_againZ fl3 fun h4 fl4 up4 => ?_)
          have J4 : Inv X pz σ' H' { s' with heap := h4 } := J.landed nb fl4.1 ((up.trans up3).trans up4) os ag
          obtain ⟨oe4, vs4, he4, hz4, hd4⟩ := fl4.there
          refine store_ok (X := X.suite a ((a, oe4) :: (X.pn ++ pz))) (v := .ref a) (J4.suite he4 hd4 na nL nF) hN hi (.inl hln) rfl (fun s5 S5 => ?_) (.inr hln)
          refine wpAny_mono ((hsu a oe4 cls d (X.pn ++ pz) hz4 ⟨_, hd4⟩).run [] s5 _ H' _ S5 (hyes rfl a na)) (fun f s6 hsp => ?_) (fun _ _ z => False.elim z)
          have fin : ∀ {σ6 : L2.St} {H6 : Hp} {Q : Shared → Prop}, Inv (X.suite a ((a, oe4) :: (X.pn ++ pz))) [] σ6 H6 s6 → (∀ s7, Inv X pz (σ6.set i none) H6 s7 → Q s7) →
              wpAny (model X.prog X.w) X.A (do bindName X.env n .none; unbindBehindTheSuite X.env n pe) (fun _ s7 => Q s7) X.xe s6 := fun {σ6 H6 Q} S6 hq => gone_ok (S6.unsuite ok) hN hi hln hq
          cases f with
          | ret u => obtain ⟨v6, σ6, H6, S6, r6, q6⟩ := hsp; exact fin S6 fun s7 J7 => ⟨_, _, _, J7, r6, q6⟩
          | next => obtain ⟨σ6, H6, S6, q6⟩ := hsp; exact fin S6 fun s7 J7 => ⟨_, _, J7, q6⟩
          | brk => obtain ⟨σ6, H6, S6, q6⟩ := hsp; exact fin S6 fun s7 J7 => ⟨_, _, J7, q6⟩
          | cont => obtain ⟨σ6, H6, S6, q6⟩ := hsp; exact fin S6 fun s7 J7 => ⟨_, _, J7, q6⟩
    exact go hh wq
  · cases f with
    | next => obtain ⟨σ', H', J', q⟩ := hsp; exact wpAny_execs_nil ⟨σ', H', J'.ofTry ok, q⟩
    | ret u => obtain ⟨v, σ', H', J', r, q⟩ := hsp; exact ⟨v, σ', H', J'.ofTry ok, r, q⟩
    | brk => obtain ⟨σ', H', J', q⟩ := hsp; exact ⟨σ', H', J'.ofTry ok, q⟩
    | cont => obtain ⟨σ', H', J', q⟩ := hsp; exact ⟨σ', H', J'.ofTry ok, q⟩
/-! ### try -/
def xpX (a : Addr) (cls : Value) (d : Option Addr) : Option Nat → XPT
  | none => fun o => o = none
  | some _ => fun o => o = some (a, cls, d)
def trH (T : Stat) (C : Cfg) : Hs → List (Value × Option Nat × TsX)
  | .nil => []
  | .cons c i b hs => (.ref (T.cls c), i, fun a cls d => tSs T (xpX a cls d i) W0 C.cold b) :: trH T C hs
section
variable {T : Stat} {X : Cx} {XP : XPT} {Wx : WX} {C : Cfg}
theorem EnvOk.unX {W : Wd} {n : Nat} {ρ : Env} {σ : L2.St} {a : Addr} {i : Option Nat} (o : EnvOk T W n ρ σ) : EnvOk T W n (Dv.unX ρ i) (match i with | none => σ | some i => σ.set i none) := by
  cases i with
  | none => exact o
  | some i => exact o.unset i
theorem suite_ok {W W' : Wd} {M M1 : Store} {σ' : L2.St} {H' : Hp} {ρ1 : Env} {K : Ends} {x : Exn} {cls : Value} {dd : Option Addr} {i : Option Nat} {b : Ss} (hx : W'.xa = none) (s1 : Stp T W M W' M1 H') (en : EnvOk T W' M1.length ρ1 σ') (xr : XRep T W' M1.length x cls dd)
    (p : PostS T Wx W M (outX ρ1 M1 i (sxs C.cold b (inX ρ1 i x) M1)) K) (a : Addr) : tSs T (xpX a cls dd i) W0 C.cold b (endX K i) (setX σ' a i) H' := by
  obtain ⟨rfl, xu, vs, xd, xv⟩ := xr
  -- the world of the suite
  let y : Option (Addr × Value × Option Addr) := match i with | none => none | some _ => some (a, .ref (T.cls x.c), dd)
  have shy : SH T ⟨W'.hF, W'.io, y, W'.fr⟩ M1 H' := s1.sh.unx y (s1.sh.noxs hx)
  have eny : EnvOk T ⟨W'.hF, W'.io, y, W'.fr⟩ M1.length ρ1 σ' := en.unx y (en.noxs hx)
  refine ⟨⟨W'.hF, W'.io, y, W'.fr⟩, inX ρ1 i x, M1, ⟨shy, ?_, ?_⟩, ?_⟩
  · cases i with
    | none => exact eny
    | some i => exact eny.set i (d := .exn x.c x.ks x.vs) (v := .ref a) ⟨a, dd, vs, rfl, rfl, xd, Reps.unx _ _ _ (Reps.nox hx _ _ xv) xv⟩ xu
  · cases i with
    | none => rfl
    | some i => rfl
  -- back to the world without
  have back : ∀ {W3 : Wd} {M2 : Store} {H3 : Hp}, Stp T ⟨W'.hF, W'.io, y, W'.fr⟩ M1 W3 M2 H3 → stX M1 M2 = true → Stp T W M ⟨W3.hF, W3.io, none, W3.fr⟩ M2 H3 := fun {W3 M2 H3} s3 hst => by
    have l3 : Le M1.length W' ⟨W3.hF, W3.io, none, W3.fr⟩ := ⟨s3.le.fz, s3.le.io, hx.symm, s3.le.fr⟩
    exact ⟨s1.le.trans l3 s1.len, Nat.le_trans s1.len s3.len, s3.sh.unx none (stX_ok hst (s1.sh.noxs hx))⟩
  cases z : sxs C.cold b (inX ρ1 i x) M1 with
  | nx ρ2 M2 =>
    rw [z] at p
    simp only [outX] at p
    split at p
    · rename_i hh
      rw [Bool.and_eq_true] at hh
      intro W3 σ3 H3 s3 en3
      have en1 := (en.unX (i := i) (a := a)).noxs hx
      have en4 := ((en3.unX (i := i) (a := a)).unx none (envX_ok hh.1 en1))
      have fin := p _ _ H3 (back s3 hh.2) en4
      cases i with
      | none => exact fin
      | some i => exact fin
    · exact p.elim
  | rt d M2 =>
    rw [z] at p
    simp only [outX] at p
    split at p
    · rename_i hh
      rw [Bool.and_eq_true] at hh
      intro W3 v H3 s3 rv
      have fin := p _ v H3 (back s3 hh.2) ⟨Rep.unx none d v hh.1 rv.1, rv.2⟩
      cases i with
      | none => exact fin
      | some i => exact fin
    · exact p.elim
  | bk _ _ => rw [z] at p; exact p.elim
  | ct _ _ => rw [z] at p; exact p.elim
  | ex _ _ _ => rw [z] at p; exact p.elim
  | no => rw [z] at p; exact p.elim
theorem hx_ok {W W' : Wd} {M M1 : Store} {σ' : L2.St} {H' : Hp} {ρ1 : Env} {K : Ends} {x : Exn} {cls : Value} {dd : Option Addr} (XF : ∀ c d, C.xok c = true → C.xok d = true → PySem.W.exmOne T.K (.ref (T.cls c)) (.ref (T.cls d)) = some (C.sub c d)) (hx0 : W'.xa = none) (s1 : Stp T W M W' M1 H') (en : EnvOk T W' M1.length ρ1 σ') (xr : XRep T W' M1.length x cls dd) :
    ∀ {hs : Hs}, PostS T Wx W M (hx C hs x ρ1 M1) K → wMix T.K Wx K (trH T C hs) cls dd σ' H'
  | .nil, p => by
    simp only [hx] at p
    exact p W' σ' cls dd H' s1 en xr
  | .cons c i b hs, p => by
    simp only [hx] at p
    split at p
    · rename_i hh
      rw [Bool.and_eq_true] at hh
      refine ⟨C.sub x.c c, by rw [xr.1]; exact XF _ _ hh.1 hh.2, fun hb a ha => ?_, fun hb => ?_⟩
      · rw [hb, if_pos rfl] at p
        exact suite_ok hx0 s1 en xr p a
      · rw [hb, if_neg Bool.false_ne_true] at p
        exact hx_ok XF hx0 s1 en xr p
    · exact p.elim
theorem s_try {b : Ss} {hs : Hs} {body : List Stmt} {h0 : ExceptHandler} {hds : List ExceptHandler} {pos : Pos} (hK : X.K = T.K) (hX : ∀ o, XP o → o = none) (hst : X.stack = X.env :: X.outer) (hf : X.env.frame = some X.env.locals) (tk : Takes X Wx)
    (XF : ∀ c d, C.xok c = true → C.xok d = true → PySem.W.exmOne T.K (.ref (T.cls c)) (.ref (T.cls d)) = some (C.sub c d))
    (hb : ∀ (W : WX) (pz : List (Addr × Obj)) (xe : Value → Shared → Prop), Takes (X.tr pz xe) W → PassesOwn (model X.prog X.w) X.A X.env xe → PSs (X.tr pz xe) body (tSs T XP W C b))
    (hh : HdsM X (h0 :: hds) (trH T C hs)) : PS X (.Try body (h0 :: hds) [] [] pos) (tS T XP Wx C (.try_ b hs)) := by
  refine PS.weak (ps_try_mix hst hf tk hb hh) fun K σ H ⟨W, ρ, M, at_, p⟩ => ?_
  rw [hK]
  refine ⟨W, ρ, M, at_, ?_⟩
  simp only [sx] at p
  cases z : sxs C b ρ M with
  | ex x ρ1 M1 =>
    rw [z] at p
    intro W' σ' cls dd H' s1 en xr
    exact hx_ok XF (hX _ (XPa.le at_ s1 en).xo) s1 en xr p
  | nx _ _ => rw [z] at p; exact p
  | rt _ _ => rw [z] at p; exact p
  | bk _ _ => rw [z] at p; exact p
  | ct _ _ => rw [z] at p; exact p
  | no => rw [z] at p; exact p
end
end Dv
/-! __init__ of an own exception with one or two fields. -/
namespace Dv
open PySem PySem.Spec PyProof.Rows L2 PySem.W PySem.Calls
/-- the shape of such an __init__ -/
structure XFn (P : Program) (K : PySem.W.Frag) (C fI : Addr) (ps : List Str) (rest : List Stmt) (scope : Scope) (qual : Str) (cda cc : Addr) : Prop where
  ex : ∃ (name : Str) (params : Arguments) (body : List Stmt) (dV kV doc pm ct oc : Value) (an od : Option Addr) (osl : Array (Option Value)) (ar : Arg) (vs : Array Value) (file msg : Str) (tf : Tok) (ccl cl : Value) (cdd cld : Option Addr) (ccs csl : Array (Option Value)) (p0 p1 p2 p3 p4 p5 : Pos) (j : Nat),
    K.lookup fI = some ⟨oc, od, .func (ksFn name qual params body scope dV kV doc pm an (.ref cda) ct cc), osl⟩ ∧ codeIn K (.ref cda) qual = true ∧
    (∀ (s : Shared) (us : List Value), us.length = ps.length → BindsTo s (ksFn name qual params body scope dV kV doc pm an (.ref cda) ct cc) ⟨us, []⟩ (ps.zip us)) ∧
    body = .Expr (.Call (.Attribute (.Call (.Name "super" p0) [] [] p1) "__init__" p2) [.Constant (.str msg) j p3] [] p4) p5 :: rest ∧
    (params.posonlyargs ++ params.args).head? = some ar ∧ ps.head? = some ar.arg ∧
    K.lookup cda = some ⟨ccl, cdd, .fields vs, ccs⟩ ∧ vs[2]? = some (.str file tf) ∧ ((P.main.file : Str) == file) = true ∧
    K.lookup cc = some ⟨cl, cld, .cell (some (.ref C)), csl⟩ ∧ (p2.endLine == p4.line) = true
  top : (P.main.scope.names.lookup ("super" : Str)).isSome = false
  loc : ∀ y ∈ ps, scope.names.lookup y = some .local
  nd : ps.Nodup
  nc : ∀ z ∈ scope.names, z.2 ≠ .cell
  co : scope.isCoroutine = false
  gen : scope.isGenerator = false
  kd : scope.kind = .function
  hs : scope.names.lookup ("super" : Str) = some .globalImplicit
  hcl : scope.names.lookup ("__class__" : Str) = some .free
theorem call_super_eq {p0 p1 p2 p3 p4 : Pos} {msg : Str} {j : Nat} (h : (p2.endLine == p4.line) = true) (env : PySem.Env) : ∃ pl : Sem Bool, eval (.Call (.Attribute (.Call (.Name "super" p0) [] [] p1) "__init__" p2) [.Constant (.str msg) j p3] [] p4) env = (do
      let ov ← attributeBase (.Call (.Name "super" p0) [] [] p1) "__init__" env (eval (.Call (.Name "super" p0) [] [] p1) env)
      standAt p2.atName
      let fx ← holding [ov] (getMethod ov "__init__" pl)
      callWith p4 fx.1 fx.2 (backTo p4 (starEach [.Constant (.str msg) j p3] env)) []) := by
  refine ⟨(do return (← importBound (.Call (.Name "super" p0) [] [] p1) env).getD true), ?_⟩
  rw [arm_eval_Call]
  unfold methodCall methodCallPos
  rw [show ((!methodCallForm ([Expr.Constant (Const.str msg) j p3].length + ([] : List Keyword).length) (backTo p4 (starEach [.Constant (.str msg) j p3] env)) (backToKw p4 (keywordEach [] env))) || p2.endLine == p4.line) = true by rw [h, Bool.or_true]]
  rfl
theorem lookup_binds {ps : List Str} {us : List Value} (nd : ps.Nodup) : ∀ {n : Nat} {y : Str} {u : Value}, ps[n]? = some y → us[n]? = some u → ((ps.zip us).reverse).lookup y = some u := by
  induction ps generalizing us with
  | nil => intro n y u e _; simp at e
  | cons p ps ih =>
    intro n y u e1 e2
    cases us with
    | nil => simp at e2
    | cons v us =>
      have nd' := List.nodup_cons.mp nd
      rw [List.zip_cons_cons, List.reverse_cons, List.lookup_append]
      cases n with
      | zero =>
        have e1' : p = y := by simpa using e1
        have e2' : v = u := by simpa using e2
        subst e1' e2'
        have : ((ps.zip us).reverse).lookup p = none := by
          rw [List.lookup_eq_none_iff]
          intro q hq
          have hm := (List.of_mem_zip (List.mem_reverse.mp hq)).1
          simp only [bne_iff_ne, ne_eq]
          intro z
          rw [z] at nd'
          exact nd'.1 hm
        rw [this]
        simp [List.lookup]
      | succ n =>
        rw [ih nd'.2 (n := n) (by simpa using e1) (by simpa using e2)]
        rfl
theorem xini1 {P : Program} {w : World} {K : PySem.W.Frag} {mg : Str → Option Value} {C fI cda cc : Addr} {sf pn f : Str} {q1 q2 q3 q4 : Pos} {scope : Scope} {qual : Str} (XC : XCls K C) (hgs : mg "super" = none) (F : XFn P K C fI [sf, pn] [.Assign [.Attribute (.Name sf q1) f q2] (.Name pn q3) q4] scope qual cda cc)
    (d1 : (sf == ("__debug__" : Str)) = false) (d2 : (pn == ("__debug__" : Str)) = false) (hf : findIn K (.ref C) f = some none) : XIni P w K mg C fI [f] := by
  intro A s us x t0 R hK hg hb lim hr hl hx hxK hR
  obtain ⟨name, params, body, dV, kV, doc, pm, ct, oc, an, od, osl, ar, vs, file, msg, tf, ccl, cl, cdd, cld, ccs, csl, p0, p1, p2, p3, p4, p5, j, lk, hcd, hbind, eb, hp, har, hcode, hvs, hfile, hcell, hpos⟩ := F.ex
  match us, hl with
  | [u], _ =>
    have e1 : (([sf, pn].zip [Value.ref x, u]).reverse).lookup sf = some (.ref x) := lookup_binds F.nd (n := 0) rfl rfl
    have e2 : (([sf, pn].zip [Value.ref x, u]).reverse).lookup pn = some u := lookup_binds F.nd (n := 1) rfl rfl
    have ea : sf = ar.arg := by simpa using har
    refine xinit_code (mg := mg) XC hK hg hgs hb lim hr.depth lk hcd (hbind s [.ref x, u] rfl) (fun y hy => F.loc _ (List.of_mem_zip hy).1) F.nc F.co F.gen F.kd eb hp (by rw [← ea]; exact e1) (by rw [← ea]; exact F.loc _ (by simp)) hcode hvs hfile F.top hcell F.hs F.hcl (call_super_eq hpos) hx fun L h' tk t1 hsz hns hk hx' hLx => ?_
    have hK' : K.In h' := fun b o e => by
      by_cases hbx : b = x
      · rw [hbx, hxK] at e
        cases e
      · exact hk b o hbx (hK b o e)
    refine xasg_new (s := { s with heap := h', toks := tk }) (L := L) XC hK' rfl hns F.kd e1 e2 (F.loc _ (by simp)) (F.loc _ (by simp)) d1 d2 hf hx' hLx fun h2 tk2 dx hk2 hsz2 hne hx2 hn2 hns2 => wpAny_execs_nil ?_
    refine hR h2 tk2 dx t1 (fun b o hbx e => hk2 b o hbx (hk b o hbx e)) ?_ hne hx2 ⟨_, hn2, fun y => ?_⟩
    · have : s.heap.objs.size ≤ h'.objs.size := by
        obtain ⟨o, _, _, e, _⟩ := hns
        exact Nat.le_of_lt (Nat.lt_of_le_of_lt hsz (Heap.lt_size e))
      exact Nat.le_trans this hsz2
    · by_cases h : y = f
      · subst h; simp [List.lookup]
      · have : (y == f) = false := by simpa using h
        simp [List.lookup, this, h]
theorem xini2 {P : Program} {w : World} {K : PySem.W.Frag} {mg : Str → Option Value} {C fI cda cc : Addr} {sf pn pn' f f' : Str} {q1 q2 q3 q4 r1 r2 r3 r4 : Pos} {scope : Scope} {qual : Str} (XC : XCls K C) (hgs : mg "super" = none) (F : XFn P K C fI [sf, pn, pn'] [.Assign [.Attribute (.Name sf q1) f q2] (.Name pn q3) q4, .Assign [.Attribute (.Name sf r1) f' r2] (.Name pn' r3) r4] scope qual cda cc)
    (d1 : (sf == ("__debug__" : Str)) = false) (d2 : (pn == ("__debug__" : Str)) = false) (d3 : (pn' == ("__debug__" : Str)) = false) (hff : f ≠ f') (hf : findIn K (.ref C) f = some none) (hf' : findIn K (.ref C) f' = some none) : XIni P w K mg C fI [f, f'] := by
  intro A s us x t0 R hK hg hb lim hr hl hx hxK hR
  obtain ⟨name, params, body, dV, kV, doc, pm, ct, oc, an, od, osl, ar, vs, file, msg, tf, ccl, cl, cdd, cld, ccs, csl, p0, p1, p2, p3, p4, p5, j, lk, hcd, hbind, eb, hp, har, hcode, hvs, hfile, hcell, hpos⟩ := F.ex
  match us, hl with
  | [u, u'], _ =>
    have e1 : (([sf, pn, pn'].zip [Value.ref x, u, u']).reverse).lookup sf = some (.ref x) := lookup_binds F.nd (n := 0) rfl rfl
    have e2 : (([sf, pn, pn'].zip [Value.ref x, u, u']).reverse).lookup pn = some u := lookup_binds F.nd (n := 1) rfl rfl
    have e3 : (([sf, pn, pn'].zip [Value.ref x, u, u']).reverse).lookup pn' = some u' := lookup_binds F.nd (n := 2) rfl rfl
    have ea : sf = ar.arg := by simpa using har
    refine xinit_code (mg := mg) XC hK hg hgs hb lim hr.depth lk hcd (hbind s [.ref x, u, u'] rfl) (fun y hy => F.loc _ (List.of_mem_zip hy).1) F.nc F.co F.gen F.kd eb hp (by rw [← ea]; exact e1) (by rw [← ea]; exact F.loc _ (by simp)) hcode hvs hfile F.top hcell F.hs F.hcl (call_super_eq hpos) hx fun L h' tk t1 hsz hns hk hx' hLx => ?_
    have hK' : K.In h' := fun b o e => by
      by_cases hbx : b = x
      · rw [hbx, hxK] at e
        cases e
      · exact hk b o hbx (hK b o e)
    refine xasg_new (s := { s with heap := h', toks := tk }) (L := L) XC hK' rfl hns F.kd e1 e2 (F.loc _ (by simp)) (F.loc _ (by simp)) d1 d2 hf hx' hLx fun h2 tk2 dx hk2 hsz2 hne hx2 hn2 hns2 => ?_
    have hK2 : K.In h2 := fun b o e => by
      by_cases hbx : b = x
      · rw [hbx, hxK] at e
        cases e
      · exact hk2 b o hbx (hK' b o e)
    have hLs : L < h'.objs.size := by
      obtain ⟨o, _, _, e, _⟩ := hns
      exact Heap.lt_size e
    have hLd : L ≠ dx := Nat.ne_of_lt (Nat.lt_of_lt_of_le hLs hsz2)
    refine xasg_old (s := { s with heap := h2, toks := tk2 }) (L := L) (nl := [f]) XC hK2 rfl hns2 F.kd e1 e3 (F.loc _ (by simp)) (F.loc _ (by simp)) d1 d3 hf' hx2 hn2 (fun y hy => by
      by_cases h : y = f
      · simp [h]
      · simp [h] at hy) (by simp) hLd fun h3 tk3 hk3 hn3 hns3 => wpAny_execs_nil ?_
    have hs1 : s.heap.objs.size ≤ dx := Nat.le_trans hsz (Nat.le_trans (Nat.le_of_lt hLs) hsz2)
    refine hR h3 tk3 dx t1 (fun b o hbx e => hk3 b o (Nat.ne_of_lt (Nat.lt_of_lt_of_le (Heap.lt_size e) hs1)) (hk2 b o hbx (hk b o hbx e))) hs1 hne (hk3 _ _ (Ne.symm hne) hx2) ⟨_, hn3, fun y => ?_⟩
    by_cases h : y = f'
    · subst h
      have : (y == f) = false := by simpa using (Ne.symm hff)
      simp [List.lookup, this]
    · by_cases h2 : y = f
      · subst h2; simp [List.lookup, h]
      · have g1 : (y == f) = false := by simpa using h2
        have g2 : (y == f') = false := by simpa using h
        simp [List.lookup, h, h2, g1, g2]
end Dv
/-! Defs: from the body to the call. -/
namespace Dv
open PySem PySem.Spec PyProof.Rows L2
/-- how the machine's values come to the parameters -/
inductive SelV where
  | a (i : Nat) | d (u : Value)
def selU (us : List Value) : List SelV → List Value
  | [] => []
  | .a i :: r => (us[i]?).getD .none :: selU us r
  | .d u :: r => u :: selU us r
/-- both agree -/
inductive SelOk (T : Stat) : List Sel → List SelV → Prop
  | nil : SelOk T [] []
  | a {i : Nat} {l : List Sel} {m : List SelV} (r : SelOk T l m) : SelOk T (.a i :: l) (.a i :: m)
  | d {x : D} {v : V} {u : Value} {l : List Sel} {m : List SelV} (h : ∀ W n, RV T W n x v) (g : RelV v u) (r : SelOk T l m) : SelOk T (.d x :: l) (.d u :: m)
theorem vals_get {vs : List V} {us : List Value} (r : Vals vs us) : ∀ {i : Nat} {v : V}, vs[i]? = some v → ∃ u, us[i]? = some u ∧ RelV v u := by
  induction r with
  | nil => intro i v e; simp at e
  | cons a b ih =>
    intro i v e
    cases i with
    | zero =>
      rw [List.getElem?_cons_zero] at e
      cases e
      exact ⟨_, rfl, a⟩
    | succ i => exact ih (by simpa using e)
theorem sel_ok {T : Stat} {W : Wd} {n : Nat} {ds : List D} {vs : List V} {us : List Value} (r : RL T W n ds vs) (rv : Vals vs us) : ∀ {l : List Sel} {m : List SelV} {es : List D}, SelOk T l m → sel ds l = some es → ∃ ws, RL T W n es ws ∧ Vals ws (selU us m) ∧ es.length = l.length
  | [], _, es, h, e => by
    cases h
    cases e
    exact ⟨[], ⟨by rw [Reps], rfl⟩, .nil, rfl⟩
  | .a i :: l, _, es, h, e => by
    cases h with
    | a h =>
      simp only [sel] at e
      split at e
      · rename_i x xs e1 e2
        cases e
        obtain ⟨ws, h1, h2, h3⟩ := sel_ok r rv h e2
        obtain ⟨v, g1, g2⟩ := r.1.get e1
        obtain ⟨u, k1, k2⟩ := vals_get rv g1
        refine ⟨v :: ws, ⟨⟨v, ws, rfl, g2, h1.1⟩, ?_⟩, ?_, by simp [h3]⟩
        · simp only [D.unds, Bool.and_eq_true]
          exact ⟨unds_iff.mp r.2 _ (List.mem_of_getElem? e1), h1.2⟩
        · simp only [selU, k1, Option.getD_some]
          exact .cons k2 h2
      · cases e
  | .d x :: l, _, es, h, e => by
    cases h with
    | @d _ v u _ _ h g r' =>
      simp only [sel] at e
      cases q : sel ds l with
      | none => rw [q] at e; cases e
      | some es' =>
        rw [q] at e
        cases e
        obtain ⟨ws, h1, h2, h3⟩ := sel_ok r rv r' q
        have hx := h W n
        refine ⟨v :: ws, ⟨⟨v, ws, rfl, hx.1, h1.1⟩, ?_⟩, ?_, by simp [h3]⟩
        · simp only [D.unds, Bool.and_eq_true]
          exact ⟨hx.2, h1.2⟩
        · exact .cons g h2
  | .rest i :: l, _, es, h, e => by cases h
theorem SelOk.len {T : Stat} {l : List Sel} {m : List SelV} (h : SelOk T l m) : l.length = m.length := by
  induction h with
  | nil => rfl
  | a _ ih => simp [ih]
  | d _ _ _ ih => simp [ih]
theorem selU_len {us : List Value} : ∀ {m : List SelV}, (selU us m).length = m.length
  | [] => rfl
  | .a i :: m => by simp [selU, selU_len (m := m)]
  | .d u :: m => by simp [selU, selU_len (m := m)]
section
variable {P : Program} {w : World} {K : PySem.W.Frag} {mg : Str → Option Value} {base : Heap} {k j f sh : Nat} {u : Addr} {name qual : Str} {params : Arguments} {body : List Stmt} {scope : Scope} {dV kV doc pm cdv ct oc : Value} {an od : Option Addr} {osl : Array (Option Value)} {N ps ks : List Str} {T : Stat} {G : Prg} {C : Cfg} {b : Ss} {m : List SelV}
theorem env0_start {W : Wd} {n ns : Nat} {ds : List D} {vs : List V} (r : RL T W n ds vs) (hN : N.length = ns) : EnvOk T W n (env0 ns ds) (L2.start N vs) := by
  have hl := r.1.length
  refine ⟨by simp [env0, L2.start, hl, hN], fun i d e => ?_⟩
  unfold env0 at e
  unfold L2.start
  by_cases hi : i < ds.length
  · rw [List.getElem?_append_left (by simpa using hi), List.getElem?_map] at e
    rw [List.getElem?_append_left (by simp; omega), List.getElem?_map]
    cases q : ds[i]? with
    | none => rw [q] at e; cases e
    | some d' =>
      rw [q] at e
      have : d' = d := by simpa using e
      subst this
      obtain ⟨v, h1, h2⟩ := r.1.get q
      rw [h1]
      exact ⟨v, rfl, h2, unds_iff.mp r.2 _ (List.mem_of_getElem? q)⟩
  · rw [List.getElem?_append_right (by simp; omega), List.getElem?_replicate] at e
    split at e <;> cases e
/-- THE RULE: the body's reading makes the def's -/
theorem fn_k (lk : K.lookup u = some ⟨oc, od, .func (PySem.W.fnOf name qual params body scope dV kV doc pm an cdv ct), osl⟩) (hcd : PySem.W.codeIn K cdv qual = true) (S : FnScope N ps scope) (hG : G.fn f = some ⟨ps.length, N.length, b⟩) (hC : C.call f = run G (j + 1) f)
    (hsl : SelOk T (C.shp sh).sl m) (hml : m.length = ps.length) (hn : (C.shp sh).m = ks.length)
    (hbind : ∀ (s : Shared) (us ws : List Value), K.In s.heap → us.length = (C.shp sh).n → ws.length = ks.length → BindsTo s (PySem.W.fnOf name qual params body scope dV kV doc pm an cdv ct) ⟨us, ks.zip ws⟩ (ps.zip (selU (us ++ ws) m)))
    (hbody : ∀ (A : Around) (outer : List PySem.Env) (s : Shared) (H : Hp) (E : XK), Room k (A.deeper (envOfC qual scope s.heap.objs.size u cdv)) →
      PSs (cxOf (L2.CX P w) P w K mg base N qual scope u cdv A outer s H E) body (tSs T X0 (fun cls dd _ H' => E cls dd H') (G.cfg (run G j)) b)) :
    FnK P w K mg base (k + 1) u (C.shp sh).n ks (spG T (callG C f sh)) := by
  intro A outer s H us ws vs zs Q E hr e0 rv rz l1 l2 hsp
  obtain ⟨W, M, ds, shh, hx, rl, p⟩ := hsp
  unfold callG at p
  cases q : sel ds (C.shp sh).sl with
  | none => rw [q] at p; exact p.elim
  | some es =>
    rw [q] at p
    simp only [hC] at p
    obtain ⟨vs', r1, r2, r3⟩ := sel_ok rl (rv.append rz) hsl q
    have hK : K.In s.heap := e0.mod.kin.keeps fun b o e => (e0.bs b o e).1
    have len1 : us.length = (C.shp sh).n := by rw [← rv.length]; exact l1
    have len2 : ws.length = ks.length := by rw [← rz.length]; exact l2
    have lenp : vs'.length = ps.length := by rw [← r1.1.length, r3, hsl.len, hml]
    refine StX.run_bnd lk hcd S hr e0 (G := fun xs H2 => xs = vs' ∧ H2 = H) (fun A' Ex Q' h => ?_) fun s2 H2 xs ⟨ex, eH⟩ hr' => ?_
    · exact hbind s us ws hK len1 len2 _ A' Ex Q' (h s H vs' (selU (us ++ ws) m) e0 Un.refl rfl (fun _ _ z => z) r2 lenp ⟨rfl, rfl⟩)
    · subst ex eH
      refine ⟨_, hbody A outer s2 _ E hr', W, env0 N.length es, M, ⟨shh, env0_start r1 rfl, hx⟩, ?_⟩
      unfold run at p
      rw [hG] at p
      simp only at p
      split at p
      · unfold fin at p
        have pg := Post.gc p shh
        cases z : sxs (G.cfg (run G j)) b (env0 N.length es) M with
        | nx ρ' M' =>
          rw [z] at pg
          exact fun W' σ' H' s' en => pg W' .non H' s' ⟨rfl, rfl⟩
        | rt d M' =>
          rw [z] at pg
          exact fun W' v H' s' rvv => pg W' v H' s' rvv
        | ex x ρ' M' =>
          rw [z] at pg
          exact fun W' σ' cls dd H' s' en xr => pg W' cls dd H' s' xr
        | bk _ _ => rw [z] at pg; exact pg.elim
        | ct _ _ => rw [z] at pg; exact pg.elim
        | no => rw [z] at pg; exact pg.elim
      · exact p.elim
end
end Dv
/-! Binding; facts of the written part, read by a Hook. -/
namespace Dv
open PySem PySem.Spec PyProof.Rows L2
/-! ### binding -/
def constV : D → V
  | .bl b => .bl b
  | .int i => .int i
  | .str x => .str x
  | _ => .non
def isConst : D → Bool
  | .non => true
  | .bl _ => true
  | .int _ => true
  | .str _ => true
  | _ => false
theorem const_rv {T : Stat} {d : D} (h : isConst d = true) : ∀ W n, RV T W n d (constV d) := fun W n => by
  cases d <;> first | exact ⟨rfl, rfl⟩ | cases h
/-- the defaults, in their order -/
def dsOf : List Sel → List D
  | [] => []
  | .d x :: r => x :: dsOf r
  | _ :: r => dsOf r
def selM : List Sel → List Value → List SelV
  | [], _ => []
  | .a i :: r, mv => .a i :: selM r mv
  | .d _ :: r, [] => .d .none :: selM r []
  | .d _ :: r, u :: mv => .d u :: selM r mv
  | .rest i :: r, mv => .a i :: selM r mv
def noRest : List Sel → Bool
  | [] => true
  | .rest _ :: _ => false
  | _ :: r => noRest r
theorem selM_ok {T : Stat} : ∀ {sl : List Sel} {mv : List Value}, noRest sl = true → (dsOf sl).all isConst = true → Vals ((dsOf sl).map constV) mv → SelOk T sl (selM sl mv)
  | [], _, _, _, _ => .nil
  | .a i :: r, mv, h, c, v => .a (selM_ok (sl := r) h c v)
  | .d x :: r, mv, h, c, v => by
    cases v with
    | cons v1 v2 =>
      have c' : isConst x = true ∧ (dsOf r).all isConst = true := by simpa only [dsOf, List.all_cons, Bool.and_eq_true] using c
      exact .d (const_rv c'.1) v1 (selM_ok (sl := r) h c'.2 v2)
  | .rest i :: r, mv, h, _, _ => by cases h
theorem selM_len : ∀ {sl : List Sel} {mv : List Value}, (selM sl mv).length = sl.length
  | [], _ => rfl
  | .a i :: r, mv => by simp [selM, selM_len (sl := r)]
  | .d _ :: r, [] => by simp [selM, selM_len (sl := r)]
  | .d _ :: r, u :: mv => by simp [selM, selM_len (sl := r)]
  | .rest i :: r, mv => by simp [selM, selM_len (sl := r)]
/-- a call of n values and the keywords ks comes to the parameters so -/
def BndOk (T : Stat) (K : PySem.W.Frag) (fd : FuncData) (ps : List Str) (n : Nat) (ks : List Str) (sl : List Sel) : Prop := ∃ m, SelOk T sl m ∧ m.length = ps.length ∧ ∀ (s : Shared) (us ws : List Value), K.In s.heap → us.length = n → ws.length = ks.length → BindsTo s fd ⟨us, ks.zip ws⟩ (ps.zip (selU (us ++ ws) m))
section
variable {T : Stat} {K : PySem.W.Frag} {x qual : Str} {params : Arguments} {body : List Stmt} {scope : Scope} {dvs : List V} {kws : List (Str × V)} {f : Addr} {fd : FuncData} {ps : List Str} {n : Nat} {ks : List Str} {sl : List Sel}
theorem bnd_n (F : FunD K x qual params body scope [] kws f fd) (h1 : noRest sl = true) (h2 : dsOf sl = []) (h3 : sl.length = ps.length)
    (h : ∀ (kV doc pm : Value) (an : Option Addr) (cdv ct : Value) (us ws : List Value), us.length = n → ws.length = ks.length → bindArgs (PySem.W.fnOf x qual params body scope .none kV doc pm an cdv ct) ⟨us, ks.zip ws⟩ = pure (ps.zip (selU (us ++ ws) (selM sl [])))) : BndOk T K fd ps n ks sl := by
  obtain ⟨oc, od, dV, kV, doc, pm, an, cdv, ct, osl, rfl, lk, hcd, hD, hK⟩ := F.ex
  rcases hD with ⟨_, rfl⟩ | ⟨e, _⟩
  · exact ⟨selM sl [], selM_ok h1 (by rw [h2]; rfl) (by rw [h2]; exact .nil), by rw [selM_len, h3], fun s us ws _ l1 l2 => .of_eq (h kV doc pm an cdv ct us ws l1 l2)⟩
  · exact absurd rfl e
theorem bnd_k (F : FunD K x qual params body scope [] kws f fd) (ms : List (Str × V)) (hk : kws ≠ []) (hms : ∀ q ∈ ms, q ∈ kws) (h1 : noRest sl = true) (hc : (dsOf sl).all isConst = true) (h2 : ms.map (·.2) = (dsOf sl).map constV) (h3 : sl.length = ps.length)
    (h : ∀ (D : Addr) (doc pm : Value) (an : Option Addr) (cdv ct : Value) (us ws mv : List Value), us.length = n → ws.length = ks.length → mv.length = ms.length → KwChain D ((ms.map (·.1)).zip mv) (bindArgs (PySem.W.fnOf x qual params body scope .none (.ref D) doc pm an cdv ct) ⟨us, ks.zip ws⟩) (ps.zip (selU (us ++ ws) (selM sl mv)))) : BndOk T K fd ps n ks sl := by
  obtain ⟨oc, od, dV, kV, doc, pm, an, cdv, ct, osl, rfl, lk, hcd, hD, hK⟩ := F.ex
  rcases hD with ⟨_, rfl⟩ | ⟨e, _⟩
  · rcases hK with e | ⟨D, rfl, hq⟩
    · exact absurd e hk
    · obtain ⟨mv, hl, rk, hks⟩ := kwd_vals (ms := ms) fun q hm => hq q (hms q hm)
      refine ⟨selM sl mv, selM_ok h1 hc (by rw [← h2]; exact rk), by rw [selM_len, h3], fun s us ws X l1 l2 => ?_⟩
      exact BindsTo.of_looks fun M => KwChain.looks X hks (h D doc pm an cdv ct us ws mv l1 l2 hl)
  · exact absurd rfl e
end
/-! ### constants of the text -/
mutual
def repB (K : PySem.W.Frag) : D → Value → Bool
  | .non, .none => true
  | .bl b, .bool c => b == c
  | .int i, .int j _ => decide (i = j)
  | .str x, .str y _ => decide (x = y)
  | .tup ds, .ref a => (match K.lookup a with
    | some ⟨.type c, _, .seq its _, _⟩ => decide (c = "tuple") && (decide (its.size ≤ sizeLine) && repsB K ds its.toList)
    | _ => false)
  | _, _ => false
def repsB (K : PySem.W.Frag) : List D → List Value → Bool
  | [], [] => true
  | d :: ds, u :: us => repB K d u && repsB K ds us
  | _, _ => false
end
def repV : D → Value → V
  | .tup _, .ref a => .ref a
  | d, _ => constV d
mutual
theorem repB_ok {T : Stat} : ∀ (d : D) (u : Value), repB T.K d u = true → ∃ v, RelV v u ∧ ∀ W n, RV T W n d v
  | .non, u, h => by
    cases u with
    | none => exact ⟨.non, rfl, fun _ _ => ⟨rfl, rfl⟩⟩
    | _ => simp [repB] at h
  | .bl b, u, h => by
    cases u with
    | bool c =>
      have e : b = c := by simpa [repB] using h
      exact ⟨.bl b, by rw [e]; rfl, fun _ _ => ⟨rfl, rfl⟩⟩
    | _ => simp [repB] at h
  | .int i, u, h => by
    cases u with
    | int j t =>
      have e : i = j := by simpa [repB] using h
      exact ⟨.int i, ⟨t, by rw [e]⟩, fun _ _ => ⟨rfl, rfl⟩⟩
    | _ => simp [repB] at h
  | .str i, u, h => by
    cases u with
    | str j t =>
      have e : i = j := by simpa [repB] using h
      exact ⟨.str i, ⟨t, by rw [e]⟩, fun _ _ => ⟨rfl, rfl⟩⟩
    | _ => simp [repB] at h
  | .tup ds, u, h => by
    cases u with
    | ref a =>
      simp only [repB] at h
      cases q : T.K.lookup a with
      | none => rw [q] at h; cases h
      | some o =>
        obtain ⟨oc, od, dt, osl⟩ := o
        rw [q] at h
        cases oc with
        | type c =>
          cases dt with
          | seq its n0 =>
            simp only [Bool.and_eq_true, decide_eq_true_eq] at h
            obtain ⟨h1, h2, h3⟩ := h
            obtain ⟨vs, h4, h5⟩ := repsB_go ds its.toList h3
            refine ⟨.ref a, rfl, fun W n => ⟨⟨a, vs, rfl, .inr ⟨_, its, n0, q, congrArg Value.type h1, rfl, h2, h4⟩, ?_, (h5 W n).1⟩, (h5 W n).2⟩⟩
            rw [h4.length]
            simpa using h2
          | _ => cases h
        | _ => cases h
    | _ => simp [repB] at h
  | .lst _, _, h => by simp [repB] at h
  | .obj _ _ _, _, h => by simp [repB] at h
  | .exn _ _ _, _, h => by simp [repB] at h
  | .ref _, _, h => by simp [repB] at h
  | .scr _, _, h => by simp [repB] at h
theorem repsB_go {T : Stat} : ∀ (ds : List D) (us : List Value), repsB T.K ds us = true → ∃ vs, Vals vs us ∧ ∀ W n, RL T W n ds vs
  | [], [], _ => ⟨[], .nil, fun W n => ⟨by rw [Reps], rfl⟩⟩
  | [], _ :: _, h => by simp [repsB] at h
  | _ :: _, [], h => by simp [repsB] at h
  | d :: ds, u :: us, h => by
    simp only [repsB, Bool.and_eq_true] at h
    obtain ⟨v, h1, h2⟩ := repB_ok d u h.1
    obtain ⟨vs, h3, h4⟩ := repsB_go ds us h.2
    exact ⟨v :: vs, .cons h1 h3, fun W n => ⟨⟨v, vs, rfl, (h2 W n).1, (h4 W n).1⟩, by simp only [D.unds, Bool.and_eq_true]; exact ⟨(h2 W n).2, (h4 W n).2⟩⟩⟩
end
end Dv
/-! The sheet of a law's text, its facts, the Hook. -/
namespace Dv
open PySem PySem.Spec PyProof.Rows L2 He
/-- classes (the first np plain, the others over ValueError), attributes, constants, calls -/
structure Fd where
  ps : List Str
  N : List Str
  b : Ss
structure Sht where
  cl : List Str
  np : Nat
  ats : List Str
  sub : Nat → Nat → Bool
  fld : List (Nat × Nat)
  xfl : List (Nat × List Nat)
  shp : List Shp
  glb : List (Str × D)
  ini : List (Nat × Nat)
  frz : List Nat
  eqm : List (Nat × Nat)
  mth : List ((Nat × Nat) × Nat)
  free : List Str
  fn : List DefD
  xin : List (Nat × DefD)
  fd : List Fd
  cs : List (Nat × Nat × List Str)
  sh2 : Nat
def atnOf (ats : List Str) (i : Nat) : Str := match ats[i]? with
  | some x => x
  | none => ⟨Array.replicate (i + 100) 0⟩
def Sht.cn (S : Sht) (c : Nat) : Str := S.cl.getD c Str.empty
def Sht.T (S : Sht) (K : PySem.W.Frag) : Stat := ⟨K, fun c => ga K (S.cn c), atnOf S.ats⟩
def Sht.C (S : Sht) (call : Nat → List D → Store → Rs D) : Cfg where
  call := call
  glob := fun i => (S.glb[i]?).map (·.2)
  meth := fun c m => S.mth.lookup (c, m)
  ini := fun c => S.ini.lookup c
  frz := fun c => S.frz.contains c
  shp := fun i => S.shp.getD i ⟨0, 0, []⟩
  sub := S.sub
  exf := fun c => (S.xfl.lookup c).getD []
  eqm := fun c => S.eqm.lookup c
  fok := fun c f => S.fld.contains (c, f)
  cok := fun c => decide (c < S.cl.length)
  exk := fun c f => decide (S.np ≤ c) && (decide (c < S.cl.length) && ((S.xfl.lookup c).getD []).contains f)
  xok := fun c => decide (S.np ≤ c) && decide (c < S.cl.length)
def eqV (a b : Option Bool) : Bool := decide (a = b)
def clsB (K : PySem.W.Frag) (a : Addr) : Bool := PySem.W.plainGet K a Str.empty && (PySem.W.hasDictIn K a && (PySem.W.plainOver K a && (eqO (PySem.W.findIn K (.ref a) "__setattr__") (some (some (.builtin "object.__setattr__"))) &&
  (eqO (PySem.W.findIn K (.ref a) "__class__") (some (some (.builtin "object.__class__"))) && (eqO (PySem.W.specialIn K (.builtin "object.__class__") "__get__") (some (some (.builtin "getset_descriptor.__get__"))) &&
  (eqV (PySem.W.takesIn K (.builtin "object.__class__")) (some true) && eqV (PySem.W.mroIn K a (.type "object")) (some true)))))))
theorem clsB_ok {T : Stat} {c : Nat} (h : clsB T.K (T.cls c) = true) : ClsOk T c := by
  obtain ⟨h1, h⟩ := ba h
  obtain ⟨h2, h⟩ := ba h
  obtain ⟨h3, h⟩ := ba h
  obtain ⟨h4, h⟩ := ba h
  obtain ⟨h5, h⟩ := ba h
  obtain ⟨h6, h⟩ := ba h
  obtain ⟨h7, h8⟩ := ba h
  exact ⟨⟨h1, h2, h3, eqO_ok h4⟩, eqO_ok h5, eqO_ok h6, of_decide_eq_true h7, of_decide_eq_true h8⟩
/-- an own class over ValueError -/
def veB (K : PySem.W.Frag) (C : Addr) : Bool := match K.lookup C with
  | some ⟨.type t, _, .cls cd, sl⟩ => (match cd.mro, sl.toList with
    | .ref C' :: bm, [_, _, _, _, some (.builtin n), _] => decide (t = "type") && (decide (C' = C) && (decide (n = "ValueError.__new__") && (cd.hasDict && (!cd.hasDel && PySem.HandSPX.refsVE bm))))
    | _, _ => false)
  | _ => false
theorem veB_ok {K : PySem.W.Frag} {C : Addr} (h : veB K C = true) : ∃ nm q N bs bm sn sub ab col dd k0 k1 k2 k3 k5, K.lookup C = some (excClassObj nm q C N bs bm true sn sub ab col dd k0 k1 k2 k3 k5 "ValueError.__new__") ∧ PySem.HandSPX.refsVE bm = true := by
  unfold veB at h
  split at h
  · rename_i t od cd sl e
    split at h
    · rename_i C' bm a0 a1 a2 a3 n a5 e1 e2
      simp only [Bool.and_eq_true, decide_eq_true_eq, Bool.not_eq_true'] at h
      obtain ⟨rfl, rfl, rfl, hd, hl, hr⟩ := h
      obtain ⟨nm, bs, mro, ns, qn, hd', sn, sb, ab, col, del⟩ := cd
      dsimp only at e1 hd hl
      subst e1 hd hl
      obtain ⟨l⟩ := sl
      dsimp only at e2
      subst e2
      exact ⟨nm, qn, ns, bs, bm, sn, sb, ab, col, od, a0, a1, a2, a3, a5, e, hr⟩
    · cases h
  · cases h
def xclsB (K : PySem.W.Frag) (C : Addr) : Bool := veB K C && (eqO (PySem.W.findIn K (.ref C) "__setattr__") (some (some (.builtin "object.__setattr__"))) && (eqV (PySem.W.subIn K (.ref C) (.type "BaseException")) (some true) && (decide (PySem.W.typeIn K (.ref C) = some (.type "type")) && (PySem.W.keepIn K (.ref C) &&
  (eqV (PySem.W.subIn K (.ref C) (.type "ValueError")) (some true) && (eqO (PySem.W.nsIn K cStatics "thirdparty.any") (some none) && (eqO (PySem.W.ks_superIn K C C "__init__") (some (some (.builtin "ValueError.__init__"))) && eqV (PySem.W.mroIn K C (.ref C)) (some true))))))))
theorem xclsB_ok {K : PySem.W.Frag} {C : Addr} (h : xclsB K C = true) : XCls K C := by
  obtain ⟨h1, h⟩ := ba h
  obtain ⟨h2, h⟩ := ba h
  obtain ⟨h3, h⟩ := ba h
  obtain ⟨h4, h⟩ := ba h
  obtain ⟨h5, h⟩ := ba h
  obtain ⟨h6, h⟩ := ba h
  obtain ⟨h7, h⟩ := ba h
  obtain ⟨h8, h9⟩ := ba h
  exact ⟨⟨veB_ok h1, eqO_ok h2, of_decide_eq_true h3, of_decide_eq_true h4, h5⟩, of_decide_eq_true h6, eqO_ok h7, eqO_ok h8, of_decide_eq_true h9⟩
/-! ### the __init__ of an own exception -/
abbrev XW : Type := Option (Str × Str × Arguments × FuncBody × Scope × Addr × List Str × Value × Addr)
def xfnW (K : PySem.W.Frag) (p : Str × Option Str) : XW := match K.lookup (fAd K p) with
  | some ⟨_, _, .func fd, _⟩ => some (fd.name, fd.qualname, fd.params, fd.body, fd.scope, fd.globals, fd.closure.map (·.1), fd.defaults, fd.builtins)
  | _ => none
def xval (d : DefD) : XW := some (d.name, d.qual, d.params, .stmts d.body, d.scope, mainGlobals, [("__class__" : Str)], .none, builtinsNs)
def xfnB (K : PySem.W.Frag) (C fI : Addr) (qual file : Str) : Bool := match K.lookup fI with
  | some ⟨_, _, .func fd, _⟩ => (match fd.closure, fd.code with
    | [(_, cc)], .ref cda => (match K.lookup cc, K.lookup cda with
      | some ⟨_, _, .cell (some (.ref C')), _⟩, some ⟨_, _, .fields vs, _⟩ => decide (C' = C) && (PySem.W.codeIn K (.ref cda) qual && (match (vs[2]? : Option Value) with
        | some (Value.str f _) => decide (f = file)
        | _ => false))
      | _, _ => false)
    | _, _ => false)
  | _ => false
theorem xfn_ok {P : Program} {K : PySem.W.Frag} {C : Addr} {d : DefD} {file msg : Str} {ps : List Str} {rest : List Stmt} {ar : Arg} {p0 p1 p2 p3 p4 p5 : Pos} {j : Nat} (e : xfnW K d.at_ = xval d) (c : xfnB K C (fAd K d.at_) d.qual file = true)
    (hfile : ((P.main.file : Str) == file) = true) (top : (P.main.scope.names.lookup ("super" : Str)).isSome = false)
    (hb : ∀ (kV doc pm cdv ct : Value) (an : Option Addr) (cc : Addr) (us : List Value), us.length = ps.length → bindArgs (PySem.W.ksFn d.name d.qual d.params d.body d.scope .none kV doc pm an cdv ct cc) ⟨us, []⟩ = pure (ps.zip us))
    (eb : d.body = .Expr (.Call (.Attribute (.Call (.Name "super" p0) [] [] p1) "__init__" p2) [.Constant (.str msg) j p3] [] p4) p5 :: rest) (har : (d.params.posonlyargs ++ d.params.args).head? = some ar) (hps : ps.head? = some ar.arg) (hl : (p2.endLine == p4.line) = true)
    (loc : ∀ y ∈ ps, d.scope.names.lookup y = some .local) (nd : ps.Nodup) (nc : ∀ z ∈ d.scope.names, z.2 ≠ .cell) (co : d.scope.isCoroutine = false) (gen : d.scope.isGenerator = false) (kd : d.scope.kind = .function) (hs : d.scope.names.lookup ("super" : Str) = some .globalImplicit) (hcl : d.scope.names.lookup ("__class__" : Str) = some .free) :
    ∃ cda cc, XFn P K C (fAd K d.at_) ps rest d.scope d.qual cda cc := by
  unfold xfnW at e
  unfold xfnB at c
  split at c
  · rename_i oc od fd osl q
    rw [q] at e
    obtain ⟨n1, n2, n3, n4, n5, n6, n7, n8, n9, n10, n11, n12, n13, n14, n15⟩ := fd
    dsimp only at c
    split at c
    · rename_i _ _ x1 cc cda
      split at c
      · rename_i cl cld C' csl ccl cdd vs ccs q1 q2
        simp only [Bool.and_eq_true, decide_eq_true_eq] at c
        obtain ⟨rfl, hcd, hv⟩ := c
        split at hv
        · rename_i f tf hv2
          have ef : f = file := of_decide_eq_true hv
          subst ef
          have e2 : (some (n1, n2, n3, n4, n5, n6, [x1], n8, n15) : XW) = some (d.name, d.qual, d.params, .stmts d.body, d.scope, mainGlobals, [("__class__" : Str)], .none, builtinsNs) := e
          simp only [Option.some.injEq, Prod.mk.injEq, List.cons.injEq, and_true] at e2
          obtain ⟨h1, h2, h3, h4, h5, h6, h7, h8, h9⟩ := e2
          subst h1 h2 h3 h4 h5 h6 h7 h8 h9
          exact ⟨cda, cc, ⟨d.name, d.params, d.body, .none, n9, n10, n11, n14, oc, n12, od, osl, ar, vs, f, msg, tf, ccl, cl, cdd, cld, ccs, csl, p0, p1, p2, p3, p4, p5, j, q, hcd, fun s us hl => .of_eq (hb _ _ _ _ _ _ _ us hl), eb, har, hps, q2, hv2, hfile, q1, hl⟩, top, loc, nd, nc, co, gen, kd, hs, hcl⟩
        · cases hv
      · cases c
    · cases c
  · cases c
/-! ### all facts -/
def bltA : List String := ["NoneType", "bool", "int", "str", "tuple", "list"]
def bltB : List String := ["int", "bool", "str", "tuple", "list"]
def rg (n : Nat) (p : Nat → Bool) : Bool := (List.range n).all p
theorem rg_ok {n : Nat} {p : Nat → Bool} (h : rg n p = true) {i : Nat} (hi : i < n) : p i = true := List.all_eq_true.mp h i (List.mem_range.mpr hi)
def Sht.okC (S : Sht) (K : PySem.W.Frag) : Bool := let n := S.cl.length
  rg n (fun c => eqO (PySem.W.nsIn K mainGlobals (S.cn c)) (some (some (.ref (ga K (S.cn c)))))) &&
  (rg S.np (fun c => clsB K (ga K (S.cn c))) &&
  (rg n (fun c => rg n fun d => eqV (PySem.W.kitOne K (.ref (ga K (S.cn c))) (.ref (ga K (S.cn d)))) (some (S.sub c d))) &&
  (rg n (fun d => bltA.all fun t => eqV (PySem.W.kitOne K (.type t) (.ref (ga K (S.cn d)))) (some false)) &&
  (rg n (fun d => bltB.all fun t => eqV (PySem.W.kitOne K (.ref (ga K (S.cn d))) (.type t)) (some false)) &&
  (S.fld.all (fun p => decide (p.1 < S.np) && eqO (PySem.W.findIn K (.ref (ga K (S.cn p.1))) (atnOf S.ats p.2)) (some none)) &&
  rg n (fun c => decide (c < S.np) || (xclsB K (ga K (S.cn c)) && (xfB K (ga K (S.cn c)) && (rg n (fun d => decide (d < S.np) || eqV (PySem.W.exmOne K (.ref (ga K (S.cn c))) (.ref (ga K (S.cn d)))) (some (S.sub c d))) &&
    ((S.xfl.lookup c).getD []).all fun f => eqO (PySem.W.findIn K (.ref (ga K (S.cn c))) (atnOf S.ats f)) (some none))))))))))
def glbB (K : PySem.W.Frag) (x : Str) (d : D) : Bool := match PySem.W.nsIn K mainGlobals x with
  | some (some u) => repB K d u
  | _ => false
def Sht.okN (S : Sht) (K : PySem.W.Frag) : Bool := S.glb.all (fun p => glbB K p.1 p.2) &&
  (S.free.all (fun x => eqO (PySem.W.nsIn K mainGlobals x) (some none)) &&
  (S.ini.all (fun p => (Fa.mkr (S.cn p.1)).ok K) && (S.eqm.all (fun p => (Fa.meth (S.cn p.1) "__eq__").ok K) &&
  (S.fn.all (fun d => d.ok K) && S.fn.all (fun d => match d.at_.2 with
    | none => eqO (PySem.W.nsIn K mainGlobals d.at_.1) (some (some (.ref (ga K d.at_.1))))
    | some _ => true)))))
def Sht.okX (S : Sht) (file : Str) (K : PySem.W.Frag) : Bool := S.xin.all fun p => decide (p.2.at_ = (S.cn p.1, some ("__init__" : Str))) && (xfnB K (ga K (S.cn p.1)) (fAd K p.2.at_) p.2.qual file && (eqO (PySem.W.findIn K (.ref (ga K (S.cn p.1))) "__init__") (some (some (.ref (fAd K p.2.at_)))) && decide (PySem.W.typeIn K (.ref (fAd K p.2.at_)) = some (.type "function"))))
abbrev AlX : Type := Bool × List FnW × List XW
def obsX (S : Sht) (file : Str) (K : PySem.W.Frag) : AlX := (S.okC K && (S.okN K && S.okX file K), S.fn.map (fun d => fnW K d.at_), S.xin.map fun p => xfnW K p.2.at_)
def valX (S : Sht) : AlX := (true, S.fn.map DefD.val, S.xin.map fun p => xval p.2)
def SaysX (S : Sht) (file : Str) (K : PySem.W.Frag) : Prop := obsX S file K = valX S
def asX (g : Addr → Option Obj) (n : Nat) : List Addr := cStatics :: asD g n
def obsXG (S : Sht) (file : Str) (n : Nat) (g : Addr → Option Obj) : AlX := obsX S file (frG g (asX g n))
def hookX (S : Sht) (file : Str) (n : Nat) : PySem.W.Hook where
  α := AlX
  obs := fun s => obsXG S file n s.heap.get?
  val := fun _ => valX S
  says := fun _ h => ∃ K : PySem.W.Frag, K.In h ∧ SaysX S file K
  of := fun _ _ e => ⟨_, frG_in, e⟩
  keeps := fun _ _ _ ⟨K, hK, c⟩ k => ⟨K, PySem.W.Frag.In.keeps hK k, c⟩
theorem obsXG_eq {S : Sht} {file : Str} {n : Nat} {g : Addr → Option Obj} {s : Shared} (h : ∀ a, g a = s.heap.get? a) : obsXG S file n g = (hookX S file n).obs s := by
  have e : g = s.heap.get? := funext h
  rw [e] <;> rfl
theorem nodup_at {α : Type} {x : α} : ∀ {l : List α}, l.Nodup → ∀ {i j : Nat}, l[i]? = some x → l[j]? = some x → i = j
  | [], _, i, j, h, _ => by simp at h
  | a :: l, nd, i, j, h1, h2 => by
    have nd' := List.nodup_cons.mp nd
    cases i with
    | zero =>
      cases j with
      | zero => rfl
      | succ j =>
        have e : a = x := by simpa using h1
        subst e
        exact absurd (List.mem_of_getElem? (show l[j]? = some a by simpa using h2)) nd'.1
    | succ i =>
      cases j with
      | zero =>
        have e : a = x := by simpa using h2
        subst e
        exact absurd (List.mem_of_getElem? (show l[i]? = some a by simpa using h1)) nd'.1
      | succ j => rw [nodup_at nd'.2 (i := i) (j := j) (by simpa using h1) (by simpa using h2)]
theorem atn_inj {ats : List Str} (nd : ats.Nodup) (hl : ∀ x ∈ ats, x.cps.size < 100) : ∀ i j, atnOf ats i = atnOf ats j → i = j := fun i j e => by
  unfold atnOf at e
  have big : ∀ {k : Nat} {x : Str}, x ∈ ats → x ≠ ⟨Array.replicate (k + 100) 0⟩ := fun {k x} hx z => by
    have := hl x hx
    rw [z] at this
    simp at this
    omega
  cases hi : ats[i]? with
  | none =>
    cases hj : ats[j]? with
    | none =>
      rw [hi, hj] at e
      have := congrArg (fun x : Str => x.cps.size) e
      simp at this
      exact this
    | some y =>
      rw [hi, hj] at e
      exact absurd e.symm (big (List.mem_of_getElem? hj))
  | some x =>
    cases hj : ats[j]? with
    | none =>
      rw [hi, hj] at e
      exact absurd e (big (List.mem_of_getElem? hi))
    | some y =>
      rw [hi, hj] at e
      have e' : x = y := e
      subst e'
      obtain ⟨h1, h2⟩ := List.getElem?_eq_some_iff.mp hi
      obtain ⟨h3, h4⟩ := List.getElem?_eq_some_iff.mp hj
      exact nodup_at nd hi hj
section
variable {S : Sht} {file : Str} {K : PySem.W.Frag} {h : Heap} {mg : Str → Option Value} {call : Nat → List D → Store → Rs D}
theorem SaysX.all (c : SaysX S file K) : S.okC K = true ∧ S.okN K = true ∧ S.okX file K = true := by
  have := congrArg (fun z : AlX => z.1) c
  have := ba (show (S.okC K && (S.okN K && S.okX file K)) = true from this)
  exact ⟨this.1, (ba this.2).1, (ba this.2).2⟩
theorem SaysX.clsF (c : SaysX S file K) (nd : S.ats.Nodup) (hl : ∀ x ∈ S.ats, x.cps.size < 100) : ClsF (S.T K) (S.C call) := by
  obtain ⟨h0, h⟩ := ba c.all.1
  obtain ⟨h1, h⟩ := ba h
  obtain ⟨h2, h⟩ := ba h
  obtain ⟨h3, h⟩ := ba h
  obtain ⟨h4, h⟩ := ba h
  refine ⟨atn_inj nd hl, fun c d hc hd => ?_, fun t ht d hd => ?_, fun c hc t ht => ?_⟩
  · exact of_decide_eq_true (rg_ok (rg_ok h2 (of_decide_eq_true hc)) (of_decide_eq_true hd))
  · exact of_decide_eq_true (List.all_eq_true.mp (rg_ok h3 (of_decide_eq_true hd)) t ht)
  · exact of_decide_eq_true (List.all_eq_true.mp (rg_ok h4 (of_decide_eq_true hc)) t ht)
theorem SaysX.cls (c : SaysX S file K) {i : Nat} (hi : i < S.np) : ClsOk (S.T K) i := by
  obtain ⟨h0, h⟩ := ba c.all.1
  obtain ⟨h1, h⟩ := ba h
  exact clsB_ok (T := S.T K) (rg_ok h1 hi)
theorem SaysX.fok (c : SaysX S file K) : ∀ c f, (S.C call).fok c f = true → NoAttr (S.T K).K ((S.T K).cls c) ((S.T K).atn f) := fun i f hf => by
  obtain ⟨h0, h⟩ := ba c.all.1
  obtain ⟨h1, h⟩ := ba h
  obtain ⟨h2, h⟩ := ba h
  obtain ⟨h3, h⟩ := ba h
  obtain ⟨h4, h⟩ := ba h
  obtain ⟨h5, h⟩ := ba h
  have hm : (i, f) ∈ S.fld := by
    have : S.fld.contains (i, f) = true := hf
    simpa using this
  exact eqO_ok (ba (List.all_eq_true.mp h5 _ hm)).2
theorem SaysX.exc (c : SaysX S file K) {i : Nat} (h1 : S.np ≤ i) (h2 : i < S.cl.length) : XCls K (ga K (S.cn i)) ∧ XfC K (ga K (S.cn i)) ∧ (∀ d, S.np ≤ d → d < S.cl.length → PySem.W.exmOne K (.ref (ga K (S.cn i))) (.ref (ga K (S.cn d))) = some (S.sub i d)) ∧ ∀ f ∈ (S.xfl.lookup i).getD [], PySem.W.findIn K (.ref (ga K (S.cn i))) (atnOf S.ats f) = some none := by
  obtain ⟨_, h⟩ := ba c.all.1
  obtain ⟨_, h⟩ := ba h
  obtain ⟨_, h⟩ := ba h
  obtain ⟨_, h⟩ := ba h
  obtain ⟨_, h⟩ := ba h
  obtain ⟨_, h⟩ := ba h
  have := rg_ok h h2
  rw [Bool.or_eq_true] at this
  rcases this with this | this
  · exact absurd (of_decide_eq_true this) (Nat.not_lt_of_le h1)
  · obtain ⟨g1, g⟩ := ba this
    obtain ⟨g2, g⟩ := ba g
    obtain ⟨g3, g4⟩ := ba g
    refine ⟨xclsB_ok g1, xfB_ok g2, fun d hd1 hd2 => ?_, fun f hf => eqO_ok (List.all_eq_true.mp g4 f hf)⟩
    have := rg_ok g3 hd2
    rw [Bool.or_eq_true] at this
    rcases this with this | this
    · exact absurd (of_decide_eq_true this) (Nat.not_lt_of_le hd1)
    · exact of_decide_eq_true this
theorem SaysX.exm (c : SaysX S file K) : ∀ i d, (S.C call).xok i = true → (S.C call).xok d = true → PySem.W.exmOne (S.T K).K (.ref ((S.T K).cls i)) (.ref ((S.T K).cls d)) = some ((S.C call).sub i d) := fun i d hi hd => by
  obtain ⟨a1, a2⟩ := ba hi
  obtain ⟨b1, b2⟩ := ba hd
  exact (c.exc (of_decide_eq_true a1) (of_decide_eq_true a2)).2.2.1 d (of_decide_eq_true b1) (of_decide_eq_true b2)
theorem SaysX.exk (c : SaysX S file K) : ∀ i f, (S.C call).exk i f = true → XfC (S.T K).K ((S.T K).cls i) ∧ PySem.W.findIn (S.T K).K (.ref ((S.T K).cls i)) ((S.T K).atn f) = some none := fun i f hi => by
  obtain ⟨a1, a⟩ := ba hi
  obtain ⟨a2, a3⟩ := ba a
  obtain ⟨x1, x2, x3, x4⟩ := c.exc (of_decide_eq_true a1) (of_decide_eq_true a2)
  exact ⟨x2, x4 f (by simpa using a3)⟩
theorem SaysX.gcl (c : SaysX S file K) (X : K.In h) (G : h.Ns mainGlobals mg) {i : Nat} (hi : i < S.cl.length) {x : Str} (hx : S.cn i = x) : mg x = some (.ref ((S.T K).cls i)) := by
  obtain ⟨h0, _⟩ := ba c.all.1
  subst hx
  exact PySem.W.mg_of X G (eqO_ok (rg_ok h0 hi))
theorem SaysX.gfn (c : SaysX S file K) (X : K.In h) (G : h.Ns mainGlobals mg) {i : Nat} {d : DefD} (hi : S.fn[i]? = some d) (hd : d.at_.2 = none) : mg d.at_.1 = some (.ref (fAd K d.at_)) := by
  obtain ⟨_, h⟩ := ba c.all.2.1
  obtain ⟨_, h⟩ := ba h
  obtain ⟨_, h⟩ := ba h
  obtain ⟨_, h⟩ := ba h
  obtain ⟨_, h⟩ := ba h
  have := List.all_eq_true.mp h d (List.mem_of_getElem? hi)
  rw [hd] at this
  have e : fAd K d.at_ = ga K d.at_.1 := by unfold fAd; rw [hd]
  rw [e]
  exact PySem.W.mg_of X G (eqO_ok this)
theorem SaysX.free (c : SaysX S file K) (X : K.In h) (G : h.Ns mainGlobals mg) {x : Str} (hx : x ∈ S.free) : mg x = none := by
  obtain ⟨_, h⟩ := ba c.all.2.1
  obtain ⟨h1, _⟩ := ba h
  exact PySem.W.mg_none_of X G (eqO_ok (List.all_eq_true.mp h1 x hx))
theorem SaysX.glb (c : SaysX S file K) (X : K.In h) (G : h.Ns mainGlobals mg) {i : Nat} {x : Str} {d : D} (hi : S.glb[i]? = some (x, d)) : ∃ u v, mg x = some u ∧ RelV v u ∧ ∀ d', (S.C call).glob i = some d' → ∀ W n, RV (S.T K) W n d' v := by
  obtain ⟨h0, _⟩ := ba c.all.2.1
  have := List.all_eq_true.mp h0 _ (List.mem_of_getElem? hi)
  unfold glbB at this
  split at this
  · rename_i u e
    obtain ⟨v, r, g⟩ := repB_ok (T := S.T K) d u this
    refine ⟨u, v, PySem.W.mg_of X G e, r, fun d' hd => ?_⟩
    have e2 : (S.glb[i]?).map (·.2) = some d' := hd
    rw [hi] at e2
    cases e2
    exact g
  · cases this
theorem SaysX.def_ (c : SaysX S file K) (i : Nat) {d : DefD} (hi : S.fn[i]? = some d) : ∃ fd, FunD K d.name d.qual d.params d.body d.scope (d.dvs K) (d.kws K) (fAd K d.at_) fd := by
  obtain ⟨_, h⟩ := ba c.all.2.1
  obtain ⟨_, h⟩ := ba h
  obtain ⟨_, h⟩ := ba h
  obtain ⟨_, h⟩ := ba h
  obtain ⟨h1, _⟩ := ba h
  have e : S.fn.map (fun d => fnW K d.at_) = S.fn.map DefD.val := congrArg (fun z : AlX => z.2.1) c
  have e2 : (S.fn.map fun d => fnW K d.at_)[i]? = (S.fn.map DefD.val)[i]? := by rw [e]
  rw [List.getElem?_map, List.getElem?_map, hi] at e2
  exact DefD.funD (Option.some.inj e2) (List.all_eq_true.mp h1 d (List.mem_of_getElem? hi))
theorem SaysX.mk (c : SaysX S file K) {i f : Nat} (hi : (i, f) ∈ S.ini) : Mk K (ga K (S.cn i)) (fAd K (S.cn i, some "__init__")) := by
  obtain ⟨_, h⟩ := ba c.all.2.1
  obtain ⟨_, h⟩ := ba h
  obtain ⟨h1, _⟩ := ba h
  exact mkr_ok (List.all_eq_true.mp h1 _ hi)
theorem SaysX.eq (c : SaysX S file K) {i f : Nat} (hi : (i, f) ∈ S.eqm) : Meth K (ga K (S.cn i)) "__eq__" (fAd K (S.cn i, some "__eq__")) := by
  obtain ⟨_, h⟩ := ba c.all.2.1
  obtain ⟨_, h⟩ := ba h
  obtain ⟨_, h⟩ := ba h
  obtain ⟨h1, _⟩ := ba h
  exact meth_ok (List.all_eq_true.mp h1 _ hi)
theorem SaysX.xin_ (c : SaysX S file K) {i k : Nat} {d : DefD} (hi : S.xin[k]? = some (i, d)) : xfnW K d.at_ = xval d ∧ xfnB K (ga K (S.cn i)) (fAd K d.at_) d.qual file = true ∧ PySem.W.findIn K (.ref (ga K (S.cn i))) "__init__" = some (some (.ref (fAd K d.at_))) ∧ PySem.W.typeIn K (.ref (fAd K d.at_)) = some (.type "function") := by
  have := List.all_eq_true.mp c.all.2.2 _ (List.mem_of_getElem? hi)
  obtain ⟨_, g⟩ := ba this
  obtain ⟨g1, g⟩ := ba g
  obtain ⟨g2, g3⟩ := ba g
  have e : S.xin.map (fun p => xfnW K p.2.at_) = S.xin.map (fun p => xval p.2) := congrArg (fun z : AlX => z.2.2) c
  have e2 : (S.xin.map (fun p => xfnW K p.2.at_))[k]? = (S.xin.map (fun p => xval p.2))[k]? := by rw [e]
  rw [List.getElem?_map, List.getElem?_map, hi] at e2
  exact ⟨Option.some.inj e2, g1, eqO_ok g2, of_decide_eq_true g3⟩
end
end Dv
/-! A checker: the program's form against its text. -/
namespace Dv
open PySem PySem.Spec PyProof.Rows L2 He
theorem Rs.bind_assoc {α β γ : Type} (r : Rs α) (f : α → Store → Rs β) (g : β → Store → Rs γ) : (r.bind f).bind g = r.bind fun a M => (f a M).bind g := by cases r <;> rfl
theorem cmp_bl {o : COp} {M : Store} {a b d : D} (h : cmp o M a b = some d) : ∃ k, d = .bl k := by
  cases o <;> simp only [cmp, Option.map_eq_some_iff] at h
  case eq => obtain ⟨k, _, rfl⟩ := h; exact ⟨_, rfl⟩
  case ne => obtain ⟨k, _, rfl⟩ := h; exact ⟨_, rfl⟩
  case isIn => obtain ⟨k, _, rfl⟩ := h; exact ⟨_, rfl⟩
  case notIn => obtain ⟨k, _, rfl⟩ := h; exact ⟨_, rfl⟩
  all_goals
    repeat' split at h
    all_goals first | (cases h; exact ⟨_, rfl⟩) | cases h
theorem cmpR_bl {C : Cfg} {o : COp} {x y d : D} {M M' : Store} (h : cmpR C o x y M = .ok d M') : ∃ k, d = .bl k := by
  have of_ : ∀ z : Option D, (∀ d, z = some d → ∃ k, d = .bl k) → Rs.of z M = .ok d M' → ∃ k, d = .bl k := fun z hz e => by
    cases z with
    | none => cases e
    | some u =>
      cases e
      exact hz _ rfl
  unfold cmpR at h
  split at h
  · split at h
    · split at h
      · split at h
        · cases h; exact ⟨_, rfl⟩
        · cases h
      · cases h
    · cases h
  · cases h
  · exact of_ _ (fun d e => cmp_bl e) h
section
variable {T : Stat} {X : Cx} {XP : XPT} {Wx : WX} {C : Cfg} {a b c : Expr} {ea eb ec : E} {pos : Pos}
theorem t_cmp {o : COp} (hK : X.K = T.K) (CF : ClsF T C) (F : EqF T X XP C) (ha : PE X a (tE T XP Wx C ea)) (hb : PE X b (tE T XP Wx C eb)) (hm : behindInMarks (cOf o) b = false) : PT X (.Compare a [cOf o] [b] pos) (tT T XP Wx C (.cmp o ea eb)) := by
  refine PT.weak (pt_cmpR (op_cmpA hK F o) ha hb hm) fun σ H Q ⟨W, ρ, M, at_, p⟩ => ?_
  simp only [evT, ev, Rs.bind_assoc] at p
  refine ⟨W, ρ, M, at_, p.bind fun x M1 W1 v H1 s1 r1 p1 => ⟨W1, ρ, M1, at_.step s1, p1.bind fun y M2 W2 w H2 s2 r2 p2 => ?_⟩⟩
  refine cmpR_ok CF s2.sh (fun c f h => F.xn c f h _ ((at_.step s1).step s2).xo) (r1.up s2) r2 (p2.bindE fun d M3 W3 v3 H3 he s3 r3 p3 => ?_ : Post T Wx σ (RV T) W2 M2 (cmpR C o x y M2) _)
  obtain ⟨k, rfl⟩ := cmpR_bl he
  cases r3.1
  exact ⟨k, rfl, Post.ok (R := RB) p3 s3.sh rfl⟩
theorem t_cmp2 {o o' : COp} (hK : X.K = T.K) (CF : ClsF T C) (F : EqF T X XP C) (ha : PE X a (tE T XP Wx C ea)) (hb : PE X b (tE T XP Wx C eb)) (hcc : PE X c (tE T XP Wx C ec)) (hm : lastMarks [cOf o, cOf o'] [b, c] = false) :
    PT X (.Compare a [cOf o, cOf o'] [b, c] pos) (tT T XP Wx C (.cmp2 o o' ea eb ec)) := by
  refine PT.weak (pt_chain (op_cmpA hK F o) (op_cmpA hK F o') ha hb hcc hm) fun σ H Q ⟨W, ρ, M, at_, p⟩ => ?_
  simp only [evT, ev, Rs.bind_assoc] at p
  refine ⟨W, ρ, M, at_, p.bind fun x M1 W1 v H1 s1 r1 p1 => ⟨W1, ρ, M1, at_.step s1, p1.bind fun y M2 W2 w H2 s2 r2 p2 => ?_⟩⟩
  refine cmpR_ok CF s2.sh (fun c f h => F.xn c f h _ ((at_.step s1).step s2).xo) (r1.up s2) r2 (p2.bindE fun z M3 W3 v3 H3 he s3 r3 p3 => ?_ : Post T Wx σ (RV T) W2 M2 (cmpR C o x y M2) _)
  obtain ⟨k, rfl⟩ := cmpR_bl he
  cases r3.1
  cases k with
  | true =>
    refine ⟨true, rfl, ?_⟩
    rw [if_pos rfl]
    simp only [Rs.bind_assoc] at p3
    refine ⟨W3, ρ, M3, ((at_.step s1).step s2).step s3, p3.bind fun z M4 W4 v4 H4 s4 r4 p4 => cmpR_ok CF s4.sh (fun c f h => F.xn c f h _ ((((at_.step s1).step s2).step s3).step s4).xo) ((r2.up s3).up s4) r4 (p4.bindE fun d M5 W5 v5 H5 he5 s5 r5 p5 => ?_ : Post T Wx σ (RV T) W4 M4 (cmpR C o' y z M4) _)⟩
    obtain ⟨k, rfl⟩ := cmpR_bl he5
    cases r5.1
    exact ⟨k, rfl, Post.ok (R := RB) p5 s5.sh rfl⟩
  | false =>
    refine ⟨false, rfl, ?_⟩
    rw [if_neg Bool.false_ne_true]
    exact ⟨false, rfl, Post.ok (R := RB) p3 s3.sh rfl⟩
end
/-! ### what the checker knows of a place -/
structure Kx where
  sc : Scope
  N : List Str
  fn : Str → Bool
  calm : Bool
def nmOk (x : Str) : Bool := !(x == ("__debug__" : Str)) && !(x == ("__classdict__" : Str))
def Kx.gl (k : Kx) (x : Str) : Bool := decide (k.sc.names.lookup x = some .globalImplicit)
def Kx.vis (k : Kx) (x : Str) : Bool := decide (k.sc.names.lookup x = some .local) || (decide (k.sc.names.lookup x = some .cell) || decide (k.sc.names.lookup x = some .free))
def Kx.slot (k : Kx) (i : Nat) (x : Str) : Bool := decide (k.N[i]? = some x)
def Kx.sto (k : Kx) (x : Str) : Bool := decide (k.sc.names.lookup x = some .local) || (decide (k.sc.names.lookup x = some .cell) && k.fn x)
def Kx.blk (k : Kx) (scope : Scope) : Kx := ⟨relS scope k.sc, k.N, fun x => scope.names.lookup x == some .cell, k.calm⟩
def blkB (N : List Str) (sc scope : Scope) (own : List (Str × Nat)) : Bool :=
  decide (scope.kind = .function) && (scope.names.all (fun y => decide (scope.names.lookup y.1 = some y.2)) && (own.all (fun p => decide (N[p.2]? = some p.1)) &&
  (scope.names.all (fun y => !decide (y.2 = .free) || (decide (sc.names.lookup y.1 = some .cell) || decide (sc.names.lookup y.1 = some .free))) &&
   scope.names.all (fun y => !(decide (y.2 = .local) || decide (y.2 = .cell)) || (decide (y.1 ∈ own.map (·.1)) || !decide (y.1 ∈ N))))))
theorem blkB_ok {N : List Str} {sc scope : Scope} {own : List (Str × Nat)} (h : blkB N sc scope own = true) : BlkOk N sc scope own := by
  obtain ⟨h1, h⟩ := ba h
  obtain ⟨h2, h⟩ := ba h
  obtain ⟨h3, h⟩ := ba h
  obtain ⟨h4, h5⟩ := ba h
  refine ⟨of_decide_eq_true h1, fun y hy => of_decide_eq_true (List.all_eq_true.mp h2 y hy), fun p hp => of_decide_eq_true (List.all_eq_true.mp h3 p hp), fun y hy e => ?_, fun y hy e => ?_⟩
  · have := List.all_eq_true.mp h4 y hy
    simp only [e, decide_true, Bool.not_true, Bool.false_or, Bool.or_eq_true, decide_eq_true_eq] at this
    exact this
  · have := List.all_eq_true.mp h5 y hy
    simp only [Bool.or_eq_true, Bool.not_eq_true', Bool.or_eq_false_iff, decide_eq_true_eq, decide_eq_false_iff_not] at this
    rcases this with ⟨t1, t2⟩ | this
    · rcases e with e | e
      · exact absurd e t1
      · exact absurd e t2
    · exact this
/-! ### calls that are known -/
def Sht.callOk (S : Sht) (f sh : Nat) (x : Str) (ks : List Str) : Bool := (match S.fn[f]? with
  | some d => decide (d.at_ = (x, none))
  | none => false) && S.cs.contains (f, sh, ks)
def Sht.mkOk (S : Sht) (c sh : Nat) (x : Str) (ks : List Str) : Bool := decide (c < S.np) && (decide (c < S.cl.length) && (decide (S.cn c = x) && (match S.ini.lookup c with
  | some f => (match S.fn[f]? with
    | some d => decide (d.at_ = (x, some ("__init__" : Str)))
    | none => false) && S.cs.contains (f, sh, ks)
  | none => false)))
def Sht.tyOk (S : Sht) (t : Ty) (x : Str) : Bool := match t with
  | .own d => decide (d < S.cl.length) && decide (S.cn d = x)
  | t => decide (x = Str.ofString (tyNm t)) && decide (x ∈ S.free)
def Sht.wf (S : Sht) : Bool := S.eqm.all (fun p => (match S.fn[p.2]? with
  | some d => decide (d.at_ = (S.cn p.1, some ("__eq__" : Str)))
  | none => false) && S.cs.contains (p.2, S.sh2, [])) && (match S.shp[S.sh2]? with
  | some ⟨2, 0, [.a 0, .a 1]⟩ => true
  | _ => S.eqm.isEmpty)
/-! ### the checker, expressions -/
def okC (d : D) (c : Const) : Bool := match d, c with
  | .int i, .int j => decide (j = i)
  | .str x, .str y => decide (y = x)
  | .bl b, .bool c => c == b
  | .non, .none => true
  | _, _ => false
def notSet : Expr → Bool
  | .Set _ _ _ => false
  | _ => true
def notSlice : Expr → Bool
  | .Slice _ _ _ _ => false
  | _ => true
def okTg (k : Kx) : Tg → Expr → Bool
  | .n i, a => (match a with
    | .Name x _ => k.slot i x && k.sto x
    | _ => false)
  | .t2 s t, a => (match a with
    | .Tuple [x, y] _ _ => k.calm && ((tgLike x && tgLike y) && (okTg k s x && okTg k t y))
    | _ => false)
  | .t3 s t u, a => (match a with
    | .Tuple [x, y, z] _ _ => k.calm && ((tgLike x && (tgLike y && tgLike z)) && (okTg k s x && (okTg k t y && okTg k u z)))
    | _ => false)
def owns : Tg → Expr → List (Str × Nat)
  | .n i, a => (match a with
    | .Name x _ => [(x, i)]
    | _ => [])
  | .t2 s t, a => (match a with
    | .Tuple [x, y] _ _ => owns s x ++ owns t y
    | _ => [])
  | .t3 s t u, a => (match a with
    | .Tuple [x, y, z] _ _ => owns s x ++ (owns t y ++ owns u z)
    | _ => [])
theorem owns_ok {k : Kx} : ∀ (tg : Tg) (a : Expr), okTg k tg a = true → (owns tg a).map (·.2) = slots tg
  | .n i, a, h => by
    unfold okTg at h
    split at h
    · rfl
    · cases h
  | .t2 s t, a, h => by
    unfold okTg at h
    split at h
    · rename_i x y _ _
      obtain ⟨_, h⟩ := ba h
      obtain ⟨_, h⟩ := ba h
      obtain ⟨h1, h2⟩ := ba h
      simp only [owns, slots, List.map_append, owns_ok s x h1, owns_ok t y h2]
    · cases h
  | .t3 s t u, a, h => by
    unfold okTg at h
    split at h
    · rename_i x y z _ _
      obtain ⟨_, h⟩ := ba h
      obtain ⟨_, h⟩ := ba h
      obtain ⟨h1, h⟩ := ba h
      obtain ⟨h2, h3⟩ := ba h
      simp only [owns, slots, List.map_append, owns_ok s x h1, owns_ok t y h2, owns_ok u z h3]
    · cases h
def Sht.blt (S : Sht) (k : Kx) (x : Str) (n : String) : Bool := decide (x = Str.ofString n) && (k.gl x && decide (x ∈ S.free))
mutual
def okE (S : Sht) : E → Kx → Bool → Expr → Bool
  | .k d, _, _, a => (match a with
    | .Constant c _ _ => okC d c
    | _ => false)
  | .v i, k, _, a => (match a with
    | .Name x _ => k.slot i x && (k.vis x && nmOk x)
    | _ => false)
  | .g i, k, _, a => (match a with
    | .Name x _ => k.calm && (k.gl x && (nmOk x && (match S.glb[i]? with
      | some p => decide (p.1 = x)
      | none => false)))
    | _ => false)
  | .tup es, k, _, a => (match a with
    | .Tuple as _ _ => okEs S es k as
    | _ => false)
  | .lst _ es, k, _, a => (match a with
    | .List as _ => okEs S es k as
    | _ => false)
  | .bin o x y, k, _, a => (match a with
    | .BinOp l op r _ => decide (op = opOf o) && (okE S x k false l && okE S y k false r)
    | _ => false)
  | .neg x, k, _, a => (match a with
    | .UnaryOp op l _ => decide (op = .USub) && okE S x k false l
    | _ => false)
  | .not x, k, t, a => (match a with
    | .UnaryOp op l _ => decide (op = .Not) && okE S x k t l
    | _ => false)
  | .and es, k, t, a => (match a with
    | .BoolOp op as _ => decide (op = .And) && okBs S es k t as
    | _ => false)
  | .or es, k, t, a => (match a with
    | .BoolOp op as _ => decide (op = .Or) && okBs S es k t as
    | _ => false)
  | .cmp o x y, k, _, a => (match a with
    | .Compare l [op] [r] _ => decide (op = cOf o) && (notSet r && (okE S x k false l && okE S y k false r))
    | _ => false)
  | .cmp2 o p x y z, k, _, a => (match a with
    | .Compare l [op, op'] [r, r'] _ => (decide (op = cOf o) && decide (op' = cOf p)) && (notSet r' && (okE S x k false l && (okE S y k false r && okE S z k false r')))
    | _ => false)
  | .ite c x y, k, t, a => (match a with
    | .IfExp ct l r _ => !t && (okE S c k true ct && (okE S x k false l && okE S y k false r))
    | _ => false)
  | .ix x i, k, _, a => (match a with
    | .Subscript l r _ => notSlice r && (okE S x k false l && okE S i k false r)
    | _ => false)
  | .sl x lo hi, k, _, a => (match a with
    | .Subscript l (.Slice lo' hi' none _) _ => okE S x k false l && (okO S lo k lo' && okO S hi k hi')
    | _ => false)
  | .rev _, _, _, _ => false
  | .call f sh es ks, k, _, a => (match a with
    | .Call (.Name x _) as kws _ => k.calm && (k.gl x && (nmOk x && (S.callOk f sh x (kwNames kws) && (as.all notStar && ((kws.all fun q => q.arg.isSome) && (okEs S es k as && okKs S ks k kws))))))
    | _ => false)
  | .mk c sh es ks, k, _, a => (match a with
    | .Call (.Name x _) as kws _ => k.calm && (k.gl x && (nmOk x && (S.mkOk c sh x (kwNames kws) && (as.all notStar && ((kws.all fun q => q.arg.isSome) && (okEs S es k as && okKs S ks k kws))))))
    | _ => false)
  | .meth _ _ _ _, _, _, _ => false
  | .bi b es, k, _, a => (match a with
    | .Call (.Name x _) (y :: as) [] _ => k.calm && (S.blt k x (biNm b) && ((notStar y && as.all notStar) && okEs S es k (y :: as)))
    | _ => false)
  | .bm m o es, k, _, a => (match a with
    | .Call (.Attribute x n ap) as [] pos => decide (n = Str.ofString (bmNm m)) && (plainBase x && ((ap.endLine == pos.line) && (okE S o k false x && okM S es m k as)))
    | _ => false)
  | .attr x f, k, _, a => (match a with
    | .Attribute l n _ => plainBase l && (decide (n = atnOf S.ats f) && okE S x k false l)
    | _ => false)
  | .isi x ts, k, _, a => (match ts with
    | [t] => (match a with
      | .Call (.Name g _) [l, .Name c _] [] _ => k.calm && (S.blt k g "isinstance" && (notStar l && ((k.gl c && (nmOk c && S.tyOk t c)) && okE S x k false l)))
      | _ => false)
    | _ => false)
  | .lc _ s es tg ifs elt, k, _, a => (match a with
    | .ListComp telt [⟨ttg, titer, tifs, n⟩] scope _ => k.calm && (decide (n = 0) && (blkB k.N k.sc scope (owns tg ttg) && (notSet titer && (okI S es s k ttg titer && (okTg (k.blk scope) tg ttg && (okIfs S ifs (k.blk scope) tifs && okE S elt (k.blk scope) false telt))))))
    | _ => false)
def okEs (S : Sht) : Es → Kx → List Expr → Bool
  | .nil, _, as => as.isEmpty
  | .cons e es, k, as => (match as with
    | a :: r => notStar a && (okE S e k false a && okEs S es k r)
    | [] => false)
  | .star e es, k, as => (match as with
    | .Starred a _ :: r => okE S e k false a && okEs S es k r
    | _ => false)
def okBs (S : Sht) : Es → Kx → Bool → List Expr → Bool
  | .nil, _, _, _ => false
  | .cons e es, k, t, as => (match as with
    | [] => false
    | [a] => okE S e k t a && (match es with
      | .nil => true
      | _ => false)
    | a :: r => okE S e k t a && okBs S es k t r)
  | .star _ _, _, _, _ => false
def okKs (S : Sht) : Es → Kx → List Keyword → Bool
  | .nil, _, as => as.isEmpty
  | .cons e es, k, as => (match as with
    | ⟨_, a, _⟩ :: r => okE S e k false a && okKs S es k r
    | [] => false)
  | .star _ _, _, _ => false
/-- a part of a slice -/
def okO (S : Sht) : Es → Kx → Option Expr → Bool
  | .nil, _, a => a.isNone
  | .cons e es, k, a => (match es with
    | .nil => (match a with
      | some x => okE S e k false x
      | none => false)
    | _ => false)
  | .star _ _, _, _ => false
def okIfs (S : Sht) : Es → Kx → List Expr → Bool
  | .nil, _, as => as.isEmpty
  | .cons e es, k, as => (match es with
    | .nil => (match as with
      | [a] => okE S e k true a
      | _ => false)
    | _ => false)
  | .star _ _, _, _ => false
/-- the arguments of a builtin's method -/
def okM (S : Sht) : Es → Bm → Kx → List Expr → Bool
  | .nil, m, _, as => bm0 m && as.isEmpty
  | .cons e es, m, k, as => (match es with
    | .nil => (match as with
      | [a] => bm1 m && (notStar a && okE S e k false a)
      | _ => false)
    | _ => false)
  | .star _ _, _, _, _ => false
/-- what is walked -/
def okI (S : Sht) : Es → Src → Kx → Expr → Expr → Bool
  | .nil, _, _, _, _ => false
  | .cons e es, s, k, tg, it => (match es with
    | .nil => (match s with
      | .seq => okE S e k false it
      | .rng => (match it with
        | .Call (.Name x _) [a] [] _ => S.blt k x "range" && (notStar a && okE S e k false a)
        | _ => false)
      | .enum => (match tg with
        | .Tuple _ _ _ => (match it with
          | .Call (.Name x _) [a] [] _ => S.blt k x "enumerate" && (notStar a && okE S e k false a)
          | _ => false)
        | _ => false)
      | .zip => false)
    | .cons e2 es2 => (match es2 with
      | .nil => (match s with
        | .rng => (match it with
          | .Call (.Name x _) [a, b] [] _ => S.blt k x "range" && ((notStar a && notStar b) && (okE S e k false a && okE S e2 k false b))
          | _ => false)
        | .zip => (match tg with
          | .Tuple _ _ _ => (match it with
            | .Call (.Name x _) [a, b] [] _ => S.blt k x "zip" && ((notStar a && notStar b) && (okE S e k false a && okE S e2 k false b))
            | _ => false)
          | _ => false)
        | _ => false)
      | _ => false)
    | .star _ _ => false)
  | .star _ _, _, _, _, _ => false
end
end Dv
/-! The checker is right: expressions. -/
namespace Dv
open PySem PySem.Spec PyProof.Rows L2 He
/-- the defs that are called -/
def FnkAll (S : Sht) (K : PySem.W.Frag) (call : Nat → List D → Store → Rs D) (n : Nat) (P : Program) (w : World) (mg : Str → Option Value) (base : Heap) : Prop :=
  ∀ (f sh : Nat) (ks : List Str) (d : DefD), (f, sh, ks) ∈ S.cs → S.fn[f]? = some d → FnK P w K mg base n (fAd K d.at_) ((S.C call).shp sh).n ks (spG (S.T K) (callG (S.C call) f sh)) ∧ ks.length = ((S.C call).shp sh).m
/-- the own exceptions that are raised -/
def XiAll (S : Sht) (K : PySem.W.Frag) (P : Program) (w : World) (mg : Str → Option Value) : Prop :=
  ∀ (i : Nat) (d : DefD), (i, d) ∈ S.xin → XIni P w K mg (ga K (S.cn i)) (fAd K d.at_) (((S.xfl.lookup i).getD []).map (atnOf S.ats))
structure Fx (S : Sht) (file : Str) (K : PySem.W.Frag) (call : Nat → List D → Store → Rs D) (n : Nat) (k : Kx) (X : Cx) (XP : XPT) (Wx : WX) (C : Cfg) : Prop where
  sc : X.env.scope = k.sc
  hN : X.N = k.N
  nd : X.N.Nodup
  hK : X.K = K
  calm : X.calm = k.calm
  fn : X.fn = k.fn
  kd : k.sc.kind = .function
  says : SaysX S file K
  kin : K.In X.base
  ns : X.base.Ns mainGlobals X.mg
  nda : S.ats.Nodup
  hl : ∀ x ∈ S.ats, x.cps.size < 100
  un : X.A.units + 65 < cLine
  fnk : FnkAll S K call n X.prog X.w X.mg X.base
  xi : XiAll S K X.prog X.w X.mg
  wf : S.wf = true
  xo : ∀ o, XP o → XOk X o
  md : (k.calm = true ∧ C = S.C call ∧ (∀ o, XP o → o = none) ∧ Takes X Wx ∧ Room (n + 1) X.A ∧ Room 2 X.A) ∨ (k.calm = false ∧ C = (S.C call).cold)
theorem mem_lk {α : Type} : ∀ {l : List (Nat × α)} {c : Nat} {x : α}, l.lookup c = some x → (c, x) ∈ l
  | [], c, x, h => by cases h
  | (d, y) :: l, c, x, h => by
    by_cases e : c = d
    · subst e
      simp only [List.lookup_cons, beq_self_eq_true] at h
      cases h
      exact List.mem_cons_self
    · have e' : (c == d) = false := by simpa using e
      simp only [List.lookup_cons, e'] at h
      exact List.mem_cons_of_mem _ (mem_lk h)
theorem xok_none {X : Cx} {XP : XPT} (h : ∀ o, XP o → o = none) : ∀ o, XP o → XOk X o := fun o ho a cls d e => by
  rw [h o ho] at e
  cases e
theorem nm_ok {x : Str} (h : nmOk x = true) : (x == ("__debug__" : Str)) = false ∧ (x == ("__classdict__" : Str)) = false := by
  obtain ⟨h1, h2⟩ := ba h
  exact ⟨by simpa using h1, by simpa using h2⟩
theorem fnk_id {P : Program} {w : World} {K : PySem.W.Frag} {mg : Str → Option Value} {base : Heap} {n : Nat} {u : Addr} {T : Stat} {C : Cfg} {f sh : Nat} (hs : C.shp sh = ⟨2, 0, [.a 0, .a 1]⟩) (F : FnK P w K mg base n u (C.shp sh).n [] (spG T (callG C f sh))) : FnK P w K mg base n u 2 [] (spG T (C.call f)) := by
  rw [hs] at F
  intro A outer s H us ws vs zs Q E hr e0 rv rz l1 l2 h
  refine F A outer s H us ws vs zs Q E hr e0 rv rz l1 l2 ?_
  obtain ⟨W, M, ds, sh', hx, rl, p⟩ := h
  refine ⟨W, M, ds, sh', hx, rl, ?_⟩
  have hl := rl.1.length
  have l2' : zs = [] := List.length_eq_zero_iff.mp l2
  rw [l2', List.append_nil, l1] at hl
  match ds, hl with
  | [a, b], _ =>
    unfold callG
    rw [hs]
    exact p
section
variable {S : Sht} {file : Str} {K : PySem.W.Frag} {call : Nat → List D → Store → Rs D} {n : Nat} {k : Kx} {X : Cx} {XP : XPT} {Wx : WX} {C : Cfg}
theorem Fx.clsF (F : Fx S file K call n k X XP Wx C) : ClsF (S.T K) C := by
  have h := F.says.clsF (call := call) F.nda F.hl
  rcases F.md with ⟨_, rfl, _⟩ | ⟨_, rfl⟩
  · exact h
  · exact ⟨h.inj, h.ko, h.kb, h.kt⟩
theorem Fx.eqF (F : Fx S file K call n k X XP Wx C) : EqF (S.T K) X XP C := by
  rcases F.md with ⟨_, rfl, xn, tk, hr, _⟩ | ⟨_, rfl⟩
  · refine ⟨F.un, fun c f e => ?_, fun _ _ _ => xn⟩
    have hm : (c, f) ∈ S.eqm := mem_lk e
    obtain ⟨w1, w2⟩ := ba F.wf
    have q := List.all_eq_true.mp w1 _ hm
    obtain ⟨q1, q2⟩ := ba q
    dsimp only at q1 q2
    split at q1
    · rename_i d hd
      have ha := of_decide_eq_true q1
      obtain ⟨FK, _⟩ := F.fnk f S.sh2 [] d (by simpa using q2) hd
      have me := F.says.eq hm
      rw [ha] at FK
      refine ⟨_, n, me.1, me.2, hr.mono (Nat.le_succ n), ?_⟩
      rw [F.hK]
      refine fnk_id ?_ FK
      split at w2
      · rename_i e2
        show S.shp.getD S.sh2 _ = _
        rw [List.getD_eq_getElem?_getD, e2]
        rfl
      · rw [List.isEmpty_iff] at w2
        rw [w2] at hm
        cases hm
    · cases q1
  · exact ⟨F.un, fun c f e => (nomatch e), fun c f e => (nomatch e)⟩
theorem Fx.exk (F : Fx S file K call n k X XP Wx C) : ∀ c f, C.exk c f = true → XfC (S.T K).K ((S.T K).cls c) ∧ PySem.W.findIn (S.T K).K (.ref ((S.T K).cls c)) ((S.T K).atn f) = some none := by
  have h := F.says.exk (call := call)
  rcases F.md with ⟨_, rfl, _⟩ | ⟨_, rfl⟩ <;> exact h
theorem Fx.fok (F : Fx S file K call n k X XP Wx C) : ∀ c f, C.fok c f = true → NoAttr (S.T K).K ((S.T K).cls c) ((S.T K).atn f) := by
  have h := F.says.fok (call := call)
  rcases F.md with ⟨_, rfl, _⟩ | ⟨_, rfl⟩ <;> exact h
theorem Fx.hot (F : Fx S file K call n k X XP Wx C) (h : k.calm = true) : C = S.C call ∧ (∀ o, XP o → o = none) ∧ Takes X Wx ∧ Room (n + 1) X.A ∧ Room 2 X.A := by
  rcases F.md with ⟨_, h⟩ | ⟨e, _⟩
  · exact h
  · rw [h] at e; cases e
theorem Fx.gl (F : Fx S file K call n k X XP Wx C) {x : Str} (h : k.gl x = true) : Gl X x := by
  show X.env.scope.names.lookup x = _
  rw [F.sc]
  exact of_decide_eq_true h
theorem Fx.vis (F : Fx S file K call n k X XP Wx C) {x : Str} (h : k.vis x = true) : Vis X.env.scope x := by
  rw [F.sc]
  unfold Kx.vis at h
  simp only [Bool.or_eq_true, decide_eq_true_eq] at h
  exact h
theorem Fx.slot (F : Fx S file K call n k X XP Wx C) {i : Nat} {x : Str} (h : k.slot i x = true) : X.N[i]? = some x := by
  rw [F.hN]
  exact of_decide_eq_true h
theorem Fx.sto (F : Fx S file K call n k X XP Wx C) {x : Str} (h : k.sto x = true) : Loc X.env.scope x ∧ (X.fn x = true ∨ X.env.scope.names.lookup x = some .local) := by
  rw [F.sc, F.fn]
  unfold Kx.sto at h
  simp only [Bool.or_eq_true, Bool.and_eq_true, decide_eq_true_eq] at h
  rcases h with h | ⟨h1, h2⟩
  · exact ⟨.inl h, .inr h⟩
  · exact ⟨.inr h1, .inl h2⟩
theorem Fx.free (F : Fx S file K call n k X XP Wx C) {x : Str} (h : x ∈ S.free) : X.mg x = none := F.says.free F.kin F.ns h
theorem Fx.blt (F : Fx S file K call n k X XP Wx C) {x : Str} {m : String} (h : S.blt k x m = true) : x = Str.ofString m ∧ Gl X x ∧ X.mg x = none := by
  obtain ⟨h1, h⟩ := ba h
  obtain ⟨h2, h3⟩ := ba h
  exact ⟨of_decide_eq_true h1, F.gl h2, F.free (of_decide_eq_true h3)⟩
theorem Fx.blk (F : Fx S file K call n k X XP Wx C) (hc : k.calm = true) {scope : Scope} (hk : scope.kind = .function) (s : Shared) (H : Hp) (A : Addr) (cl : List (Str × Addr)) (fp : List Addr) : Fx S file K call n (k.blk scope) (X.blk s H scope (compEnvC scope cl A X.env) fp) X0 W0 C := by
  obtain ⟨h1, h2, h3, h4, h5⟩ := F.hot hc
  refine ⟨?_, F.hN, F.nd, F.hK, F.calm, rfl, hk, F.says, F.kin, F.ns, F.nda, F.hl, F.un, F.fnk, F.xi, F.wf, xok_none fun _ h => h, .inl ⟨hc, h1, fun _ h => h, takes0, h4, h5⟩⟩
  show relabel scope X.env = relS scope k.sc
  rw [← F.sc]
  rfl
/-- tests and values -/
def Both (S : Sht) (K : PySem.W.Frag) (X : Cx) (XP : XPT) (Wx : WX) (C : Cfg) (e : E) (t : Bool) (a : Expr) : Prop := (t = false → PE X a (tE (S.T K) XP Wx C e)) ∧ (t = true → PT X a (tT (S.T K) XP Wx C e))
def plainTest : Expr → Bool
  | .UnaryOp op _ _ => !decide (op = .Not)
  | .BoolOp _ _ _ => false
  | .IfExp _ _ _ _ => false
  | .Compare _ _ _ _ => false
  | _ => true
theorem both_of {e : E} {t : Bool} {a : Expr} (F : Fx S file K call n k X XP Wx C) (h : PE X a (tE (S.T K) XP Wx C e)) (hp : plainTest a = true) : Both S K X XP Wx C e t a := by
  refine ⟨fun _ => h, fun _ => t_plain F.hK h fun whole => ?_⟩
  cases a with
  | UnaryOp op x p =>
    cases op with
    | Not => cases hp
    | _ => rfl
  | BoolOp _ _ _ => cases hp
  | IfExp _ _ _ _ => cases hp
  | Compare _ _ _ _ => cases hp
  | _ => rfl
theorem notSet_ok {a : Expr} {env : PySem.Env} (h : notSet a = true) : ∀ x, foldedSetIterable a env x = pure x := fun x => by
  unfold foldedSetIterable
  cases a <;> first | rfl | cases h
theorem notSet_mark {a : Expr} {o : COp} (h : notSet a = true) : behindInMarks (cOf o) a = false := mark_ok fun es k p e => by
  subst e
  cases h
theorem slice_ok {b : Expr} (h : notSlice b = true) : PlainIx b := fun o i => by
  unfold subscripted
  cases b <;> first | rfl | cases h
theorem const_ok {d : D} {c : Const} {j : Nat} {p : Pos} (h : okC d c = true) {T : Stat} : PE X (.Constant c j p) (tE T XP Wx C (.k d)) := by
  unfold okC at h
  split at h
  · cases of_decide_eq_true h
    exact e_int
  · cases of_decide_eq_true h
    exact e_str
  · cases eq_of_beq h
    exact e_bl
  · exact e_non
  · cases h
theorem okTg_ok (F : Fx S file K call n k X XP Wx C) : ∀ (tg : Tg) (a : Expr), okTg k tg a = true → PG X a (gT (S.T K) tg)
  | .n i, a, h => by
    unfold okTg at h
    split at h
    · obtain ⟨h1, h2⟩ := ba h
      obtain ⟨h3, h4⟩ := F.sto h2
      exact g_n F.nd (F.slot h1) h3 h4
    · cases h
  | .t2 s t, a, h => by
    unfold okTg at h
    split at h
    · obtain ⟨hc, h⟩ := ba h
      obtain ⟨h0, h⟩ := ba h
      obtain ⟨l1, l2⟩ := ba h0
      obtain ⟨h1, h2⟩ := ba h
      exact g_t2 F.hK (F.calm.trans hc) l1 l2 (okTg_ok F s _ h1) (okTg_ok F t _ h2)
    · cases h
  | .t3 s t u, a, h => by
    unfold okTg at h
    split at h
    · obtain ⟨hc, h⟩ := ba h
      obtain ⟨h0, h⟩ := ba h
      obtain ⟨l1, h0⟩ := ba h0
      obtain ⟨l2, l3⟩ := ba h0
      obtain ⟨h1, h⟩ := ba h
      obtain ⟨h2, h3⟩ := ba h
      exact g_t3 F.hK (F.calm.trans hc) l1 l2 l3 (okTg_ok F s _ h1) (okTg_ok F t _ h2) (okTg_ok F u _ h3)
    · cases h
theorem callOk_ok (F : Fx S file K call n k X XP Wx C) (hc : k.calm = true) {f sh : Nat} {x : Str} {ks : List Str} (h : S.callOk f sh x ks = true) : ∃ u, X.mg x = some (.ref u) ∧ PySem.W.keepIn X.K (.ref u) = true ∧ FnK X.prog X.w X.K X.mg X.base n u (C.shp sh).n ks (spG (S.T K) (callG C f sh)) ∧ ks.length = (C.shp sh).m := by
  obtain ⟨h1, h2⟩ := ba h
  obtain ⟨rfl, _⟩ := F.hot hc
  split at h1
  · rename_i d hd
    have ha := of_decide_eq_true h1
    obtain ⟨FK, hm⟩ := F.fnk f sh ks d (by simpa using h2) hd
    obtain ⟨fd, fD⟩ := F.says.def_ f hd
    have hg := F.says.gfn F.kin F.ns hd (by rw [ha])
    rw [ha] at hg
    rw [F.hK]
    refine ⟨_, hg, ?_, by rw [← ha]; exact FK, hm⟩
    rw [← ha]
    exact fD.kp
  · cases h1
theorem mkOk_ok (F : Fx S file K call n k X XP Wx C) (hc : k.calm = true) {c sh : Nat} {x : Str} {ks : List Str} (h : S.mkOk c sh x ks = true) : ∃ fi fI, X.mg x = some (.ref ((S.T K).cls c)) ∧ (∀ f, C.ini c = some f → f = fi) ∧ ClsOk (S.T K) c ∧ Mk X.K ((S.T K).cls c) fI ∧ FnK X.prog X.w X.K X.mg X.base n fI (C.shp sh).n ks (spG (S.T K) (callG C fi sh)) ∧ ks.length = (C.shp sh).m := by
  obtain ⟨h1, h⟩ := ba h
  obtain ⟨h2, h⟩ := ba h
  obtain ⟨h3, h⟩ := ba h
  obtain ⟨rfl, _⟩ := F.hot hc
  have e3 := of_decide_eq_true h3
  split at h
  · rename_i f hf
    obtain ⟨h4, h5⟩ := ba h
    split at h4
    · rename_i d hd
      have ha := of_decide_eq_true h4
      obtain ⟨FK, hm⟩ := F.fnk f sh ks d (by simpa using h5) hd
      have MK := F.says.mk (mem_lk hf)
      rw [ha, ← e3] at FK
      rw [F.hK]
      refine ⟨f, _, F.says.gcl F.kin F.ns (of_decide_eq_true h2) e3, fun g e => ?_, F.says.cls (of_decide_eq_true h1), MK, FK, hm⟩
      have e' : S.ini.lookup c = some g := e
      rw [hf] at e'
      exact (Option.some.inj e').symm
    · cases h4
  · cases h
theorem tyOk_ok (F : Fx S file K call n k X XP Wx C) {t : Ty} {x : Str} {p : Pos} (hg : k.gl x = true) (hn : nmOk x = true) (h : S.tyOk t x = true) : PE X (.Name x p) (tC (tyV2 (S.T K) t)) := by
  refine pe_ty (F.gl hg) (nm_ok hn).1 ?_
  cases t with
  | own d =>
    obtain ⟨h1, h2⟩ := ba h
    exact .inl ⟨d, rfl, F.says.gcl F.kin F.ns (of_decide_eq_true h1) (of_decide_eq_true h2)⟩
  | _ =>
    obtain ⟨h1, h2⟩ := ba h
    exact .inr ⟨fun d e => (nomatch e), of_decide_eq_true h1, F.free (of_decide_eq_true h2)⟩
end
section
variable {S : Sht} {file : Str} {K : PySem.W.Frag} {call : Nat → List D → Store → Rs D} {n : Nat} {C : Cfg}
theorem okEs_nil {es : Es} {k : Kx} (h : okEs S es k [] = true) : es = .nil := by
  cases es with
  | nil => rfl
  | cons _ _ => simp only [okEs] at h; cases h
  | star _ _ => simp only [okEs] at h; cases h
theorem okKs_nil {es : Es} {k : Kx} (h : okKs S es k [] = true) : es = .nil := by
  cases es with
  | nil => rfl
  | cons _ _ => simp only [okKs] at h; cases h
  | star _ _ => simp only [okKs] at h; cases h
mutual
theorem okE_ok : ∀ (e : E) {k : Kx} {X : Cx} {XP : XPT} {Wx : WX} (t : Bool) (a : Expr), Fx S file K call n k X XP Wx C → okE S e k t a = true → Both S K X XP Wx C e t a
  | .k d, k, X, XP, Wx, t, a, F, h => by
    simp only [okE] at h
    split at h
    · exact both_of F (const_ok h) rfl
    · cases h
  | .v i, k, X, XP, Wx, t, a, F, h => by
    simp only [okE] at h
    split at h
    · obtain ⟨h1, h⟩ := ba h
      obtain ⟨h2, h3⟩ := ba h
      exact both_of F (e_v (F.slot h1) (F.vis h2) (nm_ok h3).1 (nm_ok h3).2) rfl
    · cases h
  | .g i, k, X, XP, Wx, t, a, F, h => by
    simp only [okE] at h
    split at h
    · obtain ⟨hc, h⟩ := ba h
      obtain ⟨h1, h⟩ := ba h
      obtain ⟨h2, h3⟩ := ba h
      split at h3
      · rename_i p hp
        have e := of_decide_eq_true h3
        obtain ⟨x', d⟩ := p
        dsimp only at e
        subst e
        obtain ⟨u, v, g1, g2, g3⟩ := F.says.glb (call := call) F.kin F.ns hp
        obtain ⟨rfl, _⟩ := F.hot hc
        exact both_of F (e_g (F.gl h1) g1 g2 (nm_ok h2).1 g3) rfl
      · cases h3
    · cases h
  | .tup es, k, X, XP, Wx, t, a, F, h => by
    simp only [okE] at h
    split at h
    · exact both_of F (e_tup (okEs_ok es _ F h)) rfl
    · cases h
  | .lst r es, k, X, XP, Wx, t, a, F, h => by
    simp only [okE] at h
    split at h
    · exact both_of F (e_lst (okEs_ok es _ F h)) rfl
    · cases h
  | .bin o x y, k, X, XP, Wx, t, a, F, h => by
    simp only [okE] at h
    split at h
    · obtain ⟨h1, h⟩ := ba h
      obtain ⟨h2, h3⟩ := ba h
      cases of_decide_eq_true h1
      exact both_of F (e_bin F.hK ((okE_ok x false _ F h2).1 rfl) ((okE_ok y false _ F h3).1 rfl)) rfl
    · cases h
  | .neg x, k, X, XP, Wx, t, a, F, h => by
    simp only [okE] at h
    split at h
    · obtain ⟨h1, h2⟩ := ba h
      cases of_decide_eq_true h1
      exact both_of F (e_neg ((okE_ok x false _ F h2).1 rfl)) rfl
    · cases h
  | .not x, k, X, XP, Wx, t, a, F, h => by
    simp only [okE] at h
    split at h
    · obtain ⟨h1, h2⟩ := ba h
      cases of_decide_eq_true h1
      have q := okE_ok x t _ F h2
      exact ⟨fun e => e_not F.hK (q.1 e), fun e => t_not (q.2 e)⟩
    · cases h
  | .and es, k, X, XP, Wx, t, a, F, h => by
    simp only [okE] at h
    split at h
    · obtain ⟨h1, h2⟩ := ba h
      cases of_decide_eq_true h1
      have q := okBs_ok es t _ F h2
      exact ⟨fun e => (q.1 e _).1, fun e => ((q.2 e _).1).pt⟩
    · cases h
  | .or es, k, X, XP, Wx, t, a, F, h => by
    simp only [okE] at h
    split at h
    · obtain ⟨h1, h2⟩ := ba h
      cases of_decide_eq_true h1
      have q := okBs_ok es t _ F h2
      exact ⟨fun e => (q.1 e _).2, fun e => ((q.2 e _).2).pt⟩
    · cases h
  | .cmp o x y, k, X, XP, Wx, t, a, F, h => by
    simp only [okE] at h
    split at h
    · obtain ⟨h1, h⟩ := ba h
      obtain ⟨h0, h⟩ := ba h
      obtain ⟨h2, h3⟩ := ba h
      cases of_decide_eq_true h1
      have q1 := (okE_ok x false _ F h2).1 rfl
      have q2 := (okE_ok y false _ F h3).1 rfl
      exact ⟨fun _ => e_cmp F.hK F.clsF F.eqF q1 q2 (notSet_mark h0), fun _ => t_cmp F.hK F.clsF F.eqF q1 q2 (notSet_mark h0)⟩
    · cases h
  | .cmp2 o p x y z, k, X, XP, Wx, t, a, F, h => by
    simp only [okE] at h
    split at h
    · obtain ⟨h1, h⟩ := ba h
      obtain ⟨h1, h1'⟩ := ba h1
      obtain ⟨h0, h⟩ := ba h
      obtain ⟨h2, h⟩ := ba h
      obtain ⟨h3, h4⟩ := ba h
      cases of_decide_eq_true h1
      cases of_decide_eq_true h1'
      have q1 := (okE_ok x false _ F h2).1 rfl
      have q2 := (okE_ok y false _ F h3).1 rfl
      have q3 := (okE_ok z false _ F h4).1 rfl
      have hm : ∀ (b c : Expr), notSet c = true → lastMarks [cOf o, cOf p] [b, c] = false := fun b c hc => by
        show behindInMarks (cOf p) c = false
        exact notSet_mark hc
      exact ⟨fun _ => e_cmp2 F.hK F.clsF F.eqF q1 q2 q3 (hm _ _ h0), fun _ => t_cmp2 F.hK F.clsF F.eqF q1 q2 q3 (hm _ _ h0)⟩
    · cases h
  | .ite c x y, k, X, XP, Wx, t, a, F, h => by
    simp only [okE] at h
    split at h
    · obtain ⟨h0, h⟩ := ba h
      obtain ⟨h1, h⟩ := ba h
      obtain ⟨h2, h3⟩ := ba h
      refine ⟨fun _ => e_ite ((okE_ok c true _ F h1).2 rfl) ((okE_ok x false _ F h2).1 rfl) ((okE_ok y false _ F h3).1 rfl), fun e => ?_⟩
      rw [e] at h0
      cases h0
    · cases h
  | .ix x i, k, X, XP, Wx, t, a, F, h => by
    simp only [okE] at h
    split at h
    · obtain ⟨h0, h⟩ := ba h
      obtain ⟨h1, h2⟩ := ba h
      exact both_of F (e_ix F.hK ((okE_ok x false _ F h1).1 rfl) ((okE_ok i false _ F h2).1 rfl) (slice_ok h0)) rfl
    · cases h
  | .sl x lo hi, k, X, XP, Wx, t, a, F, h => by
    simp only [okE] at h
    split at h
    · obtain ⟨h0, h⟩ := ba h
      obtain ⟨h1, h2⟩ := ba h
      exact both_of F (e_sl F.hK ((okE_ok x false _ F h0).1 rfl) (okO_ok lo _ F h1) (okO_ok hi _ F h2)) rfl
    · cases h
  | .rev _, k, X, XP, Wx, t, a, F, h => by
    simp only [okE] at h
    cases h
  | .call f sh es ks, k, X, XP, Wx, t, a, F, h => by
    simp only [okE] at h
    split at h
    · obtain ⟨hc, h⟩ := ba h
      obtain ⟨h1, h⟩ := ba h
      obtain ⟨h2, h⟩ := ba h
      obtain ⟨h3, h⟩ := ba h
      obtain ⟨h4, h⟩ := ba h
      obtain ⟨h5, h⟩ := ba h
      obtain ⟨h6, h7⟩ := ba h
      obtain ⟨u, g1, g2, g3, g4⟩ := callOk_ok F hc h3
      obtain ⟨eC, xn, tk, hr, _⟩ := F.hot hc
      refine both_of F (e_call xn (hr.mono (Nat.le_succ n)) tk (F.gl h1) g1 (nm_ok h2).1 g2 g3 g4 (okEs_ok es _ F h6) (okKs_ok ks _ F h7) (fun e => ?_) (fun e => ?_) h4 h5) rfl
      · rw [e] at h6
        exact okEs_nil h6
      · rw [e] at h7
        exact okKs_nil h7
    · cases h
  | .mk c sh es ks, k, X, XP, Wx, t, a, F, h => by
    simp only [okE] at h
    split at h
    · obtain ⟨hc, h⟩ := ba h
      obtain ⟨h1, h⟩ := ba h
      obtain ⟨h2, h⟩ := ba h
      obtain ⟨h3, h⟩ := ba h
      obtain ⟨h4, h⟩ := ba h
      obtain ⟨h5, h⟩ := ba h
      obtain ⟨h6, h7⟩ := ba h
      obtain ⟨fi, fI, g1, g2, g3, g4, g5, g6⟩ := mkOk_ok F hc h3
      obtain ⟨eC, xn, tk, hr, _⟩ := F.hot hc
      refine both_of F (e_mk F.hK xn hr tk (F.gl h1) g1 (nm_ok h2).1 g2 g3 g4 g5 g6 (okEs_ok es _ F h6) (okKs_ok ks _ F h7) (fun e => ?_) (fun e => ?_) h4 h5) rfl
      · rw [e] at h6
        exact okEs_nil h6
      · rw [e] at h7
        exact okKs_nil h7
    · cases h
  | .meth _ _ _ _, k, X, XP, Wx, t, a, F, h => by
    simp only [okE] at h
    cases h
  | .bi b es, k, X, XP, Wx, t, a, F, h => by
    simp only [okE] at h
    split at h
    · obtain ⟨hc, h⟩ := ba h
      obtain ⟨h1, h⟩ := ba h
      obtain ⟨h2, h3⟩ := ba h
      obtain ⟨h4, h5⟩ := ba h2
      obtain ⟨e1, g1, g2⟩ := F.blt h1
      exact both_of F (e_bi F.hK (F.calm.trans hc) e1 g1 g2 (okEs_ok es _ F h3) (star_plain h4) (stars_none h5)) rfl
    · cases h
  | .bm m o es, k, X, XP, Wx, t, a, F, h => by
    simp only [okE] at h
    split at h
    · obtain ⟨h1, h⟩ := ba h
      obtain ⟨h2, h⟩ := ba h
      obtain ⟨h3, h⟩ := ba h
      obtain ⟨h4, h5⟩ := ba h
      exact both_of F (okM_ok es m _ F (of_decide_eq_true h1) h2 h3 ((okE_ok o false _ F h4).1 rfl) h5) rfl
    · cases h
  | .attr x f, k, X, XP, Wx, t, a, F, h => by
    simp only [okE] at h
    split at h
    · obtain ⟨h1, h⟩ := ba h
      obtain ⟨h2, h3⟩ := ba h
      exact both_of F (e_attr F.xo F.hK F.clsF F.exk (of_decide_eq_true h2) ((okE_ok x false _ F h3).1 rfl) h1) rfl
    · cases h
  | .isi x ts, k, X, XP, Wx, t, a, F, h => by
    simp only [okE] at h
    split at h
    · split at h
      · obtain ⟨hc, h⟩ := ba h
        obtain ⟨h1, h⟩ := ba h
        obtain ⟨h2, h⟩ := ba h
        obtain ⟨h3, h4⟩ := ba h
        obtain ⟨h5, h6⟩ := ba h3
        obtain ⟨h6, h7⟩ := ba h6
        obtain ⟨e1, g1, g2⟩ := F.blt h1
        obtain ⟨eC, xn, tk, hr, _⟩ := F.hot hc
        subst e1
        exact both_of F (e_isi1 F.hK F.clsF g1 g2 ((okE_ok x false _ F h4).1 rfl) (tyOk_ok F h5 h6 h7) h2 rfl xn) rfl
      · cases h
    · cases h
  | .lc r s es tg ifs elt, k, X, XP, Wx, t, a, F, h => by
    simp only [okE] at h
    split at h
    · obtain ⟨hc, h⟩ := ba h
      obtain ⟨h0, h⟩ := ba h
      obtain ⟨h1, h⟩ := ba h
      obtain ⟨h2, h⟩ := ba h
      obtain ⟨h3, h⟩ := ba h
      obtain ⟨h4, h⟩ := ba h
      obtain ⟨h5, h6⟩ := ba h
      cases of_decide_eq_true h0
      obtain ⟨eC, xn, tk, hr, _⟩ := F.hot hc
      have ok := blkB_ok h1
      refine both_of F (e_lc F.hK xn (F.calm.trans hc) F.nd (okI_ok es s _ _ F h3) (by rw [F.hN, F.sc]; exact ok) (owns_ok tg _ h4) (fun s H A cl fp => ?_) (fun s H A cl fp => ?_) (fun s H A cl fp => ?_) (notSet_ok h2)) rfl
      · exact okTg_ok (F.blk hc ok.kind s H A cl fp) tg _ h4
      · exact okIfs_ok ifs _ (F.blk hc ok.kind s H A cl fp) h5
      · exact (okE_ok elt false _ (F.blk hc ok.kind s H A cl fp) h6).1 rfl
    · cases h
theorem okEs_ok : ∀ (es : Es) {k : Kx} {X : Cx} {XP : XPT} {Wx : WX} (as : List Expr), Fx S file K call n k X XP Wx C → okEs S es k as = true → PA X as (tA (S.T K) XP Wx C es)
  | .nil, k, X, XP, Wx, as, F, h => by
    simp only [okEs, List.isEmpty_iff] at h
    subst h
    exact a_nil
  | .cons e es, k, X, XP, Wx, as, F, h => by
    simp only [okEs] at h
    split at h
    · obtain ⟨h1, h⟩ := ba h
      obtain ⟨h2, h3⟩ := ba h
      exact a_cons ((okE_ok e false _ F h2).1 rfl) (okEs_ok es _ F h3) (star_plain h1)
    · cases h
  | .star e es, k, X, XP, Wx, as, F, h => by
    simp only [okEs] at h
    split at h
    · obtain ⟨h2, h3⟩ := ba h
      exact a_star F.hK ((okE_ok e false _ F h2).1 rfl) (okEs_ok es _ F h3) rfl
    · cases h
theorem okBs_ok : ∀ (es : Es) {k : Kx} {X : Cx} {XP : XPT} {Wx : WX} (t : Bool) (as : List Expr), Fx S file K call n k X XP Wx C → okBs S es k t as = true →
    (t = false → ∀ pos, PE X (.BoolOp .And as pos) (tE (S.T K) XP Wx C (.and es)) ∧ PE X (.BoolOp .Or as pos) (tE (S.T K) XP Wx C (.or es))) ∧ (t = true → ∀ pos, PW X (.BoolOp .And as pos) (tT (S.T K) XP Wx C (.and es)) ∧ PW X (.BoolOp .Or as pos) (tT (S.T K) XP Wx C (.or es)))
  | .nil, k, X, XP, Wx, t, as, F, h => by
    simp only [okBs] at h
    cases h
  | .star _ _, k, X, XP, Wx, t, as, F, h => by
    simp only [okBs] at h
    cases h
  | .cons e es, k, X, XP, Wx, t, as, F, h => by
    simp only [okBs] at h
    split at h
    · cases h
    · obtain ⟨h1, h2⟩ := ba h
      have q := okE_ok e t _ F h1
      split at h2
      · exact ⟨fun z pos => ⟨e_and1 (q.1 z), e_or1 (q.1 z)⟩, fun z pos => ⟨t_and1 (q.2 z), t_or1 (q.2 z)⟩⟩
      · cases h2
    · rename_i a r hr
      obtain ⟨h1, h2⟩ := ba h
      have q := okE_ok e t _ F h1
      have q2 := okBs_ok es t _ F h2
      cases r with
      | nil => exact absurd rfl hr
      | cons b r =>
        cases es with
        | nil => simp only [okBs] at h2; cases h2
        | star _ _ => simp only [okBs] at h2; cases h2
        | cons e2 es2 => exact ⟨fun z pos => ⟨e_and F.hK (q.1 z) (q2.1 z pos).1, e_or F.hK (q.1 z) (q2.1 z pos).2⟩, fun z pos => ⟨t_and (q.2 z) (q2.2 z pos).1, t_or (q.2 z) (q2.2 z pos).2⟩⟩
theorem okKs_ok : ∀ (es : Es) {k : Kx} {X : Cx} {XP : XPT} {Wx : WX} (as : List Keyword), Fx S file K call n k X XP Wx C → okKs S es k as = true → PK X as (tA (S.T K) XP Wx C es)
  | .nil, k, X, XP, Wx, as, F, h => by
    simp only [okKs, List.isEmpty_iff] at h
    subst h
    exact k_nil
  | .cons e es, k, X, XP, Wx, as, F, h => by
    simp only [okKs] at h
    split at h
    · obtain ⟨h2, h3⟩ := ba h
      exact k_cons ((okE_ok e false _ F h2).1 rfl) (okKs_ok es _ F h3)
    · cases h
  | .star _ _, k, X, XP, Wx, as, F, h => by
    simp only [okKs] at h
    cases h
theorem okO_ok : ∀ (es : Es) {k : Kx} {X : Cx} {XP : XPT} {Wx : WX} (a : Option Expr), Fx S file K call n k X XP Wx C → okO S es k a = true → PO X a (tO (S.T K) XP Wx C es)
  | .nil, k, X, XP, Wx, a, F, h => by
    simp only [okO, Option.isNone_iff_eq_none] at h
    subst h
    exact o_none
  | .star _ _, k, X, XP, Wx, a, F, h => by
    simp only [okO] at h
    cases h
  | .cons e es, k, X, XP, Wx, a, F, h => by
    simp only [okO] at h
    split at h
    · split at h
      · exact o_some ((okE_ok e false _ F h).1 rfl)
      · cases h
    · cases h
theorem okIfs_ok : ∀ (es : Es) {k : Kx} {X : Cx} {XP : XPT} {Wx : WX} (as : List Expr), Fx S file K call n k X XP Wx C → okIfs S es k as = true → PTs X as (tIfs (S.T K) XP Wx C es)
  | .nil, k, X, XP, Wx, as, F, h => by
    simp only [okIfs, List.isEmpty_iff] at h
    subst h
    exact ifs_nil
  | .star _ _, k, X, XP, Wx, a, F, h => by
    simp only [okIfs] at h
    cases h
  | .cons e es, k, X, XP, Wx, a, F, h => by
    simp only [okIfs] at h
    split at h
    · split at h
      · exact ifs_one ((okE_ok e true _ F h).2 rfl)
      · cases h
    · cases h
theorem okM_ok : ∀ (es : Es) (m : Bm) {k : Kx} {X : Cx} {XP : XPT} {Wx : WX} (as : List Expr), Fx S file K call n k X XP Wx C → ∀ {o : Expr} {eo : E} {nm : Str} {ap pos : Pos}, nm = Str.ofString (bmNm m) → plainBase o = true → (ap.endLine == pos.line) = true → PE X o (tE (S.T K) XP Wx C eo) → okM S es m k as = true →
    PE X (.Call (.Attribute o nm ap) as [] pos) (tE (S.T K) XP Wx C (.bm m eo es))
  | .nil, m, k, X, XP, Wx, as, F, o, eo, nm, ap, pos, hn, hb, hl, ho, h => by
    simp only [okM] at h
    obtain ⟨h1, h2⟩ := ba h
    rw [List.isEmpty_iff] at h2
    subst h2
    exact e_bm0 h1 F.hK hn ho hb hl
  | .star _ _, m, k, X, XP, Wx, as, F, o, eo, nm, ap, pos, hn, hb, hl, ho, h => by
    simp only [okM] at h
    cases h
  | .cons e es, m, k, X, XP, Wx, as, F, o, eo, nm, ap, pos, hn, hb, hl, ho, h => by
    simp only [okM] at h
    split at h
    · split at h
      · obtain ⟨h1, h⟩ := ba h
        obtain ⟨h2, h3⟩ := ba h
        exact e_bm1 h1 F.hK hn ho ((okE_ok e false _ F h3).1 rfl) h2 hb hl
      · cases h
    · cases h
theorem okI_ok : ∀ (es : Es) (s : Src) {k : Kx} {X : Cx} {XP : XPT} {Wx : WX} (tg it : Expr), Fx S file K call n k X XP Wx C → okI S es s k tg it = true → PI X tg it (tI (S.T K) XP Wx C s es)
  | .nil, s, k, X, XP, Wx, tg, it, F, h => by
    simp only [okI] at h
    cases h
  | .star _ _, s, k, X, XP, Wx, tg, it, F, h => by
    simp only [okI] at h
    cases h
  | .cons _ (.star _ _), s, k, X, XP, Wx, tg, it, F, h => by
    simp only [okI] at h
    cases h
  | .cons _ (.cons _ (.cons _ _)), s, k, X, XP, Wx, tg, it, F, h => by
    simp only [okI] at h
    cases h
  | .cons _ (.cons _ (.star _ _)), s, k, X, XP, Wx, tg, it, F, h => by
    simp only [okI] at h
    cases h
  | .cons e .nil, s, k, X, XP, Wx, tg, it, F, h => by
    have ie := fun (a : Expr) (h : okE S e k false a = true) => (okE_ok e false a F h).1 rfl
    simp only [okI] at h
    split at h
    · exact i_seq F.hK (ie _ h)
    · split at h
      · obtain ⟨h1, h⟩ := ba h
        obtain ⟨h2, h3⟩ := ba h
        obtain ⟨e1, g1, g2⟩ := F.blt h1
        subst e1
        exact i_rng1 g1 g2 (a_cons (ie _ h3) a_nil (star_plain h2)) (star_plain h2)
      · cases h
    · split at h
      · split at h
        · obtain ⟨h1, h⟩ := ba h
          obtain ⟨h2, h3⟩ := ba h
          obtain ⟨e1, g1, g2⟩ := F.blt h1
          subst e1
          exact i_enum F.hK g1 g2 (a_cons (ie _ h3) a_nil (star_plain h2)) (star_plain h2)
        · cases h
      · cases h
    · cases h
  | .cons e (.cons e2 .nil), s, k, X, XP, Wx, tg, it, F, h => by
    have ie := fun (a : Expr) (h : okE S e k false a = true) => (okE_ok e false a F h).1 rfl
    have ie2 := fun (a : Expr) (h : okE S e2 k false a = true) => (okE_ok e2 false a F h).1 rfl
    simp only [okI] at h
    split at h
    · split at h
      · obtain ⟨h1, h⟩ := ba h
        obtain ⟨h2, h⟩ := ba h
        obtain ⟨h3, h4⟩ := ba h
        obtain ⟨n1, n2⟩ := ba h2
        obtain ⟨e1, g1, g2⟩ := F.blt h1
        subst e1
        exact i_rng2 g1 g2 (a_cons (ie _ h3) (a_cons (ie2 _ h4) a_nil (star_plain n2)) (star_plain n1)) (by rw [star_plain n1, star_plain n2]; rfl) (star_plain n2)
      · cases h
    · split at h
      · split at h
        · obtain ⟨h1, h⟩ := ba h
          obtain ⟨h2, h⟩ := ba h
          obtain ⟨h3, h4⟩ := ba h
          obtain ⟨n1, n2⟩ := ba h2
          obtain ⟨e1, g1, g2⟩ := F.blt h1
          subst e1
          exact i_zip F.hK g1 g2 (a_cons (ie _ h3) (a_cons (ie2 _ h4) a_nil (star_plain n2)) (star_plain n1)) (star_plain n1) (stars_none (by simp [n2]))
        · cases h
      · cases h
    · cases h
end
end
end Dv
/-! The checker, statements. -/
namespace Dv
open PySem PySem.Spec PyProof.Rows L2 He
def Kx.cold (k : Kx) : Kx := { k with calm := false }
def Kx.lcl (k : Kx) (x : Str) : Bool := decide (k.sc.names.lookup x = some .local)
/-- y = [..] is stored within the comprehension -/
def swB (k : Kx) (x : Str) (p : Pos) (a : Expr) : Bool := match a with
  | .ListComp _ _ s q => k.lcl x && ((p.line == q.line) && !(s.names.any fun y => y.1 == x && (y.2 == .local || y.2 == .cell)))
  | _ => false
def notSD : Expr → Bool
  | .SetComp _ _ _ _ => false
  | .DictComp _ _ _ _ _ => false
  | _ => true
def notComp : Expr → Bool
  | .ListComp _ _ _ _ => false
  | .SetComp _ _ _ _ => false
  | .DictComp _ _ _ _ _ => false
  | _ => true
def notTup : Expr → Bool
  | .Tuple _ _ _ => false
  | _ => true
def isTup : Expr → Bool
  | .Tuple _ _ _ => true
  | _ => false
def parB (k : Kx) (x y : Str) (px py : Pos) (a b : Expr) : Bool := (k.lcl x && k.lcl y) && ((py.line == px.line) && (!decide (x = y) && ((notStar a && notStar b) && (!(foldedForSure 8 a && foldedForSure 8 b) && !(constantsAlone 8 a && constantsAlone 8 b)))))
def Sht.rsOk (Z : Sht) (c : Nat) (x : Str) : Bool := decide (Z.np ≤ c) && (decide (c < Z.cl.length) && (decide (Z.cn c = x) && ((Z.xin.any fun p => decide (p.1 = c)) && decide (((Z.xfl.lookup c).getD []).length ≤ 1000))))
def tgNames (k : Kx) (ts : List Expr) : List Str := ts.filterMap fun
  | .Name id pos => if (k.sc.names.lookup id == some .local && pos.line == (ts.head?.map (·.pos.line)).getD 0) = true then some id else none
  | _ => none
def ssN (k : Kx) (ts : List Expr) : Expr → Bool
  | .Tuple _ _ _ => (tgNames k ts).length != ts.length
  | _ => true
mutual
def okS (Z : Sht) : Dv.S → Kx → Stmt → Bool
  | .set tg e, k, a => (match a with
    | .Assign [t] v _ => (match t with
      | .Name x p => (match tg with
        | .n i => k.slot i x && (k.sto x && (notSD v && okE Z e k false v))
        | _ => false)
      | .Tuple es q p => ssN k es v && (okTg k tg (.Tuple es q p) && okE Z e k false v)
      | _ => false)
    | _ => false)
  | .par i j x y, k, a => (match a with
    | .Assign [.Tuple [.Name n p, .Name m q] _ _] (.Tuple [l, r] _ _) _ => k.calm && (parB k n m p q l r && ((k.slot i n && (k.slot j m && !decide (i = j))) && (okE Z x k false l && okE Z y k false r)))
    | _ => false)
  | .sub o i e, k, a => (match a with
    | .Assign [.Subscript x y _] v _ => notSlice y && (okE Z e k false v && (okE Z o k false x && okE Z i k false y))
    | _ => false)
  | .fld o f e, k, a => (match a with
    | .Assign [.Attribute x n _] v _ => notSD v && (decide (n = atnOf Z.ats f) && (okE Z e k false v && okE Z o k false x))
    | _ => false)
  | .aug i o e, k, a => (match a with
    | .AugAssign (.Name x _) op v _ => (match o with
      | .add => decide (op = .Add) && (k.slot i x && (k.sto x && okE Z e k false v))
      | .sub => decide (op = .Sub) && (k.slot i x && (k.sto x && okE Z e k false v))
      | _ => false)
    | _ => false)
  | .ex e, k, a => (match a with
    | .Expr v _ => notComp v && okE Z e k false v
    | _ => false)
  | .ret _ e, k, a => (match a with
    | .Return (some v) _ => okE Z e k false v
    | _ => false)
  | .retN, _, a => (match a with
    | .Return none _ => true
    | _ => false)
  | .ite c x y, k, a => (match a with
    | .If t b1 b2 _ => okE Z c k true t && (okSs Z x k b1 && okSs Z y k b2)
    | _ => false)
  | .for_ s es tg b, k, a => (match a with
    | .For t it b1 [] _ => k.calm && (notSet it && (okI Z es s k t it && (okTg k tg t && okSs Z b k b1)))
    | _ => false)
  | .while_ _ c b, k, a => (match a with
    | .While t b1 [] _ => k.calm && (okE Z c k true t && okSs Z b k b1)
    | _ => false)
  | .raise c es, k, a => (match a with
    | .Raise (some (.Call (.Name x _) (y :: as) [] _)) none _ => k.calm && (k.gl x && (nmOk x && (Z.rsOk c x && ((notStar y && as.all notStar) && okEs Z es k (y :: as)))))
    | _ => false)
  | .try_ b hs, k, a => (match a with
    | .Try b1 (h :: hds) [] [] _ => k.calm && (okSs Z b k b1 && okHs Z hs k (h :: hds))
    | _ => false)
  | .pass, _, a => (match a with
    | .Pass _ => true
    | _ => false)
  | .brk, _, a => (match a with
    | .Break _ => true
    | _ => false)
  | .cont, _, a => (match a with
    | .Continue _ => true
    | _ => false)
def okSs (Z : Sht) : Ss → Kx → List Stmt → Bool
  | .nil, _, as => as.isEmpty
  | .cons s ss, k, as => (match as with
    | a :: r => okS Z s k a && okSs Z ss k r
    | [] => false)
def okHs (Z : Sht) : Hs → Kx → List ExceptHandler → Bool
  | .nil, _, as => as.isEmpty
  | .cons c i b hs, k, as => (match as with
    | .ExceptHandler (some (.Name x _)) nm (b0 :: su) _ :: r => (k.gl x && (nmOk x && (decide (c < Z.cl.length) && decide (Z.cn c = x)))) && ((match i, nm with
        | none, none => true
        | some i, some n => k.slot i n && k.lcl n
        | _, _ => false) && (okSs Z b k.cold (b0 :: su) && okHs Z hs k r))
    | _ => false)
end
/-! ### it is right -/
structure Sx (Z : Sht) (file : Str) (K : PySem.W.Frag) (call : Nat → List D → Store → Rs D) (n : Nat) (k : Kx) (X : Cx) (XP : XPT) (Wx : WX) (C : Cfg) : Prop where
  fx : Fx Z file K call n k X XP Wx C
  hp : k.calm = true → PassesOwn (model X.prog X.w) X.A X.env X.xe ∧ X.stack = X.env :: X.outer ∧ X.env.frame = some X.env.locals
section
variable {Z : Sht} {file : Str} {K : PySem.W.Frag} {call : Nat → List D → Store → Rs D} {n : Nat} {k : Kx} {X : Cx} {XP : XPT} {Wx : WX} {C : Cfg}
theorem Fx.bk (F : Fx Z file K call n k X XP Wx C) : X.env.blockKind = .function := by
  unfold PySem.Env.blockKind
  rw [F.sc, F.kd]
  rfl
theorem sw_name (F : Fx Z file K call n k X XP Wx C) {x : Str} {p : Pos} {a : Expr} {ln : Nat} (h : notSD a = true) : swapsWith a (some (.Name x p)) ln X.env = pure (swB k x p a) := by
  cases a with
  | ListComp e g s q =>
    show (pure (X.env.blockKind == .function && X.env.kindOf x == some .local && p.line == q.line && !(s.names.any fun (n, k) => n == x && (k == .local || k == .cell))) : Sem Bool) = pure (k.lcl x && ((p.line == q.line) && !(s.names.any fun y => y.1 == x && (y.2 == .local || y.2 == .cell))))
    congr 1
    rw [F.bk]
    have : X.env.kindOf x = k.sc.names.lookup x := by
      show X.env.scope.names.lookup x = _
      rw [F.sc]
    rw [this]
    unfold Kx.lcl
    simp only [beq_self_eq_true, Bool.true_and, Bool.and_assoc]
    by_cases hx : k.sc.names.lookup x = some .local <;> simp [hx]
  | SetComp _ _ _ _ => cases h
  | DictComp _ _ _ _ _ => cases h
  | _ => rfl
theorem sw_none {a : Expr} {ln : Nat} {env : PySem.Env} (h : notComp a = true) : swapsWith a none ln env = pure false := by
  cases a <;> first | rfl | cases h
theorem sw_tup {a : Expr} {ln q : Nat} {env : PySem.Env} {es : List Expr} {p : Pos} : swapsWithSole [.Tuple es q p] a ln env = pure false := by
  unfold swapsWithSole
  cases a <;> rfl
theorem sw_sub {a x y : Expr} {ln : Nat} {env : PySem.Env} {p : Pos} : swapsWithSole [.Subscript x y p] a ln env = pure false := by
  unfold swapsWithSole
  cases a <;> rfl
theorem sw_att {a x : Expr} {y : Str} {ln : Nat} {env : PySem.Env} {p : Pos} : swapsWith a (some (.Attribute x y p)) ln env = pure false := by
  cases a <;> rfl
theorem ss_none {a : Expr} {q : Nat} {env : PySem.Env} {es : List Expr} {p : Pos} (h : notTup a = true) : swappedStores [.Tuple es q p] a env = pure none := by
  unfold swappedStores
  cases a <;> first | rfl | cases h
theorem ss_cap (F : Fx Z file K call n k X XP Wx C) {ts : List Expr} {v : Expr} {q : Nat} {p : Pos} (h : ssN k ts v = true) : swappedStores [.Tuple ts q p] v X.env = pure none := by
  cases v with
  | Tuple vs q2 p2 =>
    have kx : ∀ z, X.env.kindOf z = k.sc.names.lookup z := fun z => by
      show X.env.scope.names.lookup z = _
      rw [F.sc]
    have h' : ((tgNames k ts).length != ts.length) = true := h
    unfold tgNames at h'
    unfold swappedStores
    simp only [kx]
    split
    · rfl
    · split
      · rfl
      · exact if_pos (Bool.or_eq_true_iff.mpr (.inl h'))
  | _ => rfl
theorem ss_par (F : Fx Z file K call n k X XP Wx C) {x y : Str} {px py pt pt2 : Pos} {kt k2 : Nat} {a b : Expr} (h : parB k x y px py a b = true) : swappedStores [.Tuple [.Name x px, .Name y py] kt pt] (.Tuple [a, b] k2 pt2) X.env = pure (some [x, y]) := by
  obtain ⟨h1, h⟩ := ba h
  obtain ⟨h1, h2⟩ := ba h1
  obtain ⟨h3, h⟩ := ba h
  obtain ⟨h4, h⟩ := ba h
  obtain ⟨h5, h⟩ := ba h
  obtain ⟨h5, h6⟩ := ba h5
  obtain ⟨h7, h8⟩ := ba h
  have kx : ∀ z, X.env.kindOf z = k.sc.names.lookup z := fun z => by
    show X.env.scope.names.lookup z = _
    rw [F.sc]
  have l1 : X.env.kindOf x = some .local := (kx x).trans (of_decide_eq_true h1)
  have l2 : X.env.kindOf y = some .local := (kx y).trans (of_decide_eq_true h2)
  have ne : x ≠ y := by simpa using h4
  have yx : (y == x) = false := by simpa using fun e : y = x => ne e.symm
  have xy : (x == y) = false := by simpa using ne
  have h3' : (py.line == px.line) = true := h3
  have p1 : (Expr.Name x px).pos = px := rfl
  have p2 : (Expr.Name y py).pos = py := rfl
  unfold swappedStores
  have h7' : (foldedForSure 8 a && foldedForSure 8 b) = false := by cases q : (foldedForSure 8 a && foldedForSure 8 b) <;> first | rfl | (rw [q] at h7; cases h7)
  have h8' : (constantsAlone 8 a && constantsAlone 8 b) = false := by cases q : (constantsAlone 8 a && constantsAlone 8 b) <;> first | rfl | (rw [q] at h8; cases h8)
  have dd : ([x, y] : List Str).eraseDups.length = 2 := by
    simp [List.eraseDups_cons, yx]
  simp [F.bk, l1, l2, h3', p1, p2, h7', h8', dd, List.filterMap, List.any, List.all]
  intro hh
  rcases hh with hh | hh
  · cases a <;> first | (cases h5; done) | cases hh
  · cases b <;> first | (cases h6; done) | cases hh
theorem Sx.tr (Q : Sx Z file K call n k X XP Wx C) (hc : k.calm = true) {W : WX} {pz : List (Addr × Obj)} {xe : Value → Shared → Prop} (tk : Takes (X.tr pz xe) W) (po : PassesOwn (model X.prog X.w) X.A X.env xe) : Sx Z file K call n k (X.tr pz xe) XP W C := by
  obtain ⟨h1, h2, h3, h4, h5⟩ := Q.fx.hot hc
  have F := Q.fx
  exact ⟨⟨F.sc, F.hN, F.nd, F.hK, F.calm, F.fn, F.kd, F.says, F.kin, F.ns, F.nda, F.hl, F.un, F.fnk, F.xi, F.wf, xok_none h2, .inl ⟨hc, h1, h2, tk, h4, h5⟩⟩, fun _ => ⟨po, (Q.hp hc).2⟩⟩
theorem Sx.su (Q : Sx Z file K call n k X XP Wx C) (hc : k.calm = true) {a : Addr} {oe : Obj} {cls : Value} {d : Option Addr} {pz : List (Addr × Obj)} (z : Zc cls d oe) (hf : ∃ vs, oe.data = .fields vs) (i : Option Nat) : Sx Z file K call n k.cold (X.suite a ((a, oe) :: pz)) (xpX a cls d i) W0 C.cold := by
  obtain ⟨h1, h2, h3, h4, h5⟩ := Q.fx.hot hc
  have F := Q.fx
  refine ⟨⟨F.sc, F.hN, F.nd, F.hK, rfl, F.fn, F.kd, F.says, F.kin, F.ns, F.nda, F.hl, F.un, F.fnk, F.xi, F.wf, fun o ho a' cls' d' e => ?_, .inr ⟨rfl, by rw [h1]⟩⟩, fun e => nomatch e⟩
  cases i with
  | none =>
    have ho' : o = none := ho
    rw [ho'] at e
    cases e
  | some i =>
    have ho' : o = some (a, cls, d) := ho
    rw [ho'] at e
    cases e
    exact ⟨oe, List.mem_cons_self, z, hf⟩
end
section
variable {Z : Sht} {file : Str} {K : PySem.W.Frag} {call : Nat → List D → Store → Rs D} {n : Nat}
theorem rs_ok {k : Kx} {X : Cx} {XP : XPT} {Wx : WX} {C : Cfg} (F : Fx Z file K call n k X XP Wx C) (hc : k.calm = true) {c : Nat} {x : Str} (h : Z.rsOk c x = true) {e : Expr} {es : List Expr} {ess : Es} {p pos pos' : Pos} (hg : k.gl x = true) (hn : nmOk x = true) (h1 : notStar e = true) (h2 : es.all notStar = true) (ha : PA X (e :: es) (tA (Z.T K) XP Wx C ess)) :
    PS X (.Raise (some (.Call (.Name x p) (e :: es) [] pos)) none pos') (tS (Z.T K) XP Wx C (.raise c ess)) := by
  obtain ⟨q1, h⟩ := ba h
  obtain ⟨q2, h⟩ := ba h
  obtain ⟨q3, h⟩ := ba h
  obtain ⟨q4, q5⟩ := ba h
  obtain ⟨rfl, xn, tk, hr, hr2⟩ := F.hot hc
  obtain ⟨⟨i, d⟩, hm, hi⟩ := List.any_eq_true.mp q4
  have hi' : i = c := of_decide_eq_true hi
  subst hi'
  obtain ⟨j, hj⟩ := List.mem_iff_getElem?.mp hm
  obtain ⟨x1, x2, x3, x4⟩ := F.says.xin_ hj
  obtain ⟨y1, _⟩ := F.says.exc (of_decide_eq_true q1) (of_decide_eq_true q2)
  have hK := F.hK
  refine s_raise (fI := fAd K d.at_) hK (F.calm.trans hc) tk (by rw [hK]; exact y1) (by rw [hK]; exact x3) (by rw [hK]; exact x4) ?_ hr2 (of_decide_eq_true q5) (F.gl hg) (F.says.gcl F.kin F.ns (of_decide_eq_true q2) (of_decide_eq_true q3)) ha (nm_ok hn).1 (star_plain h1) (stars_none h2)
  rw [hK]
  exact F.xi i d hm
mutual
theorem okS_ok : ∀ (s : Dv.S) {k : Kx} {X : Cx} {XP : XPT} {Wx : WX} {C : Cfg} (a : Stmt), Sx Z file K call n k X XP Wx C → okS Z s k a = true → PS X a (tS (Z.T K) XP Wx C s)
  | .set tg e, k, X, XP, Wx, C, a, Q, h => by
    have F := Q.fx
    simp only [okS] at h
    split at h
    · rename_i t v pos
      split at h
      · rename_i x p
        split at h
        · rename_i i
          obtain ⟨h1, h⟩ := ba h
          obtain ⟨h2, h⟩ := ba h
          obtain ⟨h3, h4⟩ := ba h
          have sw := sw_name F (x := x) (p := p) (ln := pos.line) h3
          cases hb : swB k x p v with
          | false =>
            rw [hb] at sw
            obtain ⟨g1, g2⟩ := F.sto h2
            exact s_n F.nd (F.slot h1) g1 g2 ((okE_ok e false _ F h4).1 rfl) sw
          | true =>
            rw [hb] at sw
            cases v with
            | ListComp telt gens scope q =>
              cases e with
              | lc r s es tg ifs elt =>
                simp only [okE] at h4
                split at h4
                · rename_i ttg titer tifs m hh
                  cases hh
                  obtain ⟨hc, h⟩ := ba h4
                  obtain ⟨h0, h⟩ := ba h
                  obtain ⟨k1, h⟩ := ba h
                  obtain ⟨k2, h⟩ := ba h
                  obtain ⟨k3, h⟩ := ba h
                  obtain ⟨k4, h⟩ := ba h
                  obtain ⟨k5, k6⟩ := ba h
                  cases of_decide_eq_true h0
                  obtain ⟨eC, xn, tk, hr, _⟩ := F.hot hc
                  have ok := blkB_ok k1
                  have hl : X.env.scope.names.lookup x = some .local := by
                    rw [F.sc]
                    exact of_decide_eq_true (ba hb).1
                  refine s_setLc (F.slot h1) hl sw F.hK xn (F.calm.trans hc) F.nd (okI_ok es s _ _ F k3) (by rw [F.hN, F.sc]; exact ok) (owns_ok tg _ k4) (fun s H A cl fp => ?_) (fun s H A cl fp => ?_) (fun s H A cl fp => ?_) (notSet_ok k2)
                  · exact okTg_ok (F.blk hc ok.kind s H A cl fp) tg _ k4
                  · exact okIfs_ok ifs _ (F.blk hc ok.kind s H A cl fp) k5
                  · exact (okE_ok elt false _ (F.blk hc ok.kind s H A cl fp) k6).1 rfl
                · cases h4
              | _ => simp only [okE] at h4; first | cases h4 | (split at h4 <;> cases h4)
            | _ => cases hb
        · cases h
      · rename_i es q p
        obtain ⟨h1, h⟩ := ba h
        obtain ⟨h2, h3⟩ := ba h
        exact s_set ((okE_ok e false _ F h3).1 rfl) (okTg_ok F tg _ h2) sw_tup (ss_cap F h1) rfl
      · cases h
    · cases h
  | .par i j x y, k, X, XP, Wx, C, a, Q, h => by
    have F := Q.fx
    simp only [okS] at h
    split at h
    · obtain ⟨hc, h⟩ := ba h
      obtain ⟨h1, h⟩ := ba h
      obtain ⟨h2, h⟩ := ba h
      obtain ⟨h3, h4⟩ := ba h
      obtain ⟨g1, h2⟩ := ba h2
      obtain ⟨g2, g3⟩ := ba h2
      obtain ⟨l1, l2⟩ := ba h1
      obtain ⟨l1, l3⟩ := ba l1
      have st : (notStar _ && notStar _) = true := (ba (ba (ba l2).2).2).1
      obtain ⟨s1, s2⟩ := ba st
      exact s_par (F.calm.trans hc) F.nd (F.slot g1) (F.slot g2) (by rw [F.sc]; exact of_decide_eq_true l1) (by rw [F.sc]; exact of_decide_eq_true l3) (by simpa using g3) (a_cons ((okE_ok x false _ F h3).1 rfl) (a_cons ((okE_ok y false _ F h4).1 rfl) a_nil (star_plain s2)) (star_plain s1)) (ss_par F h1) sw_tup
    · cases h
  | .sub o i e, k, X, XP, Wx, C, a, Q, h => by
    have F := Q.fx
    simp only [okS] at h
    split at h
    · rename_i xx y pp vv ps
      obtain ⟨h0, h⟩ := ba h
      obtain ⟨h1, h⟩ := ba h
      obtain ⟨h2, h3⟩ := ba h
      refine s_sub ((okE_ok e false _ F h1).1 rfl) ((okE_ok o false _ F h2).1 rfl) ((okE_ok i false _ F h3).1 rfl) sw_sub fun v => ?_
      cases y <;> first | rfl | cases h0
    · cases h
  | .fld o f e, k, X, XP, Wx, C, a, Q, h => by
    have F := Q.fx
    simp only [okS] at h
    split at h
    · obtain ⟨h0, h⟩ := ba h
      obtain ⟨h1, h⟩ := ba h
      obtain ⟨h2, h3⟩ := ba h
      exact s_fld F.hK F.clsF.inj F.fok (of_decide_eq_true h1) ((okE_ok e false _ F h2).1 rfl) ((okE_ok o false _ F h3).1 rfl) sw_att
    · cases h
  | .aug i o e, k, X, XP, Wx, C, a, Q, h => by
    have F := Q.fx
    simp only [okS] at h
    split at h
    · split at h
      · obtain ⟨h0, h⟩ := ba h
        obtain ⟨h1, h⟩ := ba h
        obtain ⟨h2, h3⟩ := ba h
        obtain ⟨g1, g2⟩ := F.sto h2
        cases of_decide_eq_true h0
        exact s_add F.nd (F.slot h1) g1 g2 ((okE_ok e false _ F h3).1 rfl)
      · obtain ⟨h0, h⟩ := ba h
        obtain ⟨h1, h⟩ := ba h
        obtain ⟨h2, h3⟩ := ba h
        obtain ⟨g1, g2⟩ := F.sto h2
        cases of_decide_eq_true h0
        exact s_subt F.nd (F.slot h1) g1 g2 ((okE_ok e false _ F h3).1 rfl)
      · cases h
    · cases h
  | .ex e, k, X, XP, Wx, C, a, Q, h => by
    simp only [okS] at h
    split at h
    · obtain ⟨h0, h1⟩ := ba h
      exact s_ex ((okE_ok e false _ Q.fx h1).1 rfl) (sw_none h0)
    · cases h
  | .ret z e, k, X, XP, Wx, C, a, Q, h => by
    simp only [okS] at h
    split at h
    · exact s_ret ((okE_ok e false _ Q.fx h).1 rfl)
    · cases h
  | .retN, k, X, XP, Wx, C, a, Q, h => by
    simp only [okS] at h
    split at h
    · exact s_retN
    · cases h
  | .ite c x y, k, X, XP, Wx, C, a, Q, h => by
    simp only [okS] at h
    split at h
    · obtain ⟨h0, h⟩ := ba h
      obtain ⟨h1, h2⟩ := ba h
      exact s_if ((okE_ok c true _ Q.fx h0).2 rfl) (okSs_ok x _ Q h1) (okSs_ok y _ Q h2)
    · cases h
  | .for_ s es tg b, k, X, XP, Wx, C, a, Q, h => by
    have F := Q.fx
    simp only [okS] at h
    split at h
    · obtain ⟨hc, h⟩ := ba h
      obtain ⟨h0, h⟩ := ba h
      obtain ⟨h1, h⟩ := ba h
      obtain ⟨h2, h3⟩ := ba h
      have hp := (Q.hp hc).1
      cases s with
      | seq =>
        cases es with
        | nil => simp only [okI] at h1; cases h1
        | star _ _ => simp only [okI] at h1; cases h1
        | cons e r =>
          cases r with
          | nil =>
            simp only [okI] at h1
            exact s_forS F.hK hp (F.calm.trans hc) ((okE_ok e false _ F h1).1 rfl) (okTg_ok F tg _ h2) (okSs_ok b _ Q h3) (notSet_ok h0)
          | cons e2 r2 => cases r2 <;> (simp only [okI] at h1; cases h1)
          | star _ _ => simp only [okI] at h1; cases h1
      | _ => exact s_for rfl hp (F.calm.trans hc) (okI_ok es _ _ _ F h1) (okTg_ok F tg _ h2) (okSs_ok b _ Q h3) (notSet_ok h0)
    · cases h
  | .while_ m c b, k, X, XP, Wx, C, a, Q, h => by
    have F := Q.fx
    simp only [okS] at h
    split at h
    · obtain ⟨hc, h⟩ := ba h
      obtain ⟨h0, h1⟩ := ba h
      exact s_while (Q.hp hc).1 ((okE_ok c true _ F h0).2 rfl) (okSs_ok b _ Q h1)
    · cases h
  | .raise c es, k, X, XP, Wx, C, a, Q, h => by
    have F := Q.fx
    simp only [okS] at h
    split at h
    · obtain ⟨hc, h⟩ := ba h
      obtain ⟨h0, h⟩ := ba h
      obtain ⟨h1, h⟩ := ba h
      obtain ⟨h2, h⟩ := ba h
      obtain ⟨h3, h4⟩ := ba h
      obtain ⟨h5, h6⟩ := ba h3
      exact rs_ok F hc h2 h0 h1 h5 h6 (okEs_ok es _ F h4)
    · cases h
  | .try_ b hs, k, X, XP, Wx, C, a, Q, h => by
    have F := Q.fx
    simp only [okS] at h
    split at h
    · obtain ⟨hc, h⟩ := ba h
      obtain ⟨h0, h1⟩ := ba h
      obtain ⟨eC, xn, tk, hr, _⟩ := F.hot hc
      have hp := Q.hp hc
      have XF : ∀ c d, C.xok c = true → C.xok d = true → PySem.W.exmOne (Z.T K).K (.ref ((Z.T K).cls c)) (.ref ((Z.T K).cls d)) = some (C.sub c d) := by
        rw [eC]
        exact F.says.exm
      exact s_try F.hK xn hp.2.1 hp.2.2 tk XF (fun W pz xe tk' po => okSs_ok b _ (Q.tr hc tk' po) h0) (okHs_ok hs _ Q hc h1)
    · cases h
  | .pass, k, X, XP, Wx, C, a, Q, h => by
    simp only [okS] at h
    split at h
    · exact s_pass
    · cases h
  | .brk, k, X, XP, Wx, C, a, Q, h => by
    simp only [okS] at h
    split at h
    · exact s_brk
    · cases h
  | .cont, k, X, XP, Wx, C, a, Q, h => by
    simp only [okS] at h
    split at h
    · exact s_cont
    · cases h
theorem okSs_ok : ∀ (s : Ss) {k : Kx} {X : Cx} {XP : XPT} {Wx : WX} {C : Cfg} (as : List Stmt), Sx Z file K call n k X XP Wx C → okSs Z s k as = true → PSs X as (tSs (Z.T K) XP Wx C s)
  | .nil, k, X, XP, Wx, C, as, Q, h => by
    simp only [okSs, List.isEmpty_iff] at h
    subst h
    exact ss_nil
  | .cons s ss, k, X, XP, Wx, C, as, Q, h => by
    simp only [okSs] at h
    split at h
    · obtain ⟨h0, h1⟩ := ba h
      exact ss_cons (okS_ok s _ Q h0) (okSs_ok ss _ Q h1)
    · cases h
theorem okHs_ok : ∀ (s : Hs) {k : Kx} {X : Cx} {XP : XPT} {Wx : WX} {C : Cfg} (as : List ExceptHandler), Sx Z file K call n k X XP Wx C → k.calm = true → okHs Z s k as = true → HdsM X as (trH (Z.T K) C s)
  | .nil, k, X, XP, Wx, C, as, Q, hc, h => by
    simp only [okHs, List.isEmpty_iff] at h
    subst h
    exact .nil
  | .cons c i b hs, k, X, XP, Wx, C, as, Q, hc, h => by
    have F := Q.fx
    simp only [okHs] at h
    split at h
    · obtain ⟨h0, h⟩ := ba h
      obtain ⟨h1, h⟩ := ba h
      obtain ⟨h2, h3⟩ := ba h
      obtain ⟨g1, h0⟩ := ba h0
      obtain ⟨g2, h0⟩ := ba h0
      obtain ⟨g3, g4⟩ := ba h0
      have nm : Names X _ (.ref ((Z.T K).cls c)) := ⟨F.gl g1, (nm_ok g2).1, .inl (F.says.gcl F.kin F.ns (of_decide_eq_true g3) (of_decide_eq_true g4))⟩
      split at h1
      · exact .only nm (fun a oe cls d pz z hf => okSs_ok b _ (Q.su hc z hf none) h2) (okHs_ok hs _ Q hc h3)
      · obtain ⟨k1, k2⟩ := ba h1
        exact .as F.nd (F.slot k1) (by show X.env.scope.names.lookup _ = _; rw [F.sc]; exact of_decide_eq_true k2) nm (fun a oe cls d pz z hf => okSs_ok b _ (Q.su hc z hf (some _)) h2) (okHs_ok hs _ Q hc h3)
      · cases h1
    · cases h
end
end
end Dv
/-! All defs at once; the law. -/
namespace Dv
open PySem PySem.Spec PyProof.Rows L2 He
def inCls (s : Stmt) : List Stmt := match s with
  | .ClassDef _ _ _ l _ _ _ _ _ _ _ => l
  | _ => []
def Sht.G (Z : Sht) : Prg := ⟨fun f => (Z.fd[f]?).map fun g => ⟨g.ps.length, g.N.length, g.b⟩, Z.C⟩
def scB (g : Fd) (sc : Scope) : Bool := decide (sc.kind = .function) && (decide (sc.isCoroutine = false) && (decide (sc.isGenerator = false) && (decide g.N.Nodup && (decide (g.N.take g.ps.length = g.ps) &&
  (g.ps.all (fun x => decide (sc.names.lookup x = some .local) || decide (sc.names.lookup x = some .cell)) && sc.names.all fun y => !decide (y.2 = .free))))))
theorem scB_ok {g : Fd} {sc : Scope} (h : scB g sc = true) : FnScope g.N g.ps sc := by
  obtain ⟨h1, h⟩ := ba h
  obtain ⟨h2, h⟩ := ba h
  obtain ⟨h3, h⟩ := ba h
  obtain ⟨h4, h⟩ := ba h
  obtain ⟨h5, h⟩ := ba h
  obtain ⟨h6, h7⟩ := ba h
  refine ⟨of_decide_eq_true h1, of_decide_eq_true h2, of_decide_eq_true h3, of_decide_eq_true h4, of_decide_eq_true h5, fun x hx => ?_, fun y hy e => ?_⟩
  · have := List.all_eq_true.mp h6 x hx
    simpa only [Bool.or_eq_true, decide_eq_true_eq] using this
  · have := List.all_eq_true.mp h7 y hy
    rw [e] at this
    simp at this
def Fd.kx (g : Fd) (sc : Scope) : Kx := ⟨sc, g.N, fun _ => true, true⟩
def Sht.okF (Z : Sht) (d : DefD) (g : Fd) : Bool := scB g d.scope && okSs Z g.b (g.kx d.scope) d.body
def Sht.okI (Z : Sht) (i : Nat) : Bool := match Z.fn[i]?, Z.fd[i]? with
  | some d, some g => Z.okF d g
  | _, _ => false
def Sht.stB (Z : Sht) : Bool := Z.wf && (decide Z.ats.Nodup && (Z.ats.all fun x => decide (x.cps.size < 100)))
theorem okI_at {Z : Sht} {i : Nat} {d : DefD} (h : Z.okI i = true) (hd : Z.fn[i]? = some d) : ∃ g, Z.fd[i]? = some g ∧ Z.okF d g = true := by
  unfold Sht.okI at h
  rw [hd] at h
  split at h
  · rename_i d' g e1 e2
    cases e1
    exact ⟨g, e2, h⟩
  · cases h
/-- how each known call comes to the parameters -/
def BndAll (Z : Sht) (K : PySem.W.Frag) : Prop := ∀ (f sh : Nat) (ks : List Str) (d : DefD) (g : Fd) (fd : FuncData), (f, sh, ks) ∈ Z.cs → Z.fn[f]? = some d → Z.fd[f]? = some g → FunD K d.name d.qual d.params d.body d.scope (d.dvs K) (d.kws K) (fAd K d.at_) fd →
  BndOk (Z.T K) K fd g.ps (Z.shp.getD sh ⟨0, 0, []⟩).n ks (Z.shp.getD sh ⟨0, 0, []⟩).sl ∧ ks.length = (Z.shp.getD sh ⟨0, 0, []⟩).m
section
variable {P : Program} {w : World} {K : PySem.W.Frag} {mg : Str → Option Value} {base : Heap} {Z : Sht} {file : Str}
theorem fx_of (st : Z.stB = true) (says : SaysX Z file K) (kin : K.In base) (ns : base.Ns mainGlobals mg) {call : Nat → List D → Store → Rs D} {n : Nat} (fk : FnkAll Z K call n P w mg base) (xi : XiAll Z K P w mg) {d : DefD} {g : Fd} (ok : Z.okF d g = true)
    {CX : CXT} {u : Addr} {cdv : Value} {A : Around} {outer : List PySem.Env} {s : Shared} {H : Hp} {E : XK} {Wx : WX} (tk : Takes (cxOf CX P w K mg base g.N d.qual d.scope u cdv A outer s H E) Wx) (hr : Room (n + 1) (A.deeper (envOfC d.qual d.scope s.heap.objs.size u cdv))) (h2 : 2 ≤ n + 1) :
    PSs (cxOf CX P w K mg base g.N d.qual d.scope u cdv A outer s H E) d.body (tSs (Z.T K) X0 Wx (Z.C call) g.b) := by
  obtain ⟨s1, s2⟩ := ba st
  obtain ⟨s2, s3⟩ := ba s2
  obtain ⟨o1, o2⟩ := ba ok
  have sc := scB_ok o1
  refine okSs_ok (n := n) g.b d.body ⟨⟨rfl, rfl, sc.nd, rfl, rfl, rfl, sc.kind, says, kin, ns, of_decide_eq_true s2, fun x hx => of_decide_eq_true (List.all_eq_true.mp s3 x hx), ?_, fk, xi, s1, xok_none fun _ h => h, .inl ⟨rfl, rfl, fun _ h => h, tk, hr, hr.mono h2⟩⟩, fun _ => ⟨?_, rfl, rfl⟩⟩ o2
  · have := hr.un
    show (A.deeper (envOfC d.qual d.scope s.heap.objs.size u cdv)).units + 65 < cLine
    omega
  · exact passes_of (X := cxOf CX P w K mg base g.N d.qual d.scope u cdv A outer s H E) (K := fun e s'' => CX outer H s E e s'') (E₁ := fun e' s'' => CX outer H s E e' s'') rfl
theorem fnk_all (st : Z.stB = true) (says : SaysX Z file K) (kin : K.In base) (ns : base.Ns mainGlobals mg) (xi : XiAll Z K P w mg) (bn : BndAll Z K) (ok : ∀ q ∈ Z.cs, Z.okI q.1 = true) : ∀ j, FnkAll Z K (run Z.G j) (2 * j + 2) P w mg base
  | 0 => fun f sh ks d hm hd => by
    obtain ⟨g, hg, o⟩ := okI_at (ok _ hm) hd
    obtain ⟨fd, fD⟩ := says.def_ f hd
    refine ⟨fun A outer s H us ws vs zs Q E hr e0 rv rz l1 l2 h => ?_, (bn f sh ks d g fd hm hd hg fD).2⟩
    obtain ⟨W, M, ds, _, _, _, p⟩ := h
    unfold callG at p
    split at p
    · exact False.elim p
    · exact False.elim p
  | j + 1 => fun f sh ks d hm hd => by
    have ih := fnk_all st says kin ns xi bn ok j
    obtain ⟨g, hg, o⟩ := okI_at (ok _ hm) hd
    obtain ⟨fd, fD⟩ := says.def_ f hd
    obtain ⟨bo, hml⟩ := bn f sh ks d g fd hm hd hg fD
    refine ⟨?_, hml⟩
    obtain ⟨oc, od, dV, kV, doc, pm, an, cdv, ct, osl, rfl, lk, hcd, _, _⟩ := fD.ex
    obtain ⟨m, b1, b2, b3⟩ := bo
    obtain ⟨o1, o2⟩ := ba o
    have e : 2 * (j + 1) + 2 = (2 * j + 3) + 1 := by omega
    rw [e]
    exact fn_k (G := Z.G) (j := j) (f := f) (sh := sh) (N := g.N) (ps := g.ps) (C := Z.C (run Z.G (j + 1))) (m := m) (ks := ks) lk hcd (scB_ok o1) (by show (Z.fd[f]?).map _ = _; rw [hg]; rfl) rfl b1 b2 hml.symm b3
      fun A outer s H E hr => fx_of st says kin ns ih xi o (takes_of (X := cxOf (L2.CX P w) P w K mg base g.N d.qual d.scope (fAd K d.at_) cdv A outer s H E) (E := E) (E₁ := fun e' s'' => L2.CX P w outer H s E e' s'') rfl rfl rfl rfl) hr (by omega)
/-- what the law promises -/
def spL (K : PySem.W.Frag) (n : Nat) : Sp := fun vs H Q _ => ∃ (a : Addr) (ns : List Int), vs = [.ref a] ∧ ns.length ≤ n ∧ SqL K H a (ns.map V.int) ∧ ∀ H', Q (.bl true) H'
theorem law_fn (st : Z.stB = true) (says : SaysX Z file K) (kin : K.In base) (ns : base.Ns mainGlobals mg) (xi : XiAll Z K P w mg) (bn : BndAll Z K) (ok : ∀ q ∈ Z.cs, Z.okI q.1 = true) {f j n : Nat} {d : DefD} {g : Fd} {x : Str} (hd : Z.fn[f]? = some d) (hg : Z.fd[f]? = some g) (o : Z.okF d g = true) (hx : g.ps = [x]) (hn : n ≤ 1000)
    (hL : ∀ l : List Int, l.length ≤ n → ∃ M, run Z.G (j + 1) f [.scr l] [] = .ok (.bl true) M) {fd : FuncData} (fD : FunD K d.name d.qual d.params d.body d.scope (d.dvs K) (d.kws K) (fAd K d.at_) fd) : FnOk P w K mg base CX0 (2 * j + 4) (fAd K d.at_) fd [x] (spL K n) := by
  have fk := fnk_all st says kin ns xi bn ok (P := P) (w := w) j
  obtain ⟨o1, o2⟩ := ba o
  have sc := scB_ok o1
  rw [← hx]
  refine FunD.ok (k := 2 * j + 3) fD sc (fun vs H Q E h => ?_) (fun cdv A outer s H vs Q E hr h => ⟨_, fx_of st says kin ns fk xi o (Wx := W0) takes0 hr (by omega), ?_⟩)
  · obtain ⟨a, l, rfl, _⟩ := h
    rw [hx]
    rfl
  · obtain ⟨a, l, rfl, hl, hS, hQ⟩ := h
    obtain ⟨M, hR⟩ := hL l hl
    have hsz : l.length ≤ sizeLine := by rw [sizeLine_eq]; omega
    let W : Wd := ⟨H, fun _ => 0, none, fun _ => none⟩
    have sh : SH (Z.T K) W [] H := ⟨fun _ _ e => e, fun n c e => by simp at e, fun n c e => by simp at e, fun n m c c' e => by simp at e, fun n c e => by simp at e, fun a o e => (nomatch e), fun n c e => by simp at e⟩
    have rl : RL (Z.T K) W 0 [.scr l] [.ref a] := ⟨⟨_, _, rfl, ⟨a, rfl, hS, hsz⟩, by rw [Reps]⟩, rfl⟩
    refine ⟨W, env0 g.N.length [.scr l], [], ⟨sh, env0_start rl rfl, rfl⟩, ?_⟩
    unfold run at hR
    have hG : Z.G.fn f = some ⟨g.ps.length, g.N.length, g.b⟩ := by show (Z.fd[f]?).map _ = _; rw [hg]; rfl
    rw [hG] at hR
    simp only at hR
    split at hR
    · unfold fin gc at hR
      have C1 : Z.G.cfg (run Z.G j) = Z.C (run Z.G j) := rfl
      rw [C1] at hR
      cases z : sxs (Z.C (run Z.G j)) g.b (env0 g.N.length [.scr l]) [] with
      | rt d' M' =>
        rw [z] at hR
        simp only at hR
        have : d' = .bl true := by
          split at hR
          · cases hR; rfl
          · cases hR; rfl
        subst this
        intro W' v H' s' r'
        cases r'.1
        exact hQ H'
      | nx _ _ => rw [z] at hR; simp only at hR; split at hR <;> cases hR
      | ex _ _ _ => rw [z] at hR; simp only at hR; split at hR <;> cases hR
      | bk _ _ => rw [z] at hR; cases hR
      | ct _ _ => rw [z] at hR; cases hR
      | no => rw [z] at hR; cases hR
    · cases hR
end
end Dv
/-! Own exceptions and plain calls, by a look at the text. -/
namespace Dv
open PySem PySem.Spec PyProof.Rows L2 He
/-- what all such __init__ have -/
def xiS (d : DefD) (ps : List Str) : Bool := (ps.all fun y => decide (d.scope.names.lookup y = some .local) && nmOk y) && (decide ps.Nodup && ((d.scope.names.all fun z => !decide (z.2 = .cell)) && (decide (d.scope.isCoroutine = false) && (decide (d.scope.isGenerator = false) && (decide (d.scope.kind = .function) &&
  (decide (d.scope.names.lookup ("super" : Str) = some .globalImplicit) && decide (d.scope.names.lookup ("__class__" : Str) = some .free)))))))
def xiB (d : DefD) (fs : List Str) : Bool := match d.params, d.body with
  | ⟨[], [a, b], none, [], [], none, []⟩, [.Expr (.Call (.Attribute (.Call (.Name su _) [] [] _) ini p2) [.Constant (.str _) _ _] [] p4) _, .Assign [.Attribute (.Name sf _) f _] (.Name pn _) _] =>
    (decide (su = "super") && (decide (ini = "__init__") && (decide (sf = a.arg) && (decide (pn = b.arg) && (decide (fs = [f]) && (p2.endLine == p4.line)))))) && xiS d [a.arg, b.arg]
  | ⟨[], [a, b, c], none, [], [], none, []⟩, [.Expr (.Call (.Attribute (.Call (.Name su _) [] [] _) ini p2) [.Constant (.str _) _ _] [] p4) _, .Assign [.Attribute (.Name sf _) f _] (.Name pn _) _, .Assign [.Attribute (.Name sf' _) f' _] (.Name pn' _) _] =>
    (decide (su = "super") && (decide (ini = "__init__") && (decide (sf = a.arg) && (decide (sf' = a.arg) && (decide (pn = b.arg) && (decide (pn' = c.arg) && (decide (f ≠ f') && (decide (fs = [f, f']) && (p2.endLine == p4.line)))))))))  && xiS d [a.arg, b.arg, c.arg]
  | _, _ => false
theorem xiS_ok {d : DefD} {ps : List Str} (h : xiS d ps = true) : ((∀ y ∈ ps, d.scope.names.lookup y = some .local) ∧ ∀ y ∈ ps, (y == ("__debug__" : Str)) = false) ∧ ps.Nodup ∧ (∀ z ∈ d.scope.names, z.2 ≠ .cell) ∧ d.scope.isCoroutine = false ∧ d.scope.isGenerator = false ∧ d.scope.kind = .function ∧ d.scope.names.lookup ("super" : Str) = some .globalImplicit ∧ d.scope.names.lookup ("__class__" : Str) = some .free := by
  obtain ⟨h1, h⟩ := ba h
  obtain ⟨h2, h⟩ := ba h
  obtain ⟨h3, h⟩ := ba h
  obtain ⟨h4, h⟩ := ba h
  obtain ⟨h5, h⟩ := ba h
  obtain ⟨h6, h⟩ := ba h
  obtain ⟨h7, h8⟩ := ba h
  refine ⟨⟨fun y hy => of_decide_eq_true (ba (List.all_eq_true.mp h1 y hy)).1, fun y hy => (nm_ok (ba (List.all_eq_true.mp h1 y hy)).2).1⟩, of_decide_eq_true h2, fun z hz e => ?_, of_decide_eq_true h4, of_decide_eq_true h5, of_decide_eq_true h6, of_decide_eq_true h7, of_decide_eq_true h8⟩
  have := List.all_eq_true.mp h3 z hz
  rw [e] at this
  simp at this
theorem xi_ok {P : Program} {w : World} {K : PySem.W.Frag} {mg : Str → Option Value} {base : Heap} {Z : Sht} {file : Str} (says : SaysX Z file K) (kin : K.In base) (ns : base.Ns mainGlobals mg) (hsup : ("super" : Str) ∈ Z.free) (hfile : ((P.main.file : Str) == file) = true) (top : (P.main.scope.names.lookup ("super" : Str)).isSome = false)
    {i : Nat} {d : DefD} (hm : (i, d) ∈ Z.xin) (h1 : Z.np ≤ i) (h2 : i < Z.cl.length) (c : xiB d (((Z.xfl.lookup i).getD []).map (atnOf Z.ats)) = true)
    (hb : ∀ (kV doc pm cdv ct : Value) (an : Option Addr) (cc : Addr) (us : List Value), us.length = d.params.args.length → bindArgs (PySem.W.ksFn d.name d.qual d.params d.body d.scope .none kV doc pm an cdv ct cc) ⟨us, []⟩ = pure ((d.params.args.map (·.arg)).zip us)) :
    XIni P w K mg (ga K (Z.cn i)) (fAd K d.at_) (((Z.xfl.lookup i).getD []).map (atnOf Z.ats)) := by
  obtain ⟨j, hj⟩ := List.mem_iff_getElem?.mp hm
  obtain ⟨x1, x2, x3, x4⟩ := says.xin_ hj
  obtain ⟨y1, _, _, y4⟩ := says.exc h1 h2
  have hgs : mg ("super" : Str) = none := says.free kin ns hsup
  have y4' : ∀ f ∈ ((Z.xfl.lookup i).getD []).map (atnOf Z.ats), PySem.W.findIn K (.ref (ga K (Z.cn i))) f = some none := fun f hf => by
    obtain ⟨g, hg, rfl⟩ := List.mem_map.mp hf
    exact y4 g hg
  generalize ((Z.xfl.lookup i).getD []).map (atnOf Z.ats) = fs at c y4' ⊢
  unfold xiB at c
  split at c
  · rename_i a b p0 su ini p2 msg j p3 p4 p5 p6 sf q1 f q2 pn q3 q4 e1 e2
    obtain ⟨c1, c2⟩ := ba c
    obtain ⟨k1, c1⟩ := ba c1
    obtain ⟨k2, c1⟩ := ba c1
    obtain ⟨k3, c1⟩ := ba c1
    obtain ⟨k4, c1⟩ := ba c1
    obtain ⟨k5, k6⟩ := ba c1
    obtain ⟨⟨l1, l2⟩, l3, l4, l5, l6, l7, l8, l9⟩ := xiS_ok c2
    cases of_decide_eq_true k1
    cases of_decide_eq_true k2
    cases of_decide_eq_true k3
    cases of_decide_eq_true k4
    cases of_decide_eq_true k5
    rw [e1] at hb
    obtain ⟨cda, cc, F⟩ := xfn_ok (P := P) (file := file) (ps := [a.arg, b.arg]) x1 x2 hfile top (by rw [e1]; exact hb) e2 (by rw [e1]; rfl) rfl k6 l1 l3 l4 l5 l6 l7 l8 l9
    exact xini1 y1 hgs F (l2 _ (by simp)) (l2 _ (by simp)) (y4' f (by simp))
  · rename_i a b c' p0 su ini p2 msg j p3 p4 p5 p6 sf q1 f q2 pn q3 q4 sf' r1 f' r2 pn' r3 r4 e1 e2
    obtain ⟨c1, c2⟩ := ba c
    obtain ⟨k1, c1⟩ := ba c1
    obtain ⟨k2, c1⟩ := ba c1
    obtain ⟨k3, c1⟩ := ba c1
    obtain ⟨k4, c1⟩ := ba c1
    obtain ⟨k5, c1⟩ := ba c1
    obtain ⟨k6, c1⟩ := ba c1
    obtain ⟨k7, c1⟩ := ba c1
    obtain ⟨k8, k9⟩ := ba c1
    obtain ⟨⟨l1, l2⟩, l3, l4, l5, l6, l7, l8, l9⟩ := xiS_ok c2
    cases of_decide_eq_true k1
    cases of_decide_eq_true k2
    cases of_decide_eq_true k3
    cases of_decide_eq_true k4
    cases of_decide_eq_true k5
    cases of_decide_eq_true k6
    cases of_decide_eq_true k8
    rw [e1] at hb
    obtain ⟨cda, cc, F⟩ := xfn_ok (P := P) (file := file) (ps := [a.arg, b.arg, c'.arg]) x1 x2 hfile top (by rw [e1]; exact hb) e2 (by rw [e1]; rfl) rfl k9 l1 l3 l4 l5 l6 l7 l8 l9
    exact xini2 y1 hgs F (l2 _ (by simp)) (l2 _ (by simp)) (l2 _ (by simp)) (of_decide_eq_true k7) (y4' f (by simp)) (y4' f' (by simp))
  · cases c
end Dv
/-! The evaluator's rows without lambdas: simp goes from the inside out. -/
namespace Dv
open PySem
def kV : Option (Option D) → Store → Rs D
  | some (some d), M => .ok d M
  | _, _ => .no
def kTup (r : Rs (List D)) : Rs D := r.bind fun ds M' => if ds.length ≤ big then .ok (.tup ds) M' else .no
def kLst (r : Rs (List D)) (b : Bool) : Rs D := r.bind fun ds M' => if ds.length ≤ big then newL b ds M' else .no
def kB2 (r : Rs D) (o : BOp) (x : D) : Rs D := r.bind fun y M2 => Rs.of (bin o M2 x y) M2
def kB1 (r : Rs D) (o : BOp) (C : Cfg) (b : E) (ρ : Env) : Rs D := r.bind fun x M1 => kB2 (ev C b ρ M1) o x
def kNeg (r : Rs D) : Rs D := r.bind fun x M1 => match x with
  | .int i => .ok (.int (-i)) M1
  | _ => .no
def kT (r : Rs D) : Rs Bool := r.bind fun d M => Rs.of (truth M d) M
def kNot (r : Rs Bool) : Rs D := r.bind fun b M1 => .ok (.bl (!b)) M1
def kAnd2 (t : Option Bool) (d : D) (C : Cfg) (es : Es) (ρ : Env) (M : Store) : Rs D := match t with
  | some true => ev C (.and es) ρ M
  | some false => .ok d M
  | none => .no
def kAnd (r : Rs D) (C : Cfg) (es : Es) (ρ : Env) : Rs D := r.bind fun d M1 => kAnd2 (truth M1 d) d C es ρ M1
def kOr2 (t : Option Bool) (d : D) (C : Cfg) (es : Es) (ρ : Env) (M : Store) : Rs D := match t with
  | some false => ev C (.or es) ρ M
  | some true => .ok d M
  | none => .no
def kOr (r : Rs D) (C : Cfg) (es : Es) (ρ : Env) : Rs D := r.bind fun d M1 => kOr2 (truth M1 d) d C es ρ M1
def kC2 (r : Rs D) (o : COp) (x : D) (C : Cfg) : Rs D := r.bind fun y M2 => cmpR C o x y M2
def kC1 (r : Rs D) (o : COp) (C : Cfg) (b : E) (ρ : Env) : Rs D := r.bind fun x M1 => kC2 (ev C b ρ M1) o x C
def kD4 (r : Rs D) (p : COp) (y : D) (C : Cfg) : Rs D := r.bind fun w M4 => cmpR C p y w M4
def kD3 (r : Rs D) (p : COp) (y : D) (C : Cfg) (c : E) (ρ : Env) : Rs D := r.bind fun z M3 => match z with
  | .bl true => kD4 (ev C c ρ M3) p y C
  | .bl false => .ok (.bl false) M3
  | _ => .no
def kD2 (r : Rs D) (o p : COp) (x : D) (C : Cfg) (c : E) (ρ : Env) : Rs D := r.bind fun y M2 => kD3 (cmpR C o x y M2) p y C c ρ
def kD1 (r : Rs D) (o p : COp) (C : Cfg) (b c : E) (ρ : Env) : Rs D := r.bind fun x M1 => kD2 (ev C b ρ M1) o p x C c ρ
def kI (r : Rs Bool) (C : Cfg) (a b : E) (ρ : Env) : Rs D := r.bind fun t M1 => if t then ev C a ρ M1 else ev C b ρ M1
def kX2 (r : Rs D) (x : D) : Rs D := r.bind fun y M2 => Rs.of (ixD M2 x y) M2
def kX1 (r : Rs D) (C : Cfg) (i : E) (ρ : Env) : Rs D := r.bind fun x M1 => kX2 (ev C i ρ M1) x
def kS3 (r : Rs (Option Int)) (x : D) (l : Option Int) : Rs D := r.bind fun h M3 => Rs.of (slD M3 x l h) M3
def kS2 (r : Rs (Option Int)) (x : D) (C : Cfg) (hi : Es) (ρ : Env) : Rs D := r.bind fun l M2 => kS3 (evO C hi ρ M2) x l
def kS1 (r : Rs D) (C : Cfg) (lo hi : Es) (ρ : Env) : Rs D := r.bind fun x M1 => kS2 (evO C lo ρ M1) x C hi ρ
def kO (r : Rs D) : Rs (Option Int) := r.bind fun d M1 => match d with
  | .int i => .ok (some i) M1
  | _ => .no
def kA2 (r : Rs (List D)) (C : Cfg) (f sh : Nat) (ds : List D) : Rs D := r.bind fun zs M2 => if ds.length = (C.shp sh).n ∧ zs.length = (C.shp sh).m then callG C f sh (ds ++ zs) M2 else .no
def kA1 (r : Rs (List D)) (C : Cfg) (f sh : Nat) (ks : Es) (ρ : Env) : Rs D := r.bind fun ds M1 => kA2 (evs C ks ρ M1) C f sh ds
def kM2 (r : Rs (List D)) (C : Cfg) (c sh : Nat) (ds : List D) : Rs D := r.bind fun zs M2 => if ds.length + 1 = (C.shp sh).n ∧ zs.length = (C.shp sh).m then make C c sh (ds ++ zs) M2 else .no
def kM1 (r : Rs (List D)) (C : Cfg) (c sh : Nat) (ks : Es) (ρ : Env) : Rs D := r.bind fun ds M1 => kM2 (evs C ks ρ M1) C c sh ds
def kBi (r : Rs (List D)) (b : Bi) : Rs D := r.bind fun ds M1 => biD b M1 ds
def kBm3 (r : Rs (List D)) (m : Bm) (x : D) : Rs D := r.bind fun ds M2 => bmD m M2 x ds
def kBm2 (t : Bool) (C : Cfg) (m : Bm) (es : Es) (ρ : Env) (x : D) (M : Store) : Rs D := if t then kBm3 (evs C es ρ M) m x else .no
def kBm1 (r : Rs D) (C : Cfg) (m : Bm) (es : Es) (ρ : Env) : Rs D := r.bind fun x M1 => kBm2 (recvOk m M1 x) C m es ρ x M1
def kAt (r : Rs D) (C : Cfg) (f : Nat) : Rs D := r.bind fun x M1 => Rs.of (attrD C.exk M1 x f) M1
def kIs (r : Rs D) (C : Cfg) (ts : List Ty) : Rs D := r.bind fun x M1 => Rs.of ((isiD C.cok C.sub M1 x ts).map .bl) M1
def kE2 (r : Rs (List D)) (d : D) : Rs (List D) := r.bind fun ds M2 => .ok (d :: ds) M2
def kE1 (r : Rs D) (C : Cfg) (es : Es) (ρ : Env) : Rs (List D) := r.bind fun d M1 => kE2 (evs C es ρ M1) d
def kF2 (r : Rs (List D)) (xs : List D) : Rs (List D) := r.bind fun ds M2 => .ok (xs ++ ds) M2
def kF1 (r : Rs D) (C : Cfg) (es : Es) (ρ : Env) : Rs (List D) := r.bind fun d M1 => match seqOf M1 d with
  | some xs => kF2 (evs C es ρ M1) xs
  | none => .no
/-! ### rows -/
section
variable {C : Cfg} {ρ : Env} {M : Store} {d : D} {a b c : E} {es ks : Es}
theorem q_k : ev C (.k d) ρ M = .ok d M := by simp only [ev] <;> rfl
theorem q_v {i : Nat} : ev C (.v i) ρ M = kV ρ[i]? M := by
  simp only [ev, kV]
  split <;> simp_all
theorem q_g {i : Nat} : ev C (.g i) ρ M = Rs.of (C.glob i) M := by simp only [ev] <;> rfl
theorem q_tup : ev C (.tup es) ρ M = kTup (evs C es ρ M) := by simp only [ev, kTup] <;> rfl
theorem q_lst {r : Bool} : ev C (.lst r es) ρ M = kLst (evs C es ρ M) r := by simp only [ev, kLst] <;> rfl
theorem q_bin {o : BOp} : ev C (.bin o a b) ρ M = kB1 (ev C a ρ M) o C b ρ := by simp only [ev, kB1, kB2] <;> rfl
theorem q_neg : ev C (.neg a) ρ M = kNeg (ev C a ρ M) := by simp only [ev, kNeg] <;> rfl
theorem q_evT : evT C a ρ M = kT (ev C a ρ M) := by simp only [evT, kT] <;> rfl
theorem q_not : ev C (.not a) ρ M = kNot (evT C a ρ M) := by simp only [ev, kNot, evT] <;> rfl
theorem q_and1 : ev C (.and (.cons a .nil)) ρ M = ev C a ρ M := by simp only [ev, evAnd] <;> rfl
theorem q_and {es : Es} : ev C (.and (.cons a (.cons b es))) ρ M = kAnd (ev C a ρ M) C (.cons b es) ρ := by
  simp only [ev, evAnd, kAnd] <;> congr 1
theorem q_or1 : ev C (.or (.cons a .nil)) ρ M = ev C a ρ M := by simp only [ev, evOr] <;> rfl
theorem q_or {es : Es} : ev C (.or (.cons a (.cons b es))) ρ M = kOr (ev C a ρ M) C (.cons b es) ρ := by
  simp only [ev, evOr, kOr] <;> congr 1
theorem q_cmp {o : COp} : ev C (.cmp o a b) ρ M = kC1 (ev C a ρ M) o C b ρ := by simp only [ev, kC1, kC2] <;> rfl
theorem q_cmp2 {o p : COp} : ev C (.cmp2 o p a b c) ρ M = kD1 (ev C a ρ M) o p C b c ρ := by
  simp only [ev, kD1, kD2, kD3, kD4] <;> congr 1
theorem q_ite : ev C (.ite c a b) ρ M = kI (evT C c ρ M) C a b ρ := by simp only [ev, kI, evT] <;> rfl
theorem q_ix : ev C (.ix a b) ρ M = kX1 (ev C a ρ M) C b ρ := by simp only [ev, kX1, kX2] <;> rfl
theorem q_sl {lo hi : Es} : ev C (.sl a lo hi) ρ M = kS1 (ev C a ρ M) C lo hi ρ := by simp only [ev, kS1, kS2, kS3] <;> rfl
theorem q_o0 : evO C .nil ρ M = .ok none M := by simp only [evO] <;> rfl
theorem q_o1 : evO C (.cons a .nil) ρ M = kO (ev C a ρ M) := by simp only [evO, kO] <;> rfl
theorem q_call {f sh : Nat} : ev C (.call f sh es ks) ρ M = kA1 (evs C es ρ M) C f sh ks ρ := by simp only [ev, kA1, kA2] <;> rfl
theorem q_mk {f sh : Nat} : ev C (.mk f sh es ks) ρ M = kM1 (evs C es ρ M) C f sh ks ρ := by simp only [ev, kM1, kM2] <;> rfl
theorem q_bi {f : Bi} : ev C (.bi f es) ρ M = kBi (evs C es ρ M) f := by simp only [ev, kBi] <;> rfl
theorem q_bm {m : Bm} : ev C (.bm m a es) ρ M = kBm1 (ev C a ρ M) C m es ρ := by simp only [ev, kBm1, kBm2, kBm3] <;> rfl
theorem q_attr {f : Nat} : ev C (.attr a f) ρ M = kAt (ev C a ρ M) C f := by simp only [ev, kAt] <;> rfl
theorem q_isi {ts : List Ty} : ev C (.isi a ts) ρ M = kIs (ev C a ρ M) C ts := by simp only [ev, kIs] <;> rfl
theorem q_e0 : evs C .nil ρ M = .ok [] M := by simp only [evs] <;> rfl
theorem q_e1 : evs C (.cons a es) ρ M = kE1 (ev C a ρ M) C es ρ := by simp only [evs, kE1, kE2] <;> rfl
theorem q_e2 : evs C (.star a es) ρ M = kF1 (ev C a ρ M) C es ρ := by simp only [evs, kF1, kF2] <;> rfl
end
/-! ### their ends -/
section
variable {C : Cfg} {ρ : Env} {M : Store} {d x y : D} {a b c : E} {es ks : Es} {z : Exn} {ds zs : List D} {o p : COp} {ob : BOp}
theorem k_v : kV (some (some d)) M = .ok d M := rfl
theorem k_of {α : Type} {v : α} : Rs.of (some v) M = .ok v M := rfl
theorem k_tup : kTup (.ok ds M) = if ds.length ≤ big then .ok (.tup ds) M else .no := rfl
theorem k_tupX : kTup (.ex z M) = .ex z M := rfl
theorem k_lst {r : Bool} : kLst (.ok ds M) r = if ds.length ≤ big then newL r ds M else .no := rfl
theorem k_lstX {r : Bool} : kLst (.ex z M) r = .ex z M := rfl
theorem k_b1 : kB1 (.ok x M) ob C b ρ = kB2 (ev C b ρ M) ob x := rfl
theorem k_b1X : kB1 (.ex z M) ob C b ρ = .ex z M := rfl
theorem k_b2 : kB2 (.ok y M) ob x = Rs.of (bin ob M x y) M := rfl
theorem k_b2X : kB2 (.ex z M) ob x = .ex z M := rfl
theorem k_neg {i : Int} : kNeg (.ok (.int i) M) = .ok (.int (-i)) M := rfl
theorem k_t : kT (.ok d M) = Rs.of (truth M d) M := rfl
theorem k_tX : kT (.ex z M) = .ex z M := rfl
theorem k_not {t : Bool} : kNot (.ok t M) = .ok (.bl (!t)) M := rfl
theorem k_notX : kNot (.ex z M) = .ex z M := rfl
theorem k_and : kAnd (.ok d M) C es ρ = kAnd2 (truth M d) d C es ρ M := rfl
theorem k_andX : kAnd (.ex z M) C es ρ = .ex z M := rfl
theorem k_andT : kAnd2 (some true) d C es ρ M = ev C (.and es) ρ M := rfl
theorem k_andF : kAnd2 (some false) d C es ρ M = .ok d M := rfl
theorem k_or : kOr (.ok d M) C es ρ = kOr2 (truth M d) d C es ρ M := rfl
theorem k_orX : kOr (.ex z M) C es ρ = .ex z M := rfl
theorem k_orT : kOr2 (some true) d C es ρ M = .ok d M := rfl
theorem k_orF : kOr2 (some false) d C es ρ M = ev C (.or es) ρ M := rfl
theorem k_c1 : kC1 (.ok x M) o C b ρ = kC2 (ev C b ρ M) o x C := rfl
theorem k_c1X : kC1 (.ex z M) o C b ρ = .ex z M := rfl
theorem k_c2 : kC2 (.ok y M) o x C = cmpR C o x y M := rfl
theorem k_c2X : kC2 (.ex z M) o x C = .ex z M := rfl
theorem k_d1 : kD1 (.ok x M) o p C b c ρ = kD2 (ev C b ρ M) o p x C c ρ := rfl
theorem k_d2 : kD2 (.ok y M) o p x C c ρ = kD3 (cmpR C o x y M) p y C c ρ := rfl
theorem k_d3T : kD3 (.ok (.bl true) M) p y C c ρ = kD4 (ev C c ρ M) p y C := rfl
theorem k_d3F : kD3 (.ok (.bl false) M) p y C c ρ = .ok (.bl false) M := rfl
theorem k_d4 : kD4 (.ok x M) p y C = cmpR C p y x M := rfl
theorem k_iT : kI (.ok true M) C a b ρ = ev C a ρ M := rfl
theorem k_iF : kI (.ok false M) C a b ρ = ev C b ρ M := rfl
theorem k_iX : kI (.ex z M) C a b ρ = .ex z M := rfl
theorem k_x1 : kX1 (.ok x M) C b ρ = kX2 (ev C b ρ M) x := rfl
theorem k_x1X : kX1 (.ex z M) C b ρ = .ex z M := rfl
theorem k_x2 : kX2 (.ok y M) x = Rs.of (ixD M x y) M := rfl
theorem k_x2X : kX2 (.ex z M) x = .ex z M := rfl
theorem k_s1 {lo hi : Es} : kS1 (.ok x M) C lo hi ρ = kS2 (evO C lo ρ M) x C hi ρ := rfl
theorem k_s2 {l : Option Int} {hi : Es} : kS2 (.ok l M) x C hi ρ = kS3 (evO C hi ρ M) x l := rfl
theorem k_s3 {l h : Option Int} : kS3 (.ok h M) x l = Rs.of (slD M x l h) M := rfl
theorem k_o {i : Int} : kO (.ok (.int i) M) = .ok (some i) M := rfl
theorem k_a1 {f sh : Nat} : kA1 (.ok ds M) C f sh ks ρ = kA2 (evs C ks ρ M) C f sh ds := rfl
theorem k_a1X {f sh : Nat} : kA1 (.ex z M) C f sh ks ρ = .ex z M := rfl
theorem k_a2 {f sh : Nat} : kA2 (.ok zs M) C f sh ds = if ds.length = (C.shp sh).n ∧ zs.length = (C.shp sh).m then callG C f sh (ds ++ zs) M else .no := rfl
theorem k_a2X {f sh : Nat} : kA2 (.ex z M) C f sh ds = .ex z M := rfl
theorem k_m1 {f sh : Nat} : kM1 (.ok ds M) C f sh ks ρ = kM2 (evs C ks ρ M) C f sh ds := rfl
theorem k_m1X {f sh : Nat} : kM1 (.ex z M) C f sh ks ρ = .ex z M := rfl
theorem k_m2 {f sh : Nat} : kM2 (.ok zs M) C f sh ds = if ds.length + 1 = (C.shp sh).n ∧ zs.length = (C.shp sh).m then make C f sh (ds ++ zs) M else .no := rfl
theorem k_m2X {f sh : Nat} : kM2 (.ex z M) C f sh ds = .ex z M := rfl
theorem k_bi {f : Bi} : kBi (.ok ds M) f = biD f M ds := rfl
theorem k_biX {f : Bi} : kBi (.ex z M) f = .ex z M := rfl
theorem k_bm1 {m : Bm} : kBm1 (.ok x M) C m es ρ = kBm2 (recvOk m M x) C m es ρ x M := rfl
theorem k_bm1X {m : Bm} : kBm1 (.ex z M) C m es ρ = .ex z M := rfl
theorem k_bm2 {m : Bm} : kBm2 true C m es ρ x M = kBm3 (evs C es ρ M) m x := rfl
theorem k_bm3 {m : Bm} : kBm3 (.ok ds M) m x = bmD m M x ds := rfl
theorem k_bm3X {m : Bm} : kBm3 (.ex z M) m x = .ex z M := rfl
theorem k_at {f : Nat} : kAt (.ok x M) C f = Rs.of (attrD C.exk M x f) M := rfl
theorem k_atX {f : Nat} : kAt (.ex z M) C f = .ex z M := rfl
theorem k_is {ts : List Ty} : kIs (.ok x M) C ts = Rs.of ((isiD C.cok C.sub M x ts).map .bl) M := rfl
theorem k_isX {ts : List Ty} : kIs (.ex z M) C ts = .ex z M := rfl
theorem k_e1 : kE1 (.ok d M) C es ρ = kE2 (evs C es ρ M) d := rfl
theorem k_e1X : kE1 (.ex z M) C es ρ = .ex z M := rfl
theorem k_e2 : kE2 (.ok ds M) d = .ok (d :: ds) M := rfl
theorem k_e2X : kE2 (.ex z M) d = .ex z M := rfl
theorem k_f1 {xs : List D} (h : seqOf M d = some xs) : kF1 (.ok d M) C es ρ = kF2 (evs C es ρ M) xs := by
  show (match seqOf M d with
    | some xs => kF2 (evs C es ρ M) xs
    | none => .no) = _
  rw [h]
theorem k_f2 {xs : List D} : kF2 (.ok ds M) xs = .ok (xs ++ ds) M := rfl
end
/-! ### statements -/
def kSq (r : Fl) (C : Cfg) (ss : Ss) : Fl := r.seq fun ρ1 M1 => sxs C ss ρ1 M1
def kSet2 (o : Option Env) (M : Store) : Fl := match o with
  | some ρ' => .nx ρ' M
  | none => .no
def kSet (r : Rs D) (tg : Tg) (ρ : Env) : Fl := r.fl ρ fun d M1 => kSet2 (bindT tg d ρ) M1
def kP2 (r : Rs D) (i j : Nat) (x : D) (ρ : Env) : Fl := r.fl ρ fun y M2 => if i < ρ.length ∧ j < ρ.length ∧ i ≠ j then .nx ((ρ.set i (some x)).set j (some y)) M2 else .no
def kP1 (r : Rs D) (i j : Nat) (C : Cfg) (b : E) (ρ : Env) : Fl := r.fl ρ fun x M1 => kP2 (ev C b ρ M1) i j x ρ
def kU4 (o : Option Store) (ρ : Env) : Fl := match o with
  | some M4 => .nx ρ M4
  | none => .no
def kU3 (r : Rs D) (d x : D) (ρ : Env) : Fl := r.fl ρ fun y M3 => kU4 (setD M3 x y d) ρ
def kU2 (r : Rs D) (d : D) (C : Cfg) (i : E) (ρ : Env) : Fl := r.fl ρ fun x M2 => kU3 (ev C i ρ M2) d x ρ
def kU1 (r : Rs D) (C : Cfg) (o i : E) (ρ : Env) : Fl := r.fl ρ fun d M1 => kU2 (ev C o ρ M1) d C i ρ
def kW2 (r : Rs D) (f : Nat) (d : D) (C : Cfg) (ρ : Env) : Fl := r.fl ρ fun x M2 => kU4 (fldD C.fok M2 x f d) ρ
def kW1 (r : Rs D) (f : Nat) (C : Cfg) (o : E) (ρ : Env) : Fl := r.fl ρ fun d M1 => kW2 (ev C o ρ M1) f d C ρ
def kEx (r : Rs D) (ρ : Env) : Fl := r.fl ρ fun _ M1 => .nx ρ M1
def kRf (r : Rs D) (ρ : Env) : Fl := r.fl ρ fun d' M2 => .rt d' M2
def kR (r : Rs D) (z : Bool) (ρ : Env) : Fl := r.fl ρ fun d M1 => if z then kRf (freeze d M1) ρ else .rt d M1
def kIf (r : Rs Bool) (C : Cfg) (a b : Ss) (ρ : Env) : Fl := r.fl ρ fun t M1 => if t then sxs C a ρ M1 else sxs C b ρ M1
def kRs (r : Rs (List D)) (c : Nat) (C : Cfg) (ρ : Env) : Fl := r.fl ρ fun ds M1 => if (C.exf c).length = ds.length then .ex ⟨c, C.exf c, ds⟩ ρ M1 else .no
def kAg (r : Rs D) (i : Nat) (o : BOp) (x : D) (ρ : Env) : Fl := r.fl ρ fun y M1 => match x, y with
  | .int a, .int b => match o with
    | .add => .nx (ρ.set i (some (.int (a + b)))) M1
    | .sub => .nx (ρ.set i (some (.int (a - b)))) M1
    | _ => .no
  | _, _ => .no
section
variable {C : Cfg} {ρ : Env} {M : Store} {d x y : D} {a b c e : E} {es ks : Es} {z : Exn} {ds zs : List D}
theorem q_ss0 : sxs C .nil ρ M = .nx ρ M := by simp only [sxs] <;> rfl
theorem q_ss1 {s : S} {ss : Ss} : sxs C (.cons s ss) ρ M = kSq (sx C s ρ M) C ss := by simp only [sxs, kSq] <;> rfl
theorem k_sq {ss : Ss} : kSq (.nx ρ M) C ss = sxs C ss ρ M := rfl
theorem k_sqR {ss : Ss} : kSq (.rt d M) C ss = .rt d M := rfl
theorem k_sqX {ss : Ss} : kSq (.ex z ρ M) C ss = .ex z ρ M := rfl
theorem k_sqB {ss : Ss} : kSq (.bk ρ M) C ss = .bk ρ M := rfl
theorem k_sqC {ss : Ss} : kSq (.ct ρ M) C ss = .ct ρ M := rfl
theorem q_set {tg : Tg} : sx C (.set tg e) ρ M = kSet (ev C e ρ M) tg ρ := by simp only [sx, kSet, kSet2] <;> rfl
theorem k_set {tg : Tg} : kSet (.ok d M) tg ρ = kSet2 (bindT tg d ρ) M := rfl
theorem k_setX {tg : Tg} : kSet (.ex z M) tg ρ = .ex z ρ M := rfl
theorem k_set2 : kSet2 (some ρ) M = .nx ρ M := rfl
theorem q_par {i j : Nat} : sx C (.par i j a b) ρ M = kP1 (ev C a ρ M) i j C b ρ := by simp only [sx, kP1, kP2] <;> rfl
theorem k_p1 {i j : Nat} : kP1 (.ok x M) i j C b ρ = kP2 (ev C b ρ M) i j x ρ := rfl
theorem k_p1X {i j : Nat} : kP1 (.ex z M) i j C b ρ = .ex z ρ M := rfl
theorem k_p2 {i j : Nat} : kP2 (.ok y M) i j x ρ = if i < ρ.length ∧ j < ρ.length ∧ i ≠ j then .nx ((ρ.set i (some x)).set j (some y)) M else .no := rfl
theorem k_p2X {i j : Nat} : kP2 (.ex z M) i j x ρ = .ex z ρ M := rfl
theorem q_sub : sx C (.sub a b e) ρ M = kU1 (ev C e ρ M) C a b ρ := by simp only [sx, kU1, kU2, kU3, kU4] <;> rfl
theorem k_u1 : kU1 (.ok d M) C a b ρ = kU2 (ev C a ρ M) d C b ρ := rfl
theorem k_u1X : kU1 (.ex z M) C a b ρ = .ex z ρ M := rfl
theorem k_u2 : kU2 (.ok x M) d C b ρ = kU3 (ev C b ρ M) d x ρ := rfl
theorem k_u3 : kU3 (.ok y M) d x ρ = kU4 (setD M x y d) ρ := rfl
theorem k_u4 : kU4 (some M) ρ = .nx ρ M := rfl
theorem q_fld {f : Nat} : sx C (.fld a f e) ρ M = kW1 (ev C e ρ M) f C a ρ := by simp only [sx, kW1, kW2, kU4] <;> rfl
theorem k_w1 {f : Nat} : kW1 (.ok d M) f C a ρ = kW2 (ev C a ρ M) f d C ρ := rfl
theorem k_w1X {f : Nat} : kW1 (.ex z M) f C a ρ = .ex z ρ M := rfl
theorem k_w2 {f : Nat} : kW2 (.ok x M) f d C ρ = kU4 (fldD C.fok M x f d) ρ := rfl
theorem q_ex : sx C (.ex e) ρ M = kEx (ev C e ρ M) ρ := by simp only [sx, kEx] <;> rfl
theorem k_ex : kEx (.ok d M) ρ = .nx ρ M := rfl
theorem k_exX : kEx (.ex z M) ρ = .ex z ρ M := rfl
theorem q_ret {t : Bool} : sx C (.ret t e) ρ M = kR (ev C e ρ M) t ρ := by simp only [sx, kR, kRf] <;> rfl
theorem k_rF : kR (.ok d M) false ρ = .rt d M := rfl
theorem k_rT : kR (.ok d M) true ρ = kRf (freeze d M) ρ := rfl
theorem k_rX {t : Bool} : kR (.ex z M) t ρ = .ex z ρ M := rfl
theorem k_rf : kRf (.ok d M) ρ = .rt d M := rfl
theorem q_retN : sx C .retN ρ M = .rt .non M := by simp only [sx] <;> rfl
theorem q_if {s t : Ss} : sx C (.ite c s t) ρ M = kIf (evT C c ρ M) C s t ρ := by simp only [sx, kIf] <;> rfl
theorem k_ifT {s t : Ss} : kIf (.ok true M) C s t ρ = sxs C s ρ M := rfl
theorem k_ifF {s t : Ss} : kIf (.ok false M) C s t ρ = sxs C t ρ M := rfl
theorem k_ifX {s t : Ss} : kIf (.ex z M) C s t ρ = .ex z ρ M := rfl
theorem q_raise {n : Nat} : sx C (.raise n es) ρ M = kRs (evs C es ρ M) n C ρ := by simp only [sx, kRs] <;> rfl
theorem k_rs {n : Nat} : kRs (.ok ds M) n C ρ = if (C.exf n).length = ds.length then .ex ⟨n, C.exf n, ds⟩ ρ M else .no := rfl
theorem q_aug {i : Nat} {o : BOp} (h : ρ[i]? = some (some x)) : sx C (.aug i o e) ρ M = kAg (ev C e ρ M) i o x ρ := by
  simp only [sx, h, kAg] <;> congr 1
theorem k_agA {i : Nat} {m n : Int} : kAg (.ok (.int n) M) i .add (.int m) ρ = .nx (ρ.set i (some (.int (m + n)))) M := rfl
theorem k_agS {i : Nat} {m n : Int} : kAg (.ok (.int n) M) i .sub (.int m) ρ = .nx (ρ.set i (some (.int (m - n)))) M := rfl
theorem q_pass : sx C .pass ρ M = .nx ρ M := by simp only [sx] <;> rfl
theorem q_brk : sx C .brk ρ M = .bk ρ M := by simp only [sx] <;> rfl
theorem q_cont : sx C .cont ρ M = .ct ρ M := by simp only [sx] <;> rfl
end
end Dv
/-! Plain lemmas about the evaluator. -/
namespace Dv
open PySem
/-! ### one step behind another -/
theorem bind_ok {α β : Type} {a : α} {M : Store} {f : α → Store → Rs β} : (Rs.ok a M).bind f = f a M := rfl
theorem bind_ex {α β : Type} {x : Exn} {M : Store} {f : α → Store → Rs β} : (Rs.ex x M : Rs α).bind f = .ex x M := rfl
theorem fl_ok {α : Type} {a : α} {M : Store} {ρ : Env} {f : α → Store → Fl} : (Rs.ok a M).fl ρ f = f a M := rfl
theorem fl_ex {α : Type} {x : Exn} {M : Store} {ρ : Env} {f : α → Store → Fl} : (Rs.ex x M : Rs α).fl ρ f = .ex x ρ M := rfl
theorem seq_nx {ρ : Env} {M : Store} {f : Env → Store → Fl} : (Fl.nx ρ M).seq f = f ρ M := rfl
theorem seq_rt {d : D} {M : Store} {f : Env → Store → Fl} : (Fl.rt d M).seq f = .rt d M := rfl
theorem seq_ex {x : Exn} {ρ : Env} {M : Store} {f : Env → Store → Fl} : (Fl.ex x ρ M).seq f = .ex x ρ M := rfl
theorem of_some {α : Type} {a : α} {M : Store} : Rs.of (some a) M = .ok a M := rfl
theorem sxs_nx {C : Cfg} {s : S} {ss : Ss} {ρ ρ1 : Env} {M M1 : Store} (h : sx C s ρ M = .nx ρ1 M1) : sxs C (.cons s ss) ρ M = sxs C ss ρ1 M1 := by
  simp only [sxs, h, seq_nx]
theorem sxs_rt {C : Cfg} {s : S} {ss : Ss} {ρ : Env} {d : D} {M M1 : Store} (h : sx C s ρ M = .rt d M1) : sxs C (.cons s ss) ρ M = .rt d M1 := by
  simp only [sxs, h, seq_rt]
theorem sxs_ex {C : Cfg} {s : S} {ss : Ss} {ρ ρ1 : Env} {x : Exn} {M M1 : Store} (h : sx C s ρ M = .ex x ρ1 M1) : sxs C (.cons s ss) ρ M = .ex x ρ1 M1 := by
  simp only [sxs, h, seq_ex]
/-- a call's start -/
theorem run_eq {G : Prg} {f : Nat} {F : Fn} {k : Nat} {ds : List D} {M : Store} (hG : G.fn f = some F) (h : ds.length = F.np ∧ F.np ≤ F.ns) : run G (k + 1) f ds M = fin M (sxs (G.cfg (run G k)) F.body (env0 F.ns ds) M) := by
  simp only [run, hG, if_pos h]
theorem fin_rt {M M' : Store} {d : D} : fin M (.rt d M') = gc M (.ok d M') := rfl
theorem fin_nx {M M' : Store} {ρ : Env} : fin M (.nx ρ M') = gc M (.ok .non M') := rfl
theorem fin_ex {M M' : Store} {ρ : Env} {x : Exn} : fin M (.ex x ρ M') = gc M (.ex x M') := rfl
/-! ### small lists -/
theorem at0 {α : Type} (x : α) (l : List α) : L2.atI (x :: l) 0 = some x := by
  simp [L2.atI, L2.ixN]
theorem at1 {α : Type} (x y : α) (l : List α) : L2.atI (x :: y :: l) 1 = some y := by
  have : (1 : Int) < ((l.length : Int) + 1 + 1) := by omega
  simp [L2.atI, L2.ixN, this]
theorem at2 {α : Type} (x y z : α) (l : List α) : L2.atI (x :: y :: z :: l) 2 = some z := by
  have : (2 : Int) < ((l.length : Int) + 1 + 1 + 1) := by omega
  simp [L2.atI, L2.ixN, this]
theorem at3 {α : Type} (x y z u : α) (l : List α) : L2.atI (x :: y :: z :: u :: l) 3 = some u := by
  have : (3 : Int) < ((l.length : Int) + 1 + 1 + 1 + 1) := by omega
  simp [L2.atI, L2.ixN, this]
theorem atN {α : Type} (l : List α) (i : Int) (h0 : 0 ≤ i) (h1 : i < l.length) : L2.atI l i = l[i.toNat]? := by
  simp [L2.atI, L2.ixN, h0, h1]
theorem ix3_0 : L2.ixN 3 0 = some 0 := rfl
theorem ix3_1 : L2.ixN 3 1 = some 1 := rfl
theorem ix3_2 : L2.ixN 3 2 = some 2 := rfl
/-! ### numbers -/
theorem binI_add {i j : Int} : binI .add i j = some (.int (i + j)) := rfl
theorem binI_sub {i j : Int} : binI .sub i j = some (.int (i - j)) := rfl
theorem binI_mod {i j : Int} (h : 0 < j) : binI .mod i j = some (.int (i % j)) := if_pos h
theorem binI_fdiv {i j : Int} (h : 0 < j) (h2 : lg j < 9000) : binI .fdiv i j = some (.int (i / j)) := if_pos ⟨h, h2⟩
theorem binI_mulL {i j : Int} (h : small i = true) : binI .mul i j = some (.int (i * j)) := by
  simp [binI, h]
theorem binI_mulR {i j : Int} (h : small j = true) : binI .mul i j = some (.int (i * j)) := by
  simp [binI, h]
theorem lg_le {i : Int} {e : Nat} (h0 : 0 ≤ i) (h : i < ((2 ^ e : Nat) : Int)) : lg i ≤ e := by
  unfold lg
  by_cases z : i.natAbs = 0
  · rw [z]; simp
  · have : i.natAbs < 2 ^ e := by omega
    have := (Nat.log2_lt z).mpr this
    omega
theorem e200 : ((2 ^ 200 : Nat) : Int) = 1606938044258990275541962092341162602522202993782792835301376 := by decide +kernel
theorem pow_ok {i : Int} {j : Nat} (h0 : 0 ≤ i) (h : i < 1606938044258990275541962092341162602522202993782792835301376) (hj : j ≤ 10) : binI .pow i (j : Int) = some (.int (i ^ j)) := by
  have := lg_le h0 (by rw [e200]; exact h)
  have h1 : (lg i + 1) * j ≤ 201 * 10 := Nat.mul_le_mul (by omega) hj
  have h2 : ((lg i + 1 : Nat) : Int) * (j : Int) = (((lg i + 1) * j : Nat) : Int) := by simp
  have e : (2 : Int) ^ 27 = 134217728 := by decide +kernel
  have h3 : 0 ≤ (j : Int) ∧ ((lg i + 1 : Nat) : Int) * (j : Int) ≤ 2 ^ 27 := ⟨by omega, by rw [h2, e]; omega⟩
  simp only [binI, if_pos h3, Int.toNat_natCast]
theorem pow2 {i : Int} (h0 : 0 ≤ i) (h : i < 1606938044258990275541962092341162602522202993782792835301376) : binI .pow i 2 = some (.int (i ^ 2)) := pow_ok (j := 2) h0 h (by omega)
theorem pow3 {i : Int} (h0 : 0 ≤ i) (h : i < 1606938044258990275541962092341162602522202993782792835301376) : binI .pow i 3 = some (.int (i ^ 3)) := pow_ok (j := 3) h0 h (by omega)
theorem sm_a : small 7368787 = true := by decide +kernel
theorem sm_b : small 15485863 = true := by decide +kernel
theorem sm_c : small 49979687 = true := by decide +kernel
theorem sm_d : small 104729 = true := by decide +kernel
theorem sm_e : small 1000033 = true := by decide +kernel
theorem sm_f : small 32452843 = true := by decide +kernel
theorem sm_g : small 6 = true := by decide +kernel
theorem sm_h : small 3 = true := by decide +kernel
theorem sm_i : small 9973 = true := by decide +kernel
theorem sm_j : small 5 = true := by decide +kernel
theorem sm_k : small 6007 = true := by decide +kernel
theorem lg64 : lg 64 < 9000 := by decide +kernel
theorem lg4096 : lg 4096 < 9000 := by decide +kernel
theorem lg65536 : lg 65536 < 9000 := by decide +kernel
/-! ### stores -/
theorem getq_set_self {M : Store} {n : Nat} {c d : Cell} (h : M[n]? = some d) : (M.set n c)[n]? = some c := List.getElem?_set_self (List.getElem?_eq_some_iff.mp h).1
theorem set_set {M : Store} {n : Nat} {c d : Cell} : (M.set n c).set n d = M.set n d := List.set_set c
theorem gcOk_set {M : Store} {n : Nat} {c : Cell} (h : c.pure = true) : gcOk M (M.set n c) = true := by
  unfold gcOk
  simp only [Bool.and_eq_true, decide_eq_true_eq, List.length_set, Nat.le_refl, true_and, List.all_eq_true, Bool.or_eq_true]
  intro p hp
  obtain ⟨i, hi⟩ := List.mem_iff_getElem?.mp hp
  rw [List.getElem?_zip_eq_some] at hi
  by_cases e : n = i
  · subst e
    have := hi.2
    rw [List.getElem?_set] at this
    split at this
    · split at this
      · cases this
        exact .inr h
      · cases this
    · rename_i q
      exact absurd rfl q
  · have := hi.2
    rw [List.getElem?_set_ne e, hi.1] at this
    exact .inl (Option.some.inj this)
theorem gcOk_rfl {M : Store} : gcOk M M = true := by
  unfold gcOk
  simp only [Bool.and_eq_true, decide_eq_true_eq, Nat.le_refl, true_and, List.all_eq_true, Bool.or_eq_true]
  intro p hp
  obtain ⟨i, hi⟩ := List.mem_iff_getElem?.mp hp
  rw [List.getElem?_zip_eq_some] at hi
  have := hi.2
  rw [hi.1] at this
  exact .inl (Option.some.inj this)
theorem gcOk_app {M M' T : Store} (h : gcOk M M' = true) : gcOk M (M' ++ T) = true := by
  unfold gcOk at h ⊢
  simp only [Bool.and_eq_true, decide_eq_true_eq, List.length_append, List.all_eq_true] at h ⊢
  refine ⟨by omega, fun p hp => ?_⟩
  obtain ⟨i, hi⟩ := List.mem_iff_getElem?.mp hp
  rw [List.getElem?_zip_eq_some] at hi
  have hl : i < M.length := (List.getElem?_eq_some_iff.mp hi.1).1
  rw [List.getElem?_append_left (by omega)] at hi
  exact h.2 p (List.mem_iff_getElem?.mpr ⟨i, by rw [List.getElem?_zip_eq_some]; exact hi⟩)
/-- what a call leaves -/
theorem gc_ok {M M' T : Store} {d : D} (h : gcOk M M' = true) (hl : M'.length = M.length) (hd : d.und M.length = true) : gc M (.ok d (M' ++ T)) = .ok d M' := by
  unfold gc
  simp only [hd, gcOk_app h, Bool.and_self, if_true]
  rw [← hl, List.take_left]
theorem gc_ok0 {M M' : Store} {d : D} (h : gcOk M M' = true) (hl : M'.length = M.length) (hd : d.und M.length = true) : gc M (.ok d M') = .ok d M' := by
  have := gc_ok (T := []) h hl hd
  rwa [List.append_nil] at this
theorem gc_ex {M M' T : Store} {x : Exn} (h : gcOk M M' = true) (hl : M'.length = M.length) (hd : D.unds M.length x.vs = true) : gc M (.ex x (M' ++ T)) = .ex x M' := by
  unfold gc
  simp only [hd, gcOk_app h, Bool.and_self, if_true]
  rw [← hl, List.take_left]
/-! ### loops -/
theorem forL_inv {tg : Tg} {f : Env → Store → Fl} (I : Nat → Env → Store → Prop) : ∀ {xs : List D} {i : Nat} {ρ : Env} {M : Store}, I i ρ M → (∀ j x ρ M, xs[j]? = some x → I (i + j) ρ M → ∃ ρ1, bindT tg x ρ = some ρ1 ∧ ∃ ρ2 M2, f ρ1 M = .nx ρ2 M2 ∧ I (i + j + 1) ρ2 M2) → ∃ ρ' M', forL tg f xs ρ M = .nx ρ' M' ∧ I (i + xs.length) ρ' M'
  | [], i, ρ, M, h, _ => ⟨ρ, M, rfl, h⟩
  | x :: xs, i, ρ, M, h, st => by
    obtain ⟨ρ1, e1, ρ2, M2, e2, h2⟩ := st 0 x ρ M rfl h
    obtain ⟨ρ', M', e3, h3⟩ := forL_inv (tg := tg) (f := f) I (xs := xs) (i := i + 1) (ρ := ρ2) (M := M2) h2 fun j y ρ M hj hI => by
      obtain ⟨ρ1, e1, ρ2, M2, e2, h2⟩ := st (j + 1) y ρ M (by simpa using hj) (by rw [show i + (j + 1) = i + 1 + j by omega]; exact hI)
      exact ⟨ρ1, e1, ρ2, M2, e2, by rw [show i + 1 + j + 1 = i + (j + 1) + 1 by omega]; exact h2⟩
    refine ⟨ρ', M', ?_, by rw [show i + (x :: xs).length = i + 1 + xs.length by simp; omega]; exact h3⟩
    simp only [forL, e1, e2]
    exact e3
theorem lcL_inv {C : Cfg} {tg : Tg} {f : Env → Store → Rs (Option D)} {ρ : Env} (I : Nat → List D → Store → Prop) : ∀ {xs : List D} {i : Nat} {acc : List D} {M : Store}, I i acc M → (∀ j x acc M, xs[j]? = some x → I (i + j) acc M → ∃ ρ1, bindT tg x (wipeE ρ (slots tg)) = some ρ1 ∧ ∃ d M2, f ρ1 M = .ok (some d) M2 ∧ I (i + j + 1) (acc ++ [d]) M2) → ∃ ys M', lcL C tg f xs ρ M acc = .ok ys M' ∧ I (i + xs.length) ys M'
  | [], i, acc, M, h, _ => ⟨acc, M, rfl, h⟩
  | x :: xs, i, acc, M, h, st => by
    obtain ⟨ρ1, e1, d, M2, e2, h2⟩ := st 0 x acc M rfl h
    obtain ⟨ys, M', e3, h3⟩ := lcL_inv (C := C) (tg := tg) (f := f) (ρ := ρ) I (xs := xs) (i := i + 1) (acc := acc ++ [d]) (M := M2) h2 fun j y acc M hj hI => by
      obtain ⟨ρ1, e1, d, M2, e2, h2⟩ := st (j + 1) y acc M (by simpa using hj) (by rw [show i + (j + 1) = i + 1 + j by omega]; exact hI)
      exact ⟨ρ1, e1, d, M2, e2, by rw [show i + 1 + j + 1 = i + (j + 1) + 1 by omega]; exact h2⟩
    refine ⟨ys, M', ?_, by rw [show i + (x :: xs).length = i + 1 + xs.length by simp; omega]; exact h3⟩
    simp only [lcL, e1, e2]
    exact e3
theorem lcL_map {C : Cfg} {tg : Tg} {f : Env → Store → Rs (Option D)} {ρ : Env} {M : Store} (g : D → D) : ∀ {xs acc : List D}, (∀ x ∈ xs, ∃ ρ1, bindT tg x (wipeE ρ (slots tg)) = some ρ1 ∧ f ρ1 M = .ok (some (g x)) M) → lcL C tg f xs ρ M acc = .ok (acc ++ xs.map g) M
  | [], acc, _ => by simp [lcL]
  | x :: xs, acc, st => by
    obtain ⟨ρ1, e1, e2⟩ := st x (by simp)
    simp only [lcL, e1, e2]
    rw [lcL_map g (xs := xs) fun y hy => st y (by simp [hy])]
    simp
theorem items_rng {M : Store} {n : Int} (h0 : 0 ≤ n) (h : n < 10000000) : itemsOf .rng M [.int n] = some ((List.range n.toNat).map fun i => .int (i : Nat)) := by
  have : n ≤ big ∧ -(2 ^ 62) ≤ n := by unfold big; omega
  simp only [itemsOf, if_pos this]
theorem items_lst {M : Store} {xs : List D} : itemsOf .seq M [.lst xs] = some xs := rfl
theorem items_tup {M : Store} {xs : List D} : itemsOf .seq M [.tup xs] = some xs := rfl
theorem items_str {M : Store} {z : Str} (h : z.length ≤ big) : itemsOf .seq M [.str z] = some (z.cps.toList.map fun c => .str ⟨#[c]⟩) := by
  simp only [itemsOf, if_pos h]
theorem for_rng {C : Cfg} {es : Es} {tg : Tg} {b : Ss} {ρ : Env} {M M1 : Store} {ds xs : List D} (h1 : evs C es ρ M = .ok ds M1) (h2 : itemsOf .rng M1 ds = some xs) : sx C (.for_ .rng es tg b) ρ M = forL tg (fun ρ' M' => sxs C b ρ' M') xs ρ M1 := by
  simp only [sx, h1, fl_ok, h2]
theorem for_zip {C : Cfg} {es : Es} {tg : Tg} {b : Ss} {ρ : Env} {M M1 : Store} {ds xs : List D} (h1 : evs C es ρ M = .ok ds M1) (h2 : itemsOf .zip M1 ds = some xs) : sx C (.for_ .zip es tg b) ρ M = forL tg (fun ρ' M' => sxs C b ρ' M') xs ρ M1 := by
  simp only [sx, h1, fl_ok, h2]
theorem for_enum {C : Cfg} {es : Es} {tg : Tg} {b : Ss} {ρ : Env} {M M1 : Store} {ds xs : List D} (h1 : evs C es ρ M = .ok ds M1) (h2 : itemsOf .enum M1 ds = some xs) : sx C (.for_ .enum es tg b) ρ M = forL tg (fun ρ' M' => sxs C b ρ' M') xs ρ M1 := by
  simp only [sx, h1, fl_ok, h2]
theorem for_seq {C : Cfg} {es : Es} {tg : Tg} {b : Ss} {ρ : Env} {M M1 : Store} {d : D} {xs : List D} (h1 : evs C es ρ M = .ok [d] M1) (h2 : itemsOf .seq M1 [d] = some xs) : sx C (.for_ .seq es tg b) ρ M = forL tg (fun ρ' M' => sxs C b ρ' M') xs ρ M1 := by
  cases d <;> simp only [sx, h1, fl_ok, h2]
  cases h2
theorem for_cel {C : Cfg} {es : Es} {tg : Tg} {b : Ss} {ρ : Env} {M M1 : Store} {n : Nat} {xs : List D} (h1 : evs C es ρ M = .ok [.ref n] M1) (h2 : M1[n]? = some (.lst xs)) : sx C (.for_ .seq es tg b) ρ M = forC tg (fun ρ' M' => sxs C b ρ' M') n (xs.length + 1) 0 ρ M1 := by
  simp only [sx, h1, fl_ok, h2]
/-- a walk over a cell's list that the turns leave as it is -/
theorem forC_inv {tg : Tg} {f : Env → Store → Fl} {n : Nat} {xs : List D} (I : Nat → Env → Store → Prop) (hn : ∀ i ρ M, I i ρ M → M[n]? = some (.lst xs)) : ∀ {k i : Nat} {ρ : Env} {M : Store}, i + k = xs.length → I i ρ M → (∀ j x ρ M, i ≤ j → xs[j]? = some x → I j ρ M → ∃ ρ1, bindT tg x ρ = some ρ1 ∧ ∃ ρ2 M2, f ρ1 M = .nx ρ2 M2 ∧ I (j + 1) ρ2 M2) → ∃ ρ' M', forC tg f n (k + 1) i ρ M = .nx ρ' M' ∧ I xs.length ρ' M'
  | 0, i, ρ, M, hi, h, _ => by
    have e : i = xs.length := by omega
    subst e
    refine ⟨ρ, M, ?_, h⟩
    simp only [forC, hn _ _ _ h, List.getElem?_eq_none (Nat.le_refl _)]
  | k + 1, i, ρ, M, hi, h, st => by
    have hl : i < xs.length := by omega
    have hx : xs[i]? = some xs[i] := List.getElem?_eq_getElem hl
    obtain ⟨ρ1, e1, ρ2, M2, e2, h2⟩ := st i _ ρ M (Nat.le_refl _) hx h
    obtain ⟨ρ', M', e3, h3⟩ := forC_inv (tg := tg) (f := f) I hn (k := k) (i := i + 1) (ρ := ρ2) (M := M2) (by omega) h2 fun j y ρ M hj => st j y ρ M (by omega)
    refine ⟨ρ', M', ?_, h3⟩
    rw [forC]
    simp only [hn _ _ _ h, hx, e1, e2]
    exact e3
theorem lc_eq {C : Cfg} {r : Bool} {s : Src} {es ifs : Es} {tg : Tg} {elt : E} {ρ : Env} {M M1 M2 : Store} {ds xs ys : List D} (h1 : evs C es ρ M = .ok ds M1) (h2 : itemsOf s M1 ds = some xs) (h3 : lcL C tg (lcF C ifs elt) xs ρ M1 [] = .ok ys M2) : ev C (.lc r s es tg ifs elt) ρ M = newL r ys M2 := by
  have h3' : lcL C tg (fun ρ' M' => (evIfs C ifs ρ' M').bind fun b M2 => if b = true then (ev C elt ρ' M2).bind fun d M3 => Rs.ok (some d) M3 else Rs.ok none M2) xs ρ M1 [] = .ok ys M2 := h3
  simp only [ev, h1, bind_ok, h2, h3']
theorem lcF_nil {C : Cfg} {elt : E} {ρ : Env} {M : Store} : lcF C .nil elt ρ M = (ev C elt ρ M).bind fun d M3 => .ok (some d) M3 := by
  simp [lcF, evIfs, bind_ok]
/-! ### two cells at the end -/
section
variable {M : Store} {a b c : Cell}
theorem g2a : (M ++ [a, b])[M.length]? = some a := by simp
theorem g2b : (M ++ [a, b])[M.length + 1]? = some b := by simp
theorem s2a : (M ++ [a, b]).set M.length c = M ++ [c, b] := by simp
theorem s2b : (M ++ [a, b]).set (M.length + 1) c = M ++ [a, c] := by simp
theorem g1a : (M ++ [a])[M.length]? = some a := by simp
theorem s1a : (M ++ [a]).set M.length c = M ++ [c] := by simp
end
end Dv
/-! Draws. -/
namespace Dv
open PySem
def PotAt (M : Store) (n : Nat) (t : Nat) : Prop := ∃ a b c : Int, M[n]? = some (.lst [.int a, .int b, .int c]) ∧ 0 ≤ a ∧ 0 ≤ b ∧ b < 1180591620717411303424 ∧ 0 ≤ c ∧ c ≤ t
def Drawn (n : Nat) (M M' : Store) : Prop := ∃ a b c : Int, M' = M.set n (.lst [.int a, .int b, .int c])
theorem Drawn.trans {n : Nat} {M M1 M2 : Store} (h : Drawn n M M1) (g : Drawn n M1 M2) : Drawn n M M2 := by
  obtain ⟨a, b, c, rfl⟩ := h
  obtain ⟨a', b', c', rfl⟩ := g
  exact ⟨a', b', c', set_set⟩
theorem Drawn.len {n : Nat} {M M1 : Store} (h : Drawn n M M1) : M1.length = M.length := by
  obtain ⟨a, b, c, rfl⟩ := h
  simp
theorem Drawn.gc {n : Nat} {M M1 : Store} (h : Drawn n M M1) : gcOk M M1 = true := by
  obtain ⟨a, b, c, rfl⟩ := h
  exact gcOk_set rfl
theorem Drawn.other {n i : Nat} {M M1 : Store} (h : Drawn n M M1) (hi : i ≠ n) : M1[i]? = M[i]? := by
  obtain ⟨a, b, c, rfl⟩ := h
  exact List.getElem?_set_ne (Ne.symm hi)
theorem Drawn.app {n : Nat} {M M1 T : Store} (hn : n < M.length) (h : Drawn n (M ++ T) M1) : ∃ M', M1 = M' ++ T ∧ Drawn n M M' := by
  obtain ⟨a, b, c, rfl⟩ := h
  exact ⟨_, List.set_append_left _ _ hn, a, b, c, rfl⟩
theorem PotAt.lt {M : Store} {n t : Nat} (h : PotAt M n t) : n < M.length := by
  obtain ⟨a, b, c, h, _⟩ := h
  exact (List.getElem?_eq_some_iff.mp h).1
theorem PotAt.app {M T : Store} {n t : Nat} (h : PotAt M n t) : PotAt (M ++ T) n t := by
  have hn := h.lt
  obtain ⟨a, b, c, h, r⟩ := h
  exact ⟨a, b, c, by rw [List.getElem?_append_left hn]; exact h, r⟩
theorem PotAt.unapp {M T : Store} {n t : Nat} (hn : n < M.length) (h : PotAt (M ++ T) n t) : PotAt M n t := by
  obtain ⟨a, b, c, h, r⟩ := h
  rw [List.getElem?_append_left hn] at h
  exact ⟨a, b, c, h, r⟩
theorem PotAt.mono {M : Store} {n t u : Nat} (h : PotAt M n t) (l : t ≤ u) : PotAt M n u := by
  obtain ⟨a, b, c, h, h1, h2, h3, h4, h5⟩ := h
  exact ⟨a, b, c, h, h1, h2, h3, h4, by omega⟩
def TakeOk (G : Prg) (f : Nat) : Prop := ∀ (k n t : Nat) (m : Int) (M : Store), PotAt M n t → t < 1000000 → 0 < m → m.natAbs.log2 < 9000 → ∃ v M', run G (k + 1) f [.ref n, .int m] M = .ok (.int v) M' ∧ 0 ≤ v ∧ v < m ∧ PotAt M' n (t + 1) ∧ Drawn n M M'
def T1 : Ss := .cons (.ite (.cmp .gt (.ix (.v 0) (.k (.int 0))) (.k (.int 0))) (.cons (.set (.n 3) (.bin .mod (.bi .int (.cons (.ix (.v 0) (.k (.int 0))) .nil)) (.v 1))) (.cons (.sub (.v 0) (.k (.int 0)) (.bin .fdiv (.ix (.v 0) (.k (.int 0))) (.v 1))) (.cons (.ret false (.v 3)) .nil))) .nil) (.cons (.sub (.v 0) (.k (.int 2)) (.bin .add (.ix (.v 0) (.k (.int 2))) (.k (.int 1)))) (.cons (.set (.n 2) (.bin .add (.bin .pow (.bin .add (.ix (.v 0) (.k (.int 1))) (.bin .mul (.k (.int 7368787)) (.ix (.v 0) (.k (.int 2))))) (.k (.int 3))) (.bin .mul (.k (.int 15485863)) (.ix (.v 0) (.k (.int 2)))))) (.cons (.set (.n 2) (.bin .add (.bin .mod (.bi .int (.cons (.v 2) .nil)) (.k (.int 2305843009213693951))) (.bin .mul (.k (.int 49979687)) (.ix (.v 0) (.k (.int 2)))))) (.cons (.set (.n 2) (.bin .mod (.bi .int (.cons (.bin .add (.bin .pow (.v 2) (.k (.int 2))) (.ix (.v 0) (.k (.int 1)))) .nil)) (.k (.int 2147483647)))) (.cons (.ret false (.bin .mod (.bi .int (.cons (.bin .fdiv (.v 2) (.k (.int 64))) .nil)) (.v 1))) .nil)))))
theorem take1 {G : Prg} {f : Nat} (hG : G.fn f = some ⟨2, 4, T1⟩) : TakeOk G f := by
  intro k n t m M ⟨a, b, c, hM, ha, hb, hb2, hc, hct⟩ ht hm hlg
  have hlg' : lg m < 9000 := hlg
  have r1 : ∀ x, (M.set n x)[n]? = some x := fun x => getq_set_self hM
  rw [run_eq hG ⟨rfl, by decide⟩]
  have e0 : env0 4 [D.ref n, .int m] = [some (.ref n), some (.int m), none, none] := rfl
  rw [e0]
  unfold T1
  by_cases h : 0 < a
  · simp -implicitDefEqProofs only [bind_ok, bind_ex, fl_ok, fl_ex, seq_nx, seq_rt, seq_ex, q_k, q_v, q_g, q_tup, q_lst, q_bin, q_neg, q_evT, q_not, q_and1, q_and, q_or1, q_or, q_cmp, q_cmp2, q_ite, q_ix, q_sl, q_o0, q_o1, q_call, q_mk, q_bi, q_bm, q_attr, q_isi, q_e0, q_e1, q_e2, k_v, k_of, k_tup, k_tupX, k_lst, k_lstX, k_b1, k_b1X, k_b2, k_b2X, k_neg, k_t, k_tX, k_not, k_notX, k_and, k_andX, k_andT, k_andF, k_or, k_orX, k_orT, k_orF, k_c1, k_c1X, k_c2, k_c2X, k_d1, k_d2, k_d3T, k_d3F, k_d4, k_iT, k_iF, k_iX, k_x1, k_x1X, k_x2, k_x2X, k_s1, k_s2, k_s3, k_o, k_a1, k_a1X, k_a2, k_a2X, k_m1, k_m1X, k_m2, k_m2X, k_bi, k_biX, k_bm1, k_bm1X, k_bm2, k_bm3, k_bm3X, k_at, k_atX, k_is, k_isX, k_e1, k_e1X, k_e2, k_e2X, k_f1, k_f2, q_ss0, q_ss1, k_sq, k_sqR, k_sqX, k_sqB, k_sqC, q_set, k_set, k_setX, k_set2, q_par, k_p1, k_p1X, k_p2, k_p2X, q_sub, k_u1, k_u1X, k_u2, k_u3, k_u4, q_fld, k_w1, k_w1X, k_w2, q_ex, k_ex, k_exX, q_ret, k_rF, k_rT, k_rX, k_rf, q_retN, q_if, k_ifT, k_ifF, k_ifX, q_raise, k_rs, q_aug, k_agA, k_agS, q_pass, q_brk, q_cont, fin_rt, fin_nx, fin_ex, cmpR.eq_def, clsD.eq_def, ixD.eq_def, seqOf.eq_def, bin.eq_def, binI_add, binI_sub, binI_mod, binI_fdiv, binI_mulL, binI_mulR, Bool.and_self, sm_a, sm_b, sm_c, sm_d, sm_e, sm_f, sm_g, sm_h, sm_i, sm_j, sm_k, lg64, lg4096, lg65536, cmp.eq_def, truth.eq_def, biD.eq_def, lenD.eq_def, absD.eq_def, intD.eq_def, minD.eq_def, maxD.eq_def, newL.eq_def, bindT.eq_1, bindT.eq_2, bindT.eq_3, setD.eq_def, isNone.eq_def, List.getElem?_cons_zero, List.getElem?_cons_succ, List.set_cons_zero, List.set_cons_succ, List.length_cons, List.length_nil, at0, at1, at2, at3, if_true, if_false, decide_true, decide_false, and_self, and_true, true_and, Bool.false_eq_true, Nat.reduceAdd, Nat.reduceLT, Nat.reduceLeDiff, Nat.reduceSub, Nat.reduceEqDiff, Int.reduceLT, Int.reduceLE, Int.reduceNeg, Int.reduceToNat, reduceIte, reduceCtorEq, ix3_0, ix3_1, ix3_2, big, Nat.zero_le, ne_eq, not_false_eq_true, not_true_eq_false, isiD.eq_1, isiD.eq_2, isiOne.eq_def, tyBlt.eq_def, Option.map_some, Bool.not_true, Bool.not_false, hM, h, hm, hlg']
    have h1 := Int.emod_nonneg a (show m ≠ 0 by omega)
    have h2 := Int.emod_lt_of_pos a hm
    refine ⟨a % m, _, gc_ok0 (gcOk_set rfl) (by simp) rfl, h1, h2, ⟨a / m, b, c, r1 _, Int.ediv_nonneg ha (by omega), hb, hb2, hc, by omega⟩, ⟨_, _, _, rfl⟩⟩
  · have p1 := pow3 (i := b + 7368787 * (c + 1)) (by omega) (by omega)
    generalize hx : ((b + 7368787 * (c + 1)) ^ 3 + 15485863 * (c + 1)) % 2305843009213693951 + 49979687 * (c + 1) = x
    have x0 := Int.emod_nonneg ((b + 7368787 * (c + 1)) ^ 3 + 15485863 * (c + 1)) (show (2305843009213693951 : Int) ≠ 0 by decide)
    have x1 := Int.emod_lt_of_pos ((b + 7368787 * (c + 1)) ^ 3 + 15485863 * (c + 1)) (show (0 : Int) < 2305843009213693951 by decide)
    have p2 := pow2 (i := x) (by omega) (by omega)
    simp -implicitDefEqProofs only [bind_ok, bind_ex, fl_ok, fl_ex, seq_nx, seq_rt, seq_ex, q_k, q_v, q_g, q_tup, q_lst, q_bin, q_neg, q_evT, q_not, q_and1, q_and, q_or1, q_or, q_cmp, q_cmp2, q_ite, q_ix, q_sl, q_o0, q_o1, q_call, q_mk, q_bi, q_bm, q_attr, q_isi, q_e0, q_e1, q_e2, k_v, k_of, k_tup, k_tupX, k_lst, k_lstX, k_b1, k_b1X, k_b2, k_b2X, k_neg, k_t, k_tX, k_not, k_notX, k_and, k_andX, k_andT, k_andF, k_or, k_orX, k_orT, k_orF, k_c1, k_c1X, k_c2, k_c2X, k_d1, k_d2, k_d3T, k_d3F, k_d4, k_iT, k_iF, k_iX, k_x1, k_x1X, k_x2, k_x2X, k_s1, k_s2, k_s3, k_o, k_a1, k_a1X, k_a2, k_a2X, k_m1, k_m1X, k_m2, k_m2X, k_bi, k_biX, k_bm1, k_bm1X, k_bm2, k_bm3, k_bm3X, k_at, k_atX, k_is, k_isX, k_e1, k_e1X, k_e2, k_e2X, k_f1, k_f2, q_ss0, q_ss1, k_sq, k_sqR, k_sqX, k_sqB, k_sqC, q_set, k_set, k_setX, k_set2, q_par, k_p1, k_p1X, k_p2, k_p2X, q_sub, k_u1, k_u1X, k_u2, k_u3, k_u4, q_fld, k_w1, k_w1X, k_w2, q_ex, k_ex, k_exX, q_ret, k_rF, k_rT, k_rX, k_rf, q_retN, q_if, k_ifT, k_ifF, k_ifX, q_raise, k_rs, q_aug, k_agA, k_agS, q_pass, q_brk, q_cont, fin_rt, fin_nx, fin_ex, cmpR.eq_def, clsD.eq_def, ixD.eq_def, seqOf.eq_def, bin.eq_def, binI_add, binI_sub, binI_mod, binI_fdiv, binI_mulL, binI_mulR, Bool.and_self, sm_a, sm_b, sm_c, sm_d, sm_e, sm_f, sm_g, sm_h, sm_i, sm_j, sm_k, lg64, lg4096, lg65536, cmp.eq_def, truth.eq_def, biD.eq_def, lenD.eq_def, absD.eq_def, intD.eq_def, minD.eq_def, maxD.eq_def, newL.eq_def, bindT.eq_1, bindT.eq_2, bindT.eq_3, setD.eq_def, isNone.eq_def, List.getElem?_cons_zero, List.getElem?_cons_succ, List.set_cons_zero, List.set_cons_succ, List.length_cons, List.length_nil, at0, at1, at2, at3, if_true, if_false, decide_true, decide_false, and_self, and_true, true_and, Bool.false_eq_true, Nat.reduceAdd, Nat.reduceLT, Nat.reduceLeDiff, Nat.reduceSub, Nat.reduceEqDiff, Int.reduceLT, Int.reduceLE, Int.reduceNeg, Int.reduceToNat, reduceIte, reduceCtorEq, ix3_0, ix3_1, ix3_2, big, Nat.zero_le, ne_eq, not_false_eq_true, not_true_eq_false, isiD.eq_1, isiD.eq_2, isiOne.eq_def, tyBlt.eq_def, Option.map_some, Bool.not_true, Bool.not_false, hM, h, hm, hlg', r1, set_set, p1, hx, p2]
    have h1 := Int.emod_nonneg ((x ^ 2 + b) % 2147483647 / 64) (show m ≠ 0 by omega)
    have h2 := Int.emod_lt_of_pos ((x ^ 2 + b) % 2147483647 / 64) hm
    exact ⟨_, _, gc_ok0 (gcOk_set rfl) (by simp) rfl, h1, h2, ⟨a, b, c + 1, r1 _, ha, hb, hb2, by omega, by omega⟩, ⟨_, _, _, rfl⟩⟩
/-! ### one of some -/
/-- a program's plain parts -/
structure Std (G : Prg) : Prop where
  call : ∀ c, (G.cfg c).call = c
def Sh2 (G : Prg) (sh : Nat) : Prop := ∀ c, (G.cfg c).shp sh = ⟨2, 0, [.a 0, .a 1]⟩
def OfB (tk sh : Nat) : Ss := .cons (.ret false (.ix (.v 1) (.call tk sh (.cons (.v 0) (.cons (.bi .len (.cons (.v 1) .nil)) .nil)) .nil))) .nil
def OfOk (G : Prg) (f : Nat) : Prop := ∀ (k n t : Nat) (M : Store), PotAt M n t → t < 1000000 →
  (∀ (d : D) (xs : List D), (d = .lst xs ∨ d = .tup xs) → D.unds M.length xs = true → 0 < xs.length → xs.length < 1000000 → ∃ x M', run G (k + 2) f [.ref n, d] M = .ok x M' ∧ x ∈ xs ∧ PotAt M' n (t + 1) ∧ Drawn n M M') ∧
  (∀ z : Str, 0 < z.length → z.length < 1000000 → ∃ c M', run G (k + 2) f [.ref n, .str z] M = .ok (.str ⟨#[c]⟩) M' ∧ c ∈ z.cps.toList ∧ PotAt M' n (t + 1) ∧ Drawn n M M')
theorem lg_lt {i : Int} (h0 : 0 ≤ i) (h : i < 1606938044258990275541962092341162602522202993782792835301376) : i.natAbs.log2 < 9000 := by
  have := lg_le h0 (by rw [e200]; exact h)
  unfold lg at this
  omega
theorem of_ok {G : Prg} {f tk sh : Nat} (S : Std G) (hs : Sh2 G sh) (T : TakeOk G tk) (hG : G.fn f = some ⟨2, 2, OfB tk sh⟩) : OfOk G f := by
  intro k n t M hp ht
  have key : ∀ m : Int, 0 < m → m < 1000000 → ∃ v M', run G (k + 1) tk [.ref n, .int m] M = .ok (.int v) M' ∧ 0 ≤ v ∧ v < m ∧ PotAt M' n (t + 1) ∧ Drawn n M M' := fun m h1 h2 => T k n t m M hp ht h1 (lg_lt (by omega) (by omega))
  have hb : ∀ d, env0 2 [D.ref n, d] = [some (.ref n), some d] := fun _ => rfl
  constructor
  · intro d xs hd hu h0 h1
    obtain ⟨v, M', e, v0, v1, p, dr⟩ := key xs.length (by omega) (by omega)
    have ea : L2.atI xs v = some (xs[v.toNat]'(by omega)) := by
      rw [atN xs v v0 v1]
      exact List.getElem?_eq_getElem _
    have hx : xs[v.toNat]'(by omega) ∈ xs := List.getElem_mem _
    rw [run_eq hG ⟨rfl, Nat.le_refl 2⟩, hb]
    unfold OfB
    refine ⟨_, M', ?_, hx, p, dr⟩
    have hu2 : (xs[v.toNat]'(by omega)).und M.length = true := unds_iff.mp hu _ hx
    rcases hd with rfl | rfl
    · simp -implicitDefEqProofs only [bind_ok, bind_ex, fl_ok, fl_ex, seq_nx, seq_rt, seq_ex, q_k, q_v, q_g, q_tup, q_lst, q_bin, q_neg, q_evT, q_not, q_and1, q_and, q_or1, q_or, q_cmp, q_cmp2, q_ite, q_ix, q_sl, q_o0, q_o1, q_call, q_mk, q_bi, q_bm, q_attr, q_isi, q_e0, q_e1, q_e2, k_v, k_of, k_tup, k_tupX, k_lst, k_lstX, k_b1, k_b1X, k_b2, k_b2X, k_neg, k_t, k_tX, k_not, k_notX, k_and, k_andX, k_andT, k_andF, k_or, k_orX, k_orT, k_orF, k_c1, k_c1X, k_c2, k_c2X, k_d1, k_d2, k_d3T, k_d3F, k_d4, k_iT, k_iF, k_iX, k_x1, k_x1X, k_x2, k_x2X, k_s1, k_s2, k_s3, k_o, k_a1, k_a1X, k_a2, k_a2X, k_m1, k_m1X, k_m2, k_m2X, k_bi, k_biX, k_bm1, k_bm1X, k_bm2, k_bm3, k_bm3X, k_at, k_atX, k_is, k_isX, k_e1, k_e1X, k_e2, k_e2X, k_f1, k_f2, q_ss0, q_ss1, k_sq, k_sqR, k_sqX, k_sqB, k_sqC, q_set, k_set, k_setX, k_set2, q_par, k_p1, k_p1X, k_p2, k_p2X, q_sub, k_u1, k_u1X, k_u2, k_u3, k_u4, q_fld, k_w1, k_w1X, k_w2, q_ex, k_ex, k_exX, q_ret, k_rF, k_rT, k_rX, k_rf, q_retN, q_if, k_ifT, k_ifF, k_ifX, q_raise, k_rs, q_aug, k_agA, k_agS, q_pass, q_brk, q_cont, fin_rt, fin_nx, fin_ex, cmpR.eq_def, clsD.eq_def, ixD.eq_def, seqOf.eq_def, bin.eq_def, binI_add, binI_sub, binI_mod, binI_fdiv, binI_mulL, binI_mulR, Bool.and_self, sm_a, sm_b, sm_c, sm_d, sm_e, sm_f, sm_g, sm_h, sm_i, sm_j, sm_k, lg64, lg4096, lg65536, cmp.eq_def, truth.eq_def, biD.eq_def, lenD.eq_def, absD.eq_def, intD.eq_def, minD.eq_def, maxD.eq_def, newL.eq_def, bindT.eq_1, bindT.eq_2, bindT.eq_3, setD.eq_def, isNone.eq_def, List.getElem?_cons_zero, List.getElem?_cons_succ, List.set_cons_zero, List.set_cons_succ, List.length_cons, List.length_nil, at0, at1, at2, at3, if_true, if_false, decide_true, decide_false, and_self, and_true, true_and, Bool.false_eq_true, Nat.reduceAdd, Nat.reduceLT, Nat.reduceLeDiff, Nat.reduceSub, Nat.reduceEqDiff, Int.reduceLT, Int.reduceLE, Int.reduceNeg, Int.reduceToNat, reduceIte, reduceCtorEq, ix3_0, ix3_1, ix3_2, big, Nat.zero_le, ne_eq, not_false_eq_true, not_true_eq_false, isiD.eq_1, isiD.eq_2, isiOne.eq_def, tyBlt.eq_def, Option.map_some, Bool.not_true, Bool.not_false, S.call, hs _, callG.eq_def, sel.eq_1, sel.eq_2, sel.eq_3, sel.eq_4, List.append_nil, List.cons_append, List.nil_append, e, ea]
      exact gc_ok0 dr.gc dr.len hu2
    · simp -implicitDefEqProofs only [bind_ok, bind_ex, fl_ok, fl_ex, seq_nx, seq_rt, seq_ex, q_k, q_v, q_g, q_tup, q_lst, q_bin, q_neg, q_evT, q_not, q_and1, q_and, q_or1, q_or, q_cmp, q_cmp2, q_ite, q_ix, q_sl, q_o0, q_o1, q_call, q_mk, q_bi, q_bm, q_attr, q_isi, q_e0, q_e1, q_e2, k_v, k_of, k_tup, k_tupX, k_lst, k_lstX, k_b1, k_b1X, k_b2, k_b2X, k_neg, k_t, k_tX, k_not, k_notX, k_and, k_andX, k_andT, k_andF, k_or, k_orX, k_orT, k_orF, k_c1, k_c1X, k_c2, k_c2X, k_d1, k_d2, k_d3T, k_d3F, k_d4, k_iT, k_iF, k_iX, k_x1, k_x1X, k_x2, k_x2X, k_s1, k_s2, k_s3, k_o, k_a1, k_a1X, k_a2, k_a2X, k_m1, k_m1X, k_m2, k_m2X, k_bi, k_biX, k_bm1, k_bm1X, k_bm2, k_bm3, k_bm3X, k_at, k_atX, k_is, k_isX, k_e1, k_e1X, k_e2, k_e2X, k_f1, k_f2, q_ss0, q_ss1, k_sq, k_sqR, k_sqX, k_sqB, k_sqC, q_set, k_set, k_setX, k_set2, q_par, k_p1, k_p1X, k_p2, k_p2X, q_sub, k_u1, k_u1X, k_u2, k_u3, k_u4, q_fld, k_w1, k_w1X, k_w2, q_ex, k_ex, k_exX, q_ret, k_rF, k_rT, k_rX, k_rf, q_retN, q_if, k_ifT, k_ifF, k_ifX, q_raise, k_rs, q_aug, k_agA, k_agS, q_pass, q_brk, q_cont, fin_rt, fin_nx, fin_ex, cmpR.eq_def, clsD.eq_def, ixD.eq_def, seqOf.eq_def, bin.eq_def, binI_add, binI_sub, binI_mod, binI_fdiv, binI_mulL, binI_mulR, Bool.and_self, sm_a, sm_b, sm_c, sm_d, sm_e, sm_f, sm_g, sm_h, sm_i, sm_j, sm_k, lg64, lg4096, lg65536, cmp.eq_def, truth.eq_def, biD.eq_def, lenD.eq_def, absD.eq_def, intD.eq_def, minD.eq_def, maxD.eq_def, newL.eq_def, bindT.eq_1, bindT.eq_2, bindT.eq_3, setD.eq_def, isNone.eq_def, List.getElem?_cons_zero, List.getElem?_cons_succ, List.set_cons_zero, List.set_cons_succ, List.length_cons, List.length_nil, at0, at1, at2, at3, if_true, if_false, decide_true, decide_false, and_self, and_true, true_and, Bool.false_eq_true, Nat.reduceAdd, Nat.reduceLT, Nat.reduceLeDiff, Nat.reduceSub, Nat.reduceEqDiff, Int.reduceLT, Int.reduceLE, Int.reduceNeg, Int.reduceToNat, reduceIte, reduceCtorEq, ix3_0, ix3_1, ix3_2, big, Nat.zero_le, ne_eq, not_false_eq_true, not_true_eq_false, isiD.eq_1, isiD.eq_2, isiOne.eq_def, tyBlt.eq_def, Option.map_some, Bool.not_true, Bool.not_false, S.call, hs _, callG.eq_def, sel.eq_1, sel.eq_2, sel.eq_3, sel.eq_4, List.append_nil, List.cons_append, List.nil_append, e, ea]
      exact gc_ok0 dr.gc dr.len hu2
  · intro z h0 h1
    obtain ⟨v, M', e, v0, v1, p, dr⟩ := key z.length (by omega) (by omega)
    have hz : z.length ≤ big := by unfold big; omega
    have hl : z.cps.toList.length = z.length := by simp [Str.length]
    have ea : L2.atI z.cps.toList v = some (z.cps.toList[v.toNat]'(by omega)) := by
      rw [atN _ v v0 (by omega)]
      exact List.getElem?_eq_getElem _
    rw [run_eq hG ⟨rfl, Nat.le_refl 2⟩, hb]
    unfold OfB
    refine ⟨z.cps.toList[v.toNat]'(by omega), M', ?_, List.getElem_mem _, p, dr⟩
    simp -implicitDefEqProofs only [bind_ok, bind_ex, fl_ok, fl_ex, seq_nx, seq_rt, seq_ex, q_k, q_v, q_g, q_tup, q_lst, q_bin, q_neg, q_evT, q_not, q_and1, q_and, q_or1, q_or, q_cmp, q_cmp2, q_ite, q_ix, q_sl, q_o0, q_o1, q_call, q_mk, q_bi, q_bm, q_attr, q_isi, q_e0, q_e1, q_e2, k_v, k_of, k_tup, k_tupX, k_lst, k_lstX, k_b1, k_b1X, k_b2, k_b2X, k_neg, k_t, k_tX, k_not, k_notX, k_and, k_andX, k_andT, k_andF, k_or, k_orX, k_orT, k_orF, k_c1, k_c1X, k_c2, k_c2X, k_d1, k_d2, k_d3T, k_d3F, k_d4, k_iT, k_iF, k_iX, k_x1, k_x1X, k_x2, k_x2X, k_s1, k_s2, k_s3, k_o, k_a1, k_a1X, k_a2, k_a2X, k_m1, k_m1X, k_m2, k_m2X, k_bi, k_biX, k_bm1, k_bm1X, k_bm2, k_bm3, k_bm3X, k_at, k_atX, k_is, k_isX, k_e1, k_e1X, k_e2, k_e2X, k_f1, k_f2, q_ss0, q_ss1, k_sq, k_sqR, k_sqX, k_sqB, k_sqC, q_set, k_set, k_setX, k_set2, q_par, k_p1, k_p1X, k_p2, k_p2X, q_sub, k_u1, k_u1X, k_u2, k_u3, k_u4, q_fld, k_w1, k_w1X, k_w2, q_ex, k_ex, k_exX, q_ret, k_rF, k_rT, k_rX, k_rf, q_retN, q_if, k_ifT, k_ifF, k_ifX, q_raise, k_rs, q_aug, k_agA, k_agS, q_pass, q_brk, q_cont, fin_rt, fin_nx, fin_ex, cmpR.eq_def, clsD.eq_def, ixD.eq_def, seqOf.eq_def, bin.eq_def, binI_add, binI_sub, binI_mod, binI_fdiv, binI_mulL, binI_mulR, Bool.and_self, sm_a, sm_b, sm_c, sm_d, sm_e, sm_f, sm_g, sm_h, sm_i, sm_j, sm_k, lg64, lg4096, lg65536, cmp.eq_def, truth.eq_def, biD.eq_def, lenD.eq_def, absD.eq_def, intD.eq_def, minD.eq_def, maxD.eq_def, newL.eq_def, bindT.eq_1, bindT.eq_2, bindT.eq_3, setD.eq_def, isNone.eq_def, List.getElem?_cons_zero, List.getElem?_cons_succ, List.set_cons_zero, List.set_cons_succ, List.length_cons, List.length_nil, at0, at1, at2, at3, if_true, if_false, decide_true, decide_false, and_self, and_true, true_and, Bool.false_eq_true, Nat.reduceAdd, Nat.reduceLT, Nat.reduceLeDiff, Nat.reduceSub, Nat.reduceEqDiff, Int.reduceLT, Int.reduceLE, Int.reduceNeg, Int.reduceToNat, reduceIte, reduceCtorEq, ix3_0, ix3_1, ix3_2, big, Nat.zero_le, ne_eq, not_false_eq_true, not_true_eq_false, isiD.eq_1, isiD.eq_2, isiOne.eq_def, tyBlt.eq_def, Option.map_some, Bool.not_true, Bool.not_false, S.call, hs _, callG.eq_def, sel.eq_1, sel.eq_2, sel.eq_3, sel.eq_4, List.append_nil, List.cons_append, List.nil_append, e, ea, hz, Option.map_some]
    exact gc_ok0 dr.gc dr.len rfl
/-! ### some of some -/
theorem Drawn.rfl {n t : Nat} {M : Store} (h : PotAt M n t) : Drawn n M M := by
  obtain ⟨a, b, c, h, _⟩ := h
  refine ⟨a, b, c, ?_⟩
  obtain ⟨h1, h2⟩ := List.getElem?_eq_some_iff.mp h
  rw [← h2, List.set_getElem_self]
def PickB (tk sh : Nat) : Ss := .cons (.par 4 5 (.bi (.list true) (.cons (.v 1) .nil)) (.lst true .nil)) (.cons (.for_ .rng (.cons (.bi .min (.cons (.v 2) (.cons (.bi .len (.cons (.v 4) .nil)) .nil))) .nil) (.n 3) (.cons (.ex (.bm .append (.v 5) (.cons (.bm .popAt (.v 4) (.cons (.call tk sh (.cons (.v 0) (.cons (.bi .len (.cons (.v 4) .nil)) .nil)) .nil) .nil)) .nil))) .nil)) (.cons (.ret true (.v 5)) .nil))
def PickOk (G : Prg) (f : Nat) : Prop := ∀ (k n t : Nat) (M : Store) (d : D) (xs : List D) (m : Int), PotAt M n t → t + xs.length < 1000000 → (d = .lst xs ∨ d = .tup xs) → D.pures xs = true → 0 ≤ m →
  ∃ ys rest M', run G (k + 2) f [.ref n, d, .int m] M = .ok (.lst ys) M' ∧ (ys ++ rest).Perm xs ∧ ys.length = min m.toNat xs.length ∧ PotAt M' n (t + ys.length) ∧ Drawn n M M'
theorem pures_iff : ∀ {ds : List D}, D.pures ds = true ↔ ∀ d ∈ ds, d.pure = true
  | [] => by simp [D.pures]
  | d :: ds => by simp [D.pures, pures_iff (ds := ds)]
theorem pick_ok {G : Prg} {f tk sh : Nat} (S : Std G) (hs : Sh2 G sh) (T : TakeOk G tk) (hG : G.fn f = some ⟨3, 6, PickB tk sh⟩) : PickOk G f := by
  intro k n t M d xs m hp ht hd hu hm
  have hn := hp.lt
  rw [run_eq hG ⟨rfl, (by decide : 3 ≤ 6)⟩]
  show ∃ ys rest M', fin M (sxs _ (PickB tk sh) [some (.ref n), some d, some (.int m), none, none, none] M) = _ ∧ _
  unfold PickB
  have hq : seqOf M d = some xs := by rcases hd with rfl | rfl <;> rfl
  have ho : (if (xs.length : Int) < m then (xs.length : Int) else m) = (min m.toNat xs.length : Nat) := by
    split <;> omega
  have hl0 : listD true M [d] = .ok (.ref M.length) (M ++ [.lst xs]) := by
    unfold listD
    simp only [hq, newL, if_true]
  let I : Nat → Env → Store → Prop := fun i ρ S => ∃ tn M1 left found, ρ = [some (.ref n), some d, some (.int m), tn, some (.ref M.length), some (.ref (M.length + 1))] ∧ S = M1 ++ [.lst left, .lst found] ∧ Drawn n M M1 ∧ PotAt M1 n (t + i) ∧ (found ++ left).Perm xs ∧ found.length = i
  obtain ⟨ρ', S', e, tn, M1, left, found, rfl, rfl, dr, pt, pm, fl⟩ := forL_inv (tg := .n 3) (f := fun ρ' M' => sxs (G.cfg (run G (k + 1))) (.cons (.ex (.bm .append (.v 5) (.cons (.bm .popAt (.v 4) (.cons (.call tk sh (.cons (.v 0) (.cons (.bi .len (.cons (.v 4) .nil)) .nil)) .nil) .nil)) .nil))) .nil) ρ' M') I
    (xs := (List.range (min m.toNat xs.length)).map fun i => .int (i : Nat)) (i := 0) (ρ := [some (.ref n), some d, some (.int m), none, some (.ref M.length), some (.ref (M.length + 1))]) (M := M ++ [.lst xs, .lst []])
    ⟨none, M, xs, [], rfl, rfl, Drawn.rfl hp, hp, by simp, rfl⟩ fun j x ρ S hj ⟨tn, M1, left, found, e1, e2, dr, pt, pm, fl⟩ => by
      subst e1 e2
      have hjl : j < min m.toNat xs.length := by
        have := (List.getElem?_eq_some_iff.mp hj).1
        simpa using this
      have hlen := pm.length_eq
      rw [List.length_append] at hlen
      have hM1 := dr.len
      have hn1 : n < M1.length := by omega
      obtain ⟨v, S2, et, v0, v1, pt2, dr2⟩ := T k n (t + (0 + j)) (left.length) _ (pt.app (T := [.lst left, .lst found])) (by omega) (by omega) (lg_lt (by omega) (by omega))
      obtain ⟨M2, rfl, dr3⟩ := dr2.app hn1
      have hM2 := dr3.len
      have pt3 := pt2.unapp (by omega)
      have hv : v.toNat < left.length := by omega
      have gl : left[v.toNat]? = some left[v.toNat] := List.getElem?_eq_getElem hv
      refine ⟨_, rfl, [some (.ref n), some d, some (.int m), some x, some (.ref M.length), some (.ref (M.length + 1))], M2 ++ [.lst (left.eraseIdx v.toNat), .lst (found ++ [left[v.toNat]])], ?_, some x, M2, _, _, rfl, rfl, dr.trans dr3, pt3, ?_, by simp; omega⟩
      · have q1 : (M1 ++ [Cell.lst left, .lst found])[M.length]? = some (.lst left) := by rw [← hM1]; exact g2a
        have q2 : (M1 ++ [Cell.lst left, .lst found])[M.length + 1]? = some (.lst found) := by rw [← hM1]; exact g2b
        have q3 : (M2 ++ [Cell.lst left, .lst found])[M.length]? = some (.lst left) := by rw [← hM1, ← hM2]; exact g2a
        have q4 : ∀ x, (M2 ++ [Cell.lst left, .lst found]).set M.length x = M2 ++ [x, .lst found] := fun x => by rw [← hM1, ← hM2]; exact s2a
        have q5 : ∀ y, (M2 ++ [y, .lst found])[M.length + 1]? = some (.lst found) := fun y => by rw [← hM1, ← hM2]; exact g2b
        have q6 : ∀ x y, (M2 ++ [y, .lst found]).set (M.length + 1) x = M2 ++ [y, x] := fun x y => by rw [← hM1, ← hM2]; exact s2b
        have fb : found.length < big := by unfold big; omega
        simp -implicitDefEqProofs only [bind_ok, bind_ex, fl_ok, fl_ex, seq_nx, seq_rt, seq_ex, q_k, q_v, q_g, q_tup, q_lst, q_bin, q_neg, q_evT, q_not, q_and1, q_and, q_or1, q_or, q_cmp, q_cmp2, q_ite, q_ix, q_sl, q_o0, q_o1, q_call, q_mk, q_bi, q_bm, q_attr, q_isi, q_e0, q_e1, q_e2, k_v, k_of, k_tup, k_tupX, k_lst, k_lstX, k_b1, k_b1X, k_b2, k_b2X, k_neg, k_t, k_tX, k_not, k_notX, k_and, k_andX, k_andT, k_andF, k_or, k_orX, k_orT, k_orF, k_c1, k_c1X, k_c2, k_c2X, k_d1, k_d2, k_d3T, k_d3F, k_d4, k_iT, k_iF, k_iX, k_x1, k_x1X, k_x2, k_x2X, k_s1, k_s2, k_s3, k_o, k_a1, k_a1X, k_a2, k_a2X, k_m1, k_m1X, k_m2, k_m2X, k_bi, k_biX, k_bm1, k_bm1X, k_bm2, k_bm3, k_bm3X, k_at, k_atX, k_is, k_isX, k_e1, k_e1X, k_e2, k_e2X, k_f1, k_f2, q_ss0, q_ss1, k_sq, k_sqR, k_sqX, k_sqB, k_sqC, q_set, k_set, k_setX, k_set2, q_par, k_p1, k_p1X, k_p2, k_p2X, q_sub, k_u1, k_u1X, k_u2, k_u3, k_u4, q_fld, k_w1, k_w1X, k_w2, q_ex, k_ex, k_exX, q_ret, k_rF, k_rT, k_rX, k_rf, q_retN, q_if, k_ifT, k_ifF, k_ifX, q_raise, k_rs, q_aug, k_agA, k_agS, q_pass, q_brk, q_cont, fin_rt, fin_nx, fin_ex, cmpR.eq_def, clsD.eq_def, ixD.eq_def, seqOf.eq_def, bin.eq_def, binI_add, binI_sub, binI_mod, binI_fdiv, binI_mulL, binI_mulR, Bool.and_self, sm_a, sm_b, sm_c, sm_d, sm_e, sm_f, sm_g, sm_h, sm_i, sm_j, sm_k, lg64, lg4096, lg65536, cmp.eq_def, truth.eq_def, biD.eq_def, lenD.eq_def, absD.eq_def, intD.eq_def, minD.eq_def, maxD.eq_def, newL.eq_def, bindT.eq_1, bindT.eq_2, bindT.eq_3, setD.eq_def, isNone.eq_def, List.getElem?_cons_zero, List.getElem?_cons_succ, List.set_cons_zero, List.set_cons_succ, List.length_cons, List.length_nil, at0, at1, at2, at3, if_true, if_false, decide_true, decide_false, and_self, and_true, true_and, Bool.false_eq_true, Nat.reduceAdd, Nat.reduceLT, Nat.reduceLeDiff, Nat.reduceSub, Nat.reduceEqDiff, Int.reduceLT, Int.reduceLE, Int.reduceNeg, Int.reduceToNat, reduceIte, reduceCtorEq, ix3_0, ix3_1, ix3_2, big, Nat.zero_le, ne_eq, not_false_eq_true, not_true_eq_false, isiD.eq_1, isiD.eq_2, isiOne.eq_def, tyBlt.eq_def, Option.map_some, Bool.not_true, Bool.not_false, S.call, hs _, callG.eq_def, sel.eq_1, sel.eq_2, sel.eq_3, sel.eq_4, List.append_nil, List.cons_append, List.nil_append, et, recvOk.eq_def, q1, q2, q3, bmD.eq_def, popAtD.eq_def, appendD.eq_def, v0, v1, gl, q4, q5, q6, fb]
      · refine List.Perm.trans ?_ pm
        have e1 : (left[v.toNat] :: left.eraseIdx v.toNat).Perm left := by
          have e2 : left = left.take v.toNat ++ left[v.toNat] :: left.drop (v.toNat + 1) := by simp
          rw [List.eraseIdx_eq_take_drop_succ]
          exact List.Perm.trans List.perm_middle.symm (by rw [← e2])
        rw [List.append_assoc]
        exact List.Perm.append_left _ e1
  have hM1 := dr.len
  have hn1 : n < M1.length := by omega
  have hfl : found.length = min m.toNat xs.length := by rw [fl]; simp
  have q1 : (M1 ++ [Cell.lst left, .lst found])[M.length + 1]? = some (.lst found) := by rw [← hM1]; exact g2b
  have q2 : ∀ x, (M1 ++ [Cell.lst left, .lst found]).set (M.length + 1) x = M1 ++ [.lst left, x] := fun x => by rw [← hM1]; exact s2b
  have q0 : M ++ [Cell.lst xs] ++ [Cell.lst []] = M ++ [.lst xs, .lst []] := by simp
  have q3 : (M ++ [Cell.lst xs, .lst []])[M.length]? = some (.lst xs) := g2a
  have ll : (M ++ [Cell.lst xs]).length = M.length + 1 := by simp
  have hloop : sx (G.cfg (run G (k + 1))) (.for_ .rng (.cons (.bi .min (.cons (.v 2) (.cons (.bi .len (.cons (.v 4) .nil)) .nil))) .nil) (.n 3) (.cons (.ex (.bm .append (.v 5) (.cons (.bm .popAt (.v 4) (.cons (.call tk sh (.cons (.v 0) (.cons (.bi .len (.cons (.v 4) .nil)) .nil)) .nil) .nil)) .nil))) .nil)) [some (.ref n), some d, some (.int m), none, some (.ref M.length), some (.ref (M.length + 1))] (M ++ [.lst xs, .lst []]) = _ :=
    (for_rng (ds := [.int (min m.toNat xs.length : Nat)]) (M1 := M ++ [.lst xs, .lst []]) (by simp -implicitDefEqProofs only [bind_ok, bind_ex, fl_ok, fl_ex, seq_nx, seq_rt, seq_ex, q_k, q_v, q_g, q_tup, q_lst, q_bin, q_neg, q_evT, q_not, q_and1, q_and, q_or1, q_or, q_cmp, q_cmp2, q_ite, q_ix, q_sl, q_o0, q_o1, q_call, q_mk, q_bi, q_bm, q_attr, q_isi, q_e0, q_e1, q_e2, k_v, k_of, k_tup, k_tupX, k_lst, k_lstX, k_b1, k_b1X, k_b2, k_b2X, k_neg, k_t, k_tX, k_not, k_notX, k_and, k_andX, k_andT, k_andF, k_or, k_orX, k_orT, k_orF, k_c1, k_c1X, k_c2, k_c2X, k_d1, k_d2, k_d3T, k_d3F, k_d4, k_iT, k_iF, k_iX, k_x1, k_x1X, k_x2, k_x2X, k_s1, k_s2, k_s3, k_o, k_a1, k_a1X, k_a2, k_a2X, k_m1, k_m1X, k_m2, k_m2X, k_bi, k_biX, k_bm1, k_bm1X, k_bm2, k_bm3, k_bm3X, k_at, k_atX, k_is, k_isX, k_e1, k_e1X, k_e2, k_e2X, k_f1, k_f2, q_ss0, q_ss1, k_sq, k_sqR, k_sqX, k_sqB, k_sqC, q_set, k_set, k_setX, k_set2, q_par, k_p1, k_p1X, k_p2, k_p2X, q_sub, k_u1, k_u1X, k_u2, k_u3, k_u4, q_fld, k_w1, k_w1X, k_w2, q_ex, k_ex, k_exX, q_ret, k_rF, k_rT, k_rX, k_rf, q_retN, q_if, k_ifT, k_ifF, k_ifX, q_raise, k_rs, q_aug, k_agA, k_agS, q_pass, q_brk, q_cont, fin_rt, fin_nx, fin_ex, cmpR.eq_def, clsD.eq_def, ixD.eq_def, seqOf.eq_def, bin.eq_def, binI_add, binI_sub, binI_mod, binI_fdiv, binI_mulL, binI_mulR, Bool.and_self, sm_a, sm_b, sm_c, sm_d, sm_e, sm_f, sm_g, sm_h, sm_i, sm_j, sm_k, lg64, lg4096, lg65536, cmp.eq_def, truth.eq_def, biD.eq_def, lenD.eq_def, absD.eq_def, intD.eq_def, minD.eq_def, maxD.eq_def, newL.eq_def, bindT.eq_1, bindT.eq_2, bindT.eq_3, setD.eq_def, isNone.eq_def, List.getElem?_cons_zero, List.getElem?_cons_succ, List.set_cons_zero, List.set_cons_succ, List.length_cons, List.length_nil, at0, at1, at2, at3, if_true, if_false, decide_true, decide_false, and_self, and_true, true_and, Bool.false_eq_true, Nat.reduceAdd, Nat.reduceLT, Nat.reduceLeDiff, Nat.reduceSub, Nat.reduceEqDiff, Int.reduceLT, Int.reduceLE, Int.reduceNeg, Int.reduceToNat, reduceIte, reduceCtorEq, ix3_0, ix3_1, ix3_2, big, Nat.zero_le, ne_eq, not_false_eq_true, not_true_eq_false, isiD.eq_1, isiD.eq_2, isiOne.eq_def, tyBlt.eq_def, Option.map_some, Bool.not_true, Bool.not_false, q3]; rw [ho]) (by rw [items_rng (by omega) (by omega), Int.toNat_natCast])).trans e
  refine ⟨found, left, M1, ?_, pm, hfl, by rw [hfl]; simpa using pt, dr⟩
  have h1 : sx (G.cfg (run G (k + 1))) (.par 4 5 (.bi (.list true) (.cons (.v 1) .nil)) (.lst true .nil)) [some (.ref n), some d, some (.int m), none, none, none] M = .nx [some (.ref n), some d, some (.int m), none, some (.ref M.length), some (.ref (M.length + 1))] (M ++ [.lst xs, .lst []]) := by
    simp -implicitDefEqProofs only [bind_ok, bind_ex, fl_ok, fl_ex, seq_nx, seq_rt, seq_ex, q_k, q_v, q_g, q_tup, q_lst, q_bin, q_neg, q_evT, q_not, q_and1, q_and, q_or1, q_or, q_cmp, q_cmp2, q_ite, q_ix, q_sl, q_o0, q_o1, q_call, q_mk, q_bi, q_bm, q_attr, q_isi, q_e0, q_e1, q_e2, k_v, k_of, k_tup, k_tupX, k_lst, k_lstX, k_b1, k_b1X, k_b2, k_b2X, k_neg, k_t, k_tX, k_not, k_notX, k_and, k_andX, k_andT, k_andF, k_or, k_orX, k_orT, k_orF, k_c1, k_c1X, k_c2, k_c2X, k_d1, k_d2, k_d3T, k_d3F, k_d4, k_iT, k_iF, k_iX, k_x1, k_x1X, k_x2, k_x2X, k_s1, k_s2, k_s3, k_o, k_a1, k_a1X, k_a2, k_a2X, k_m1, k_m1X, k_m2, k_m2X, k_bi, k_biX, k_bm1, k_bm1X, k_bm2, k_bm3, k_bm3X, k_at, k_atX, k_is, k_isX, k_e1, k_e1X, k_e2, k_e2X, k_f1, k_f2, q_ss0, q_ss1, k_sq, k_sqR, k_sqX, k_sqB, k_sqC, q_set, k_set, k_setX, k_set2, q_par, k_p1, k_p1X, k_p2, k_p2X, q_sub, k_u1, k_u1X, k_u2, k_u3, k_u4, q_fld, k_w1, k_w1X, k_w2, q_ex, k_ex, k_exX, q_ret, k_rF, k_rT, k_rX, k_rf, q_retN, q_if, k_ifT, k_ifF, k_ifX, q_raise, k_rs, q_aug, k_agA, k_agS, q_pass, q_brk, q_cont, fin_rt, fin_nx, fin_ex, cmpR.eq_def, clsD.eq_def, ixD.eq_def, seqOf.eq_def, bin.eq_def, binI_add, binI_sub, binI_mod, binI_fdiv, binI_mulL, binI_mulR, Bool.and_self, sm_a, sm_b, sm_c, sm_d, sm_e, sm_f, sm_g, sm_h, sm_i, sm_j, sm_k, lg64, lg4096, lg65536, cmp.eq_def, truth.eq_def, biD.eq_def, lenD.eq_def, absD.eq_def, intD.eq_def, minD.eq_def, maxD.eq_def, newL.eq_def, bindT.eq_1, bindT.eq_2, bindT.eq_3, setD.eq_def, isNone.eq_def, List.getElem?_cons_zero, List.getElem?_cons_succ, List.set_cons_zero, List.set_cons_succ, List.length_cons, List.length_nil, at0, at1, at2, at3, if_true, if_false, decide_true, decide_false, and_self, and_true, true_and, Bool.false_eq_true, Nat.reduceAdd, Nat.reduceLT, Nat.reduceLeDiff, Nat.reduceSub, Nat.reduceEqDiff, Int.reduceLT, Int.reduceLE, Int.reduceNeg, Int.reduceToNat, reduceIte, reduceCtorEq, ix3_0, ix3_1, ix3_2, big, Nat.zero_le, ne_eq, not_false_eq_true, not_true_eq_false, isiD.eq_1, isiD.eq_2, isiOne.eq_def, tyBlt.eq_def, Option.map_some, Bool.not_true, Bool.not_false, hl0, List.length_append, q0, q3, ll]
  rw [sxs_nx h1, sxs_nx hloop]
  simp -implicitDefEqProofs only [bind_ok, bind_ex, fl_ok, fl_ex, seq_nx, seq_rt, seq_ex, q_k, q_v, q_g, q_tup, q_lst, q_bin, q_neg, q_evT, q_not, q_and1, q_and, q_or1, q_or, q_cmp, q_cmp2, q_ite, q_ix, q_sl, q_o0, q_o1, q_call, q_mk, q_bi, q_bm, q_attr, q_isi, q_e0, q_e1, q_e2, k_v, k_of, k_tup, k_tupX, k_lst, k_lstX, k_b1, k_b1X, k_b2, k_b2X, k_neg, k_t, k_tX, k_not, k_notX, k_and, k_andX, k_andT, k_andF, k_or, k_orX, k_orT, k_orF, k_c1, k_c1X, k_c2, k_c2X, k_d1, k_d2, k_d3T, k_d3F, k_d4, k_iT, k_iF, k_iX, k_x1, k_x1X, k_x2, k_x2X, k_s1, k_s2, k_s3, k_o, k_a1, k_a1X, k_a2, k_a2X, k_m1, k_m1X, k_m2, k_m2X, k_bi, k_biX, k_bm1, k_bm1X, k_bm2, k_bm3, k_bm3X, k_at, k_atX, k_is, k_isX, k_e1, k_e1X, k_e2, k_e2X, k_f1, k_f2, q_ss0, q_ss1, k_sq, k_sqR, k_sqX, k_sqB, k_sqC, q_set, k_set, k_setX, k_set2, q_par, k_p1, k_p1X, k_p2, k_p2X, q_sub, k_u1, k_u1X, k_u2, k_u3, k_u4, q_fld, k_w1, k_w1X, k_w2, q_ex, k_ex, k_exX, q_ret, k_rF, k_rT, k_rX, k_rf, q_retN, q_if, k_ifT, k_ifF, k_ifX, q_raise, k_rs, q_aug, k_agA, k_agS, q_pass, q_brk, q_cont, fin_rt, fin_nx, fin_ex, cmpR.eq_def, clsD.eq_def, ixD.eq_def, seqOf.eq_def, bin.eq_def, binI_add, binI_sub, binI_mod, binI_fdiv, binI_mulL, binI_mulR, Bool.and_self, sm_a, sm_b, sm_c, sm_d, sm_e, sm_f, sm_g, sm_h, sm_i, sm_j, sm_k, lg64, lg4096, lg65536, cmp.eq_def, truth.eq_def, biD.eq_def, lenD.eq_def, absD.eq_def, intD.eq_def, minD.eq_def, maxD.eq_def, newL.eq_def, bindT.eq_1, bindT.eq_2, bindT.eq_3, setD.eq_def, isNone.eq_def, List.getElem?_cons_zero, List.getElem?_cons_succ, List.set_cons_zero, List.set_cons_succ, List.length_cons, List.length_nil, at0, at1, at2, at3, if_true, if_false, decide_true, decide_false, and_self, and_true, true_and, Bool.false_eq_true, Nat.reduceAdd, Nat.reduceLT, Nat.reduceLeDiff, Nat.reduceSub, Nat.reduceEqDiff, Int.reduceLT, Int.reduceLE, Int.reduceNeg, Int.reduceToNat, reduceIte, reduceCtorEq, ix3_0, ix3_1, ix3_2, big, Nat.zero_le, ne_eq, not_false_eq_true, not_true_eq_false, isiD.eq_1, isiD.eq_2, isiOne.eq_def, tyBlt.eq_def, Option.map_some, Bool.not_true, Bool.not_false, freeze.eq_def, q1, q2]
  refine gc_ok dr.gc dr.len ?_
  have hf : D.pures found = true := pures_iff.mpr fun y hy => pures_iff.mp hu y (pm.mem_iff.mp (by simp [hy]))
  show D.unds M.length found = true
  exact D.unds_pure found hf
end Dv
/-! Bags. -/
namespace Dv
open PySem
def BagOk (G : Prg) (f : Nat) : Prop := ∀ (k : Nat) (M : Store) (ns : List Int) (i : Nat), i < 100 → ∃ a b : Int, run G (k + 1) f [.scr ns, .int (i : Nat)] M = .ok (.ref M.length) (M ++ [.lst [.int a, .int b, .int 0]]) ∧ 0 ≤ a ∧ 0 ≤ b ∧ b < 1180591620717411303424
theorem p10_18 : binI .pow 10 18 = some (.int 1000000000000000000) := by decide +kernel
def BagB1 : Ss := .cons (.set (.n 2) (.ite (.cmp .lt (.v 1) (.bi .len (.cons (.v 0) .nil))) (.ix (.v 0) (.v 1)) (.k (.int 0)))) (.cons (.set (.n 3) (.ite (.cmp .ge (.bi .abs (.cons (.v 2) .nil)) (.bin .pow (.k (.int 10)) (.k (.int 18)))) (.bi .abs (.cons (.v 2) .nil)) (.k (.int 0)))) (.cons (.set (.n 4) (.bin .add (.bin .add (.bin .add (.bin .mul (.k (.int 6)) (.bi .abs (.cons (.v 2) .nil))) (.bin .mul (.k (.int 3)) (.bi .int (.cons (.cmp .lt (.v 2) (.k (.int 0))) .nil)))) (.bin .mul (.k (.int 9973)) (.v 1))) (.k (.int 11)))) (.cons (.ret false (.lst true (.cons (.v 3) (.cons (.bin .mod (.bi .int (.cons (.v 4) .nil)) (.k (.int 2305843009213693951))) (.cons (.k (.int 0)) .nil))))) .nil)))
def absI (i : Int) : Int := if i < 0 then -i else i
theorem absI_nn (i : Int) : 0 ≤ absI i := by unfold absI; split <;> omega
/-- the cell of the script -/
theorem cell_ok {C : Cfg} {ns : List Int} {i ml : Nat} {r : Env} {M : Store} : ∃ c : Int, sx C (.set (.n 2) (.ite (.cmp .lt (.v 1) (.bi .len (.cons (.v 0) .nil))) (.ix (.v 0) (.v 1)) (.k (.int 0)))) (some (.scr ns) :: some (.int (i : Nat)) :: none :: r) M = .nx (some (.scr ns) :: some (.int (i : Nat)) :: some (.int c) :: r) M := by
  by_cases h : i < ns.length
  · refine ⟨ns[i], ?_⟩
    have h' : ((i : Nat) : Int) < ns.length := by omega
    have ea : L2.atI (ns.map D.int) (i : Nat) = some (.int ns[i]) := by
      rw [atN _ _ (by omega) (by simpa using h')]
      simp [h]
    have hl : 2 < r.length + 1 + 1 + 1 := by omega
    simp -implicitDefEqProofs only [bind_ok, bind_ex, fl_ok, fl_ex, seq_nx, seq_rt, seq_ex, q_k, q_v, q_g, q_tup, q_lst, q_bin, q_neg, q_evT, q_not, q_and1, q_and, q_or1, q_or, q_cmp, q_cmp2, q_ite, q_ix, q_sl, q_o0, q_o1, q_call, q_mk, q_bi, q_bm, q_attr, q_isi, q_e0, q_e1, q_e2, k_v, k_of, k_tup, k_tupX, k_lst, k_lstX, k_b1, k_b1X, k_b2, k_b2X, k_neg, k_t, k_tX, k_not, k_notX, k_and, k_andX, k_andT, k_andF, k_or, k_orX, k_orT, k_orF, k_c1, k_c1X, k_c2, k_c2X, k_d1, k_d2, k_d3T, k_d3F, k_d4, k_iT, k_iF, k_iX, k_x1, k_x1X, k_x2, k_x2X, k_s1, k_s2, k_s3, k_o, k_a1, k_a1X, k_a2, k_a2X, k_m1, k_m1X, k_m2, k_m2X, k_bi, k_biX, k_bm1, k_bm1X, k_bm2, k_bm3, k_bm3X, k_at, k_atX, k_is, k_isX, k_e1, k_e1X, k_e2, k_e2X, k_f1, k_f2, q_ss0, q_ss1, k_sq, k_sqR, k_sqX, k_sqB, k_sqC, q_set, k_set, k_setX, k_set2, q_par, k_p1, k_p1X, k_p2, k_p2X, q_sub, k_u1, k_u1X, k_u2, k_u3, k_u4, q_fld, k_w1, k_w1X, k_w2, q_ex, k_ex, k_exX, q_ret, k_rF, k_rT, k_rX, k_rf, q_retN, q_if, k_ifT, k_ifF, k_ifX, q_raise, k_rs, q_aug, k_agA, k_agS, q_pass, q_brk, q_cont, fin_rt, fin_nx, fin_ex, cmpR.eq_def, clsD.eq_def, ixD.eq_def, seqOf.eq_def, bin.eq_def, binI_add, binI_sub, binI_mod, binI_fdiv, binI_mulL, binI_mulR, Bool.and_self, sm_a, sm_b, sm_c, sm_d, sm_e, sm_f, sm_g, sm_h, sm_i, sm_j, sm_k, lg64, lg4096, lg65536, cmp.eq_def, truth.eq_def, biD.eq_def, lenD.eq_def, absD.eq_def, intD.eq_def, minD.eq_def, maxD.eq_def, newL.eq_def, bindT.eq_1, bindT.eq_2, bindT.eq_3, setD.eq_def, isNone.eq_def, List.getElem?_cons_zero, List.getElem?_cons_succ, List.set_cons_zero, List.set_cons_succ, List.length_cons, List.length_nil, at0, at1, at2, at3, if_true, if_false, decide_true, decide_false, and_self, and_true, true_and, Bool.false_eq_true, Nat.reduceAdd, Nat.reduceLT, Nat.reduceLeDiff, Nat.reduceSub, Nat.reduceEqDiff, Int.reduceLT, Int.reduceLE, Int.reduceNeg, Int.reduceToNat, reduceIte, reduceCtorEq, ix3_0, ix3_1, ix3_2, big, Nat.zero_le, ne_eq, not_false_eq_true, not_true_eq_false, isiD.eq_1, isiD.eq_2, isiOne.eq_def, tyBlt.eq_def, Option.map_some, Bool.not_true, Bool.not_false, List.length_map, h', ea, hl]
  · refine ⟨0, ?_⟩
    have h' : ¬ ((i : Nat) : Int) < ns.length := by omega
    have hl : 2 < r.length + 1 + 1 + 1 := by omega
    simp -implicitDefEqProofs only [bind_ok, bind_ex, fl_ok, fl_ex, seq_nx, seq_rt, seq_ex, q_k, q_v, q_g, q_tup, q_lst, q_bin, q_neg, q_evT, q_not, q_and1, q_and, q_or1, q_or, q_cmp, q_cmp2, q_ite, q_ix, q_sl, q_o0, q_o1, q_call, q_mk, q_bi, q_bm, q_attr, q_isi, q_e0, q_e1, q_e2, k_v, k_of, k_tup, k_tupX, k_lst, k_lstX, k_b1, k_b1X, k_b2, k_b2X, k_neg, k_t, k_tX, k_not, k_notX, k_and, k_andX, k_andT, k_andF, k_or, k_orX, k_orT, k_orF, k_c1, k_c1X, k_c2, k_c2X, k_d1, k_d2, k_d3T, k_d3F, k_d4, k_iT, k_iF, k_iX, k_x1, k_x1X, k_x2, k_x2X, k_s1, k_s2, k_s3, k_o, k_a1, k_a1X, k_a2, k_a2X, k_m1, k_m1X, k_m2, k_m2X, k_bi, k_biX, k_bm1, k_bm1X, k_bm2, k_bm3, k_bm3X, k_at, k_atX, k_is, k_isX, k_e1, k_e1X, k_e2, k_e2X, k_f1, k_f2, q_ss0, q_ss1, k_sq, k_sqR, k_sqX, k_sqB, k_sqC, q_set, k_set, k_setX, k_set2, q_par, k_p1, k_p1X, k_p2, k_p2X, q_sub, k_u1, k_u1X, k_u2, k_u3, k_u4, q_fld, k_w1, k_w1X, k_w2, q_ex, k_ex, k_exX, q_ret, k_rF, k_rT, k_rX, k_rf, q_retN, q_if, k_ifT, k_ifF, k_ifX, q_raise, k_rs, q_aug, k_agA, k_agS, q_pass, q_brk, q_cont, fin_rt, fin_nx, fin_ex, cmpR.eq_def, clsD.eq_def, ixD.eq_def, seqOf.eq_def, bin.eq_def, binI_add, binI_sub, binI_mod, binI_fdiv, binI_mulL, binI_mulR, Bool.and_self, sm_a, sm_b, sm_c, sm_d, sm_e, sm_f, sm_g, sm_h, sm_i, sm_j, sm_k, lg64, lg4096, lg65536, cmp.eq_def, truth.eq_def, biD.eq_def, lenD.eq_def, absD.eq_def, intD.eq_def, minD.eq_def, maxD.eq_def, newL.eq_def, bindT.eq_1, bindT.eq_2, bindT.eq_3, setD.eq_def, isNone.eq_def, List.getElem?_cons_zero, List.getElem?_cons_succ, List.set_cons_zero, List.set_cons_succ, List.length_cons, List.length_nil, at0, at1, at2, at3, if_true, if_false, decide_true, decide_false, and_self, and_true, true_and, Bool.false_eq_true, Nat.reduceAdd, Nat.reduceLT, Nat.reduceLeDiff, Nat.reduceSub, Nat.reduceEqDiff, Int.reduceLT, Int.reduceLE, Int.reduceNeg, Int.reduceToNat, reduceIte, reduceCtorEq, ix3_0, ix3_1, ix3_2, big, Nat.zero_le, ne_eq, not_false_eq_true, not_true_eq_false, isiD.eq_1, isiD.eq_2, isiOne.eq_def, tyBlt.eq_def, Option.map_some, Bool.not_true, Bool.not_false, List.length_map, h', hl]
theorem bag1 {G : Prg} {f : Nat} (hG : G.fn f = some ⟨2, 5, BagB1⟩) : BagOk G f := by
  intro k M ns i hi
  rw [run_eq hG ⟨rfl, (by decide : 2 ≤ 5)⟩]
  show ∃ a b, fin M (sxs _ BagB1 [some (.scr ns), some (.int (i : Nat)), none, none, none] M) = _ ∧ _
  unfold BagB1
  obtain ⟨c, hc⟩ := cell_ok (C := G.cfg (run G k)) (ns := ns) (i := i) (ml := 0) (r := [none, none]) (M := M)
  rw [sxs_nx hc]
  have h2 : ∃ a : Int, 0 ≤ a ∧ sx (G.cfg (run G k)) (.set (.n 3) (.ite (.cmp .ge (.bi .abs (.cons (.v 2) .nil)) (.bin .pow (.k (.int 10)) (.k (.int 18)))) (.bi .abs (.cons (.v 2) .nil)) (.k (.int 0)))) [some (.scr ns), some (.int (i : Nat)), some (.int c), none, none] M = .nx [some (.scr ns), some (.int (i : Nat)), some (.int c), some (.int a), none] M := by
    have ha : (if c < 0 then -c else c) = absI c := rfl
    by_cases h : 1000000000000000000 ≤ absI c
    · refine ⟨absI c, absI_nn c, ?_⟩
      simp -implicitDefEqProofs only [bind_ok, bind_ex, fl_ok, fl_ex, seq_nx, seq_rt, seq_ex, q_k, q_v, q_g, q_tup, q_lst, q_bin, q_neg, q_evT, q_not, q_and1, q_and, q_or1, q_or, q_cmp, q_cmp2, q_ite, q_ix, q_sl, q_o0, q_o1, q_call, q_mk, q_bi, q_bm, q_attr, q_isi, q_e0, q_e1, q_e2, k_v, k_of, k_tup, k_tupX, k_lst, k_lstX, k_b1, k_b1X, k_b2, k_b2X, k_neg, k_t, k_tX, k_not, k_notX, k_and, k_andX, k_andT, k_andF, k_or, k_orX, k_orT, k_orF, k_c1, k_c1X, k_c2, k_c2X, k_d1, k_d2, k_d3T, k_d3F, k_d4, k_iT, k_iF, k_iX, k_x1, k_x1X, k_x2, k_x2X, k_s1, k_s2, k_s3, k_o, k_a1, k_a1X, k_a2, k_a2X, k_m1, k_m1X, k_m2, k_m2X, k_bi, k_biX, k_bm1, k_bm1X, k_bm2, k_bm3, k_bm3X, k_at, k_atX, k_is, k_isX, k_e1, k_e1X, k_e2, k_e2X, k_f1, k_f2, q_ss0, q_ss1, k_sq, k_sqR, k_sqX, k_sqB, k_sqC, q_set, k_set, k_setX, k_set2, q_par, k_p1, k_p1X, k_p2, k_p2X, q_sub, k_u1, k_u1X, k_u2, k_u3, k_u4, q_fld, k_w1, k_w1X, k_w2, q_ex, k_ex, k_exX, q_ret, k_rF, k_rT, k_rX, k_rf, q_retN, q_if, k_ifT, k_ifF, k_ifX, q_raise, k_rs, q_aug, k_agA, k_agS, q_pass, q_brk, q_cont, fin_rt, fin_nx, fin_ex, cmpR.eq_def, clsD.eq_def, ixD.eq_def, seqOf.eq_def, bin.eq_def, binI_add, binI_sub, binI_mod, binI_fdiv, binI_mulL, binI_mulR, Bool.and_self, sm_a, sm_b, sm_c, sm_d, sm_e, sm_f, sm_g, sm_h, sm_i, sm_j, sm_k, lg64, lg4096, lg65536, cmp.eq_def, truth.eq_def, biD.eq_def, lenD.eq_def, absD.eq_def, intD.eq_def, minD.eq_def, maxD.eq_def, newL.eq_def, bindT.eq_1, bindT.eq_2, bindT.eq_3, setD.eq_def, isNone.eq_def, List.getElem?_cons_zero, List.getElem?_cons_succ, List.set_cons_zero, List.set_cons_succ, List.length_cons, List.length_nil, at0, at1, at2, at3, if_true, if_false, decide_true, decide_false, and_self, and_true, true_and, Bool.false_eq_true, Nat.reduceAdd, Nat.reduceLT, Nat.reduceLeDiff, Nat.reduceSub, Nat.reduceEqDiff, Int.reduceLT, Int.reduceLE, Int.reduceNeg, Int.reduceToNat, reduceIte, reduceCtorEq, ix3_0, ix3_1, ix3_2, big, Nat.zero_le, ne_eq, not_false_eq_true, not_true_eq_false, isiD.eq_1, isiD.eq_2, isiOne.eq_def, tyBlt.eq_def, Option.map_some, Bool.not_true, Bool.not_false, p10_18, ha, h]
    · refine ⟨0, by omega, ?_⟩
      simp -implicitDefEqProofs only [bind_ok, bind_ex, fl_ok, fl_ex, seq_nx, seq_rt, seq_ex, q_k, q_v, q_g, q_tup, q_lst, q_bin, q_neg, q_evT, q_not, q_and1, q_and, q_or1, q_or, q_cmp, q_cmp2, q_ite, q_ix, q_sl, q_o0, q_o1, q_call, q_mk, q_bi, q_bm, q_attr, q_isi, q_e0, q_e1, q_e2, k_v, k_of, k_tup, k_tupX, k_lst, k_lstX, k_b1, k_b1X, k_b2, k_b2X, k_neg, k_t, k_tX, k_not, k_notX, k_and, k_andX, k_andT, k_andF, k_or, k_orX, k_orT, k_orF, k_c1, k_c1X, k_c2, k_c2X, k_d1, k_d2, k_d3T, k_d3F, k_d4, k_iT, k_iF, k_iX, k_x1, k_x1X, k_x2, k_x2X, k_s1, k_s2, k_s3, k_o, k_a1, k_a1X, k_a2, k_a2X, k_m1, k_m1X, k_m2, k_m2X, k_bi, k_biX, k_bm1, k_bm1X, k_bm2, k_bm3, k_bm3X, k_at, k_atX, k_is, k_isX, k_e1, k_e1X, k_e2, k_e2X, k_f1, k_f2, q_ss0, q_ss1, k_sq, k_sqR, k_sqX, k_sqB, k_sqC, q_set, k_set, k_setX, k_set2, q_par, k_p1, k_p1X, k_p2, k_p2X, q_sub, k_u1, k_u1X, k_u2, k_u3, k_u4, q_fld, k_w1, k_w1X, k_w2, q_ex, k_ex, k_exX, q_ret, k_rF, k_rT, k_rX, k_rf, q_retN, q_if, k_ifT, k_ifF, k_ifX, q_raise, k_rs, q_aug, k_agA, k_agS, q_pass, q_brk, q_cont, fin_rt, fin_nx, fin_ex, cmpR.eq_def, clsD.eq_def, ixD.eq_def, seqOf.eq_def, bin.eq_def, binI_add, binI_sub, binI_mod, binI_fdiv, binI_mulL, binI_mulR, Bool.and_self, sm_a, sm_b, sm_c, sm_d, sm_e, sm_f, sm_g, sm_h, sm_i, sm_j, sm_k, lg64, lg4096, lg65536, cmp.eq_def, truth.eq_def, biD.eq_def, lenD.eq_def, absD.eq_def, intD.eq_def, minD.eq_def, maxD.eq_def, newL.eq_def, bindT.eq_1, bindT.eq_2, bindT.eq_3, setD.eq_def, isNone.eq_def, List.getElem?_cons_zero, List.getElem?_cons_succ, List.set_cons_zero, List.set_cons_succ, List.length_cons, List.length_nil, at0, at1, at2, at3, if_true, if_false, decide_true, decide_false, and_self, and_true, true_and, Bool.false_eq_true, Nat.reduceAdd, Nat.reduceLT, Nat.reduceLeDiff, Nat.reduceSub, Nat.reduceEqDiff, Int.reduceLT, Int.reduceLE, Int.reduceNeg, Int.reduceToNat, reduceIte, reduceCtorEq, ix3_0, ix3_1, ix3_2, big, Nat.zero_le, ne_eq, not_false_eq_true, not_true_eq_false, isiD.eq_1, isiD.eq_2, isiOne.eq_def, tyBlt.eq_def, Option.map_some, Bool.not_true, Bool.not_false, p10_18, ha, h]
  obtain ⟨a, a0, h2⟩ := h2
  rw [sxs_nx h2]
  have e1 := Int.emod_nonneg (6 * absI c + 3 * (if decide (c < 0) = true then 1 else 0) + 9973 * (i : Nat) + 11) (show (2305843009213693951 : Int) ≠ 0 by decide)
  have e2 := Int.emod_lt_of_pos (6 * absI c + 3 * (if decide (c < 0) = true then 1 else 0) + 9973 * (i : Nat) + 11) (show (0 : Int) < 2305843009213693951 by decide)
  refine ⟨a, _, ?_, a0, e1, by omega⟩
  have ha : (if c < 0 then -c else c) = absI c := rfl
  simp -implicitDefEqProofs only [bind_ok, bind_ex, fl_ok, fl_ex, seq_nx, seq_rt, seq_ex, q_k, q_v, q_g, q_tup, q_lst, q_bin, q_neg, q_evT, q_not, q_and1, q_and, q_or1, q_or, q_cmp, q_cmp2, q_ite, q_ix, q_sl, q_o0, q_o1, q_call, q_mk, q_bi, q_bm, q_attr, q_isi, q_e0, q_e1, q_e2, k_v, k_of, k_tup, k_tupX, k_lst, k_lstX, k_b1, k_b1X, k_b2, k_b2X, k_neg, k_t, k_tX, k_not, k_notX, k_and, k_andX, k_andT, k_andF, k_or, k_orX, k_orT, k_orF, k_c1, k_c1X, k_c2, k_c2X, k_d1, k_d2, k_d3T, k_d3F, k_d4, k_iT, k_iF, k_iX, k_x1, k_x1X, k_x2, k_x2X, k_s1, k_s2, k_s3, k_o, k_a1, k_a1X, k_a2, k_a2X, k_m1, k_m1X, k_m2, k_m2X, k_bi, k_biX, k_bm1, k_bm1X, k_bm2, k_bm3, k_bm3X, k_at, k_atX, k_is, k_isX, k_e1, k_e1X, k_e2, k_e2X, k_f1, k_f2, q_ss0, q_ss1, k_sq, k_sqR, k_sqX, k_sqB, k_sqC, q_set, k_set, k_setX, k_set2, q_par, k_p1, k_p1X, k_p2, k_p2X, q_sub, k_u1, k_u1X, k_u2, k_u3, k_u4, q_fld, k_w1, k_w1X, k_w2, q_ex, k_ex, k_exX, q_ret, k_rF, k_rT, k_rX, k_rf, q_retN, q_if, k_ifT, k_ifF, k_ifX, q_raise, k_rs, q_aug, k_agA, k_agS, q_pass, q_brk, q_cont, fin_rt, fin_nx, fin_ex, cmpR.eq_def, clsD.eq_def, ixD.eq_def, seqOf.eq_def, bin.eq_def, binI_add, binI_sub, binI_mod, binI_fdiv, binI_mulL, binI_mulR, Bool.and_self, sm_a, sm_b, sm_c, sm_d, sm_e, sm_f, sm_g, sm_h, sm_i, sm_j, sm_k, lg64, lg4096, lg65536, cmp.eq_def, truth.eq_def, biD.eq_def, lenD.eq_def, absD.eq_def, intD.eq_def, minD.eq_def, maxD.eq_def, newL.eq_def, bindT.eq_1, bindT.eq_2, bindT.eq_3, setD.eq_def, isNone.eq_def, List.getElem?_cons_zero, List.getElem?_cons_succ, List.set_cons_zero, List.set_cons_succ, List.length_cons, List.length_nil, at0, at1, at2, at3, if_true, if_false, decide_true, decide_false, and_self, and_true, true_and, Bool.false_eq_true, Nat.reduceAdd, Nat.reduceLT, Nat.reduceLeDiff, Nat.reduceSub, Nat.reduceEqDiff, Int.reduceLT, Int.reduceLE, Int.reduceNeg, Int.reduceToNat, reduceIte, reduceCtorEq, ix3_0, ix3_1, ix3_2, big, Nat.zero_le, ne_eq, not_false_eq_true, not_true_eq_false, isiD.eq_1, isiD.eq_2, isiOne.eq_def, tyBlt.eq_def, Option.map_some, Bool.not_true, Bool.not_false, ha]
  simp [gc, D.und]
end Dv
/-! Words. -/
namespace Dv
open PySem
def abc : Str := "abcdefghijklmnopqrstuvwxyz"
def sOf (cs : List Nat) : Str := ⟨cs.toArray⟩
theorem sOf_list (cs : List Nat) : (sOf cs).cps.toList = cs := by simp [sOf]
theorem sOf_len (cs : List Nat) : (sOf cs).length = cs.length := by simp [sOf, Str.length]
theorem sOf_app (a b : List Nat) : sOf a ++ sOf b = sOf (a ++ b) := by
  show Str.mk (a.toArray ++ b.toArray) = Str.mk (a ++ b).toArray
  simp
theorem sOf_q : (Str.ofString "q") = sOf [113] := by decide +kernel
theorem sOf_one (c : Nat) : (⟨#[c]⟩ : Str) = sOf [c] := rfl
theorem sOf_inj {a b : List Nat} (h : sOf a = sOf b) : a = b := by
  have := congrArg (fun s : Str => s.cps.toList) h
  simpa [sOf] using this
theorem abc_at : ∀ i, i < 26 → abc.cps.toList[i]? = some (97 + i) := by
  have : ∀ i, i ∈ List.range 26 → abc.cps.toList[i]? = some (97 + i) := by decide +kernel
  exact fun i hi => this i (List.mem_range.mpr hi)
theorem abc_len : abc.length = 26 := by decide +kernel
theorem abc_llen : abc.cps.toList.length = 26 := by decide +kernel
theorem abc_mem {c : Nat} (h : c ∈ abc.cps.toList) : 97 ≤ c ∧ c ≤ 122 := by
  have : ∀ c ∈ abc.cps.toList, 97 ≤ c ∧ c ≤ 122 := by decide +kernel
  exact this c h
theorem cut_hi {cs : List Nat} {v : Int} (h0 : 0 ≤ v) (h1 : v ≤ cs.length) : cutD cs none (some v) = cs.take v.toNat := by
  have e : (v.toNat : Int) = v := by omega
  unfold cutD
  rw [← e, HT.sIx_nat, HT.sIx_none]
  simp only [List.drop_zero, Nat.sub_zero, Int.toNat_natCast]
  rw [Nat.min_eq_left (by omega)]
theorem cut_lo {cs : List Nat} {v : Int} (h0 : 0 ≤ v) (h1 : v ≤ cs.length) : cutD cs (some v) none = cs.drop v.toNat := by
  have e : (v.toNat : Int) = v := by omega
  unfold cutD
  rw [← e, HT.sIx_nat, HT.sIx_none]
  simp only [Int.toNat_natCast]
  rw [Nat.min_eq_left (by omega), List.take_of_length_le (by simp)]
theorem join_one (cs : List Nat) : Txt.join (Str.ofString "") (cs.map fun c => ⟨#[c]⟩) = sOf cs := by
  have e : (Str.ofString "").cps = #[] := by decide +kernel
  have key : ∀ (cs : List Nat) (acc : Array Nat), (cs.map fun c => (⟨#[c]⟩ : Str)).foldl (fun acc p => acc ++ (Str.ofString "").cps ++ p.cps) acc = acc ++ cs.toArray := by
    intro cs
    induction cs with
    | nil => intro acc; simp
    | cons c cs ih =>
      intro acc
      rw [List.map_cons, List.foldl_cons, ih, e]
      simp
  cases cs with
  | nil => rfl
  | cons c cs =>
    show (⟨((((c :: cs).map fun c => (⟨#[c]⟩ : Str)).drop 1).foldl (fun acc p => acc ++ (Str.ofString "").cps ++ p.cps) _)⟩ : Str) = _
    simp only [List.map_cons, List.drop_succ_cons, List.drop_zero, List.headD_cons]
    rw [key]
    simp [sOf]
theorem txts_map' : ∀ ss : List Str, txts (ss.map D.str) = some ss
  | [] => rfl
  | s :: ss => by simp [txts, txts_map' ss]
theorem sum_one : ∀ cs : List Nat, ((cs.map fun c => (⟨#[c]⟩ : Str)).map (·.length)).sum = cs.length
  | [] => rfl
  | c :: cs => by
    have := sum_one cs
    simp only [List.map_cons, List.sum_cons, List.length_cons]
    rw [this]
    show 1 + cs.length = _
    omega
/-- a drawn word -/
def wd (pre suf : List Nat) (sh k : Nat) : Str := sOf (pre ++ (97 + (sh + k) % 26) :: suf)
def Stem (pre suf : List Nat) : Prop := (∀ c ∈ pre ++ suf, 97 ≤ c ∧ c ≤ 122) ∧ 113 ∈ pre ++ suf ∧ (pre ++ suf).length ≤ 7
def WordsB (tk of_ sh : Nat) : Ss := .cons (.set (.n 2) (.k (.str "abcdefghijklmnopqrstuvwxyz"))) (.cons (.set (.n 3) (.bm .join (.k (.str "")) (.cons (.lc false .rng (.cons (.call tk sh (.cons (.v 0) (.cons (.k (.int 7)) .nil)) .nil) .nil) (.n 7) .nil (.call of_ sh (.cons (.v 0) (.cons (.v 2) .nil)) .nil)) .nil))) (.cons (.set (.n 4) (.call tk sh (.cons (.v 0) (.cons (.bin .add (.bi .len (.cons (.v 3) .nil)) (.k (.int 1))) .nil)) .nil)) (.cons (.set (.n 3) (.bin .add (.bin .add (.sl (.v 3) .nil (.cons (.v 4) .nil)) (.k (.str "q"))) (.sl (.v 3) (.cons (.v 4) .nil) .nil))) (.cons (.set (.t2 (.n 4) (.n 5)) (.tup (.cons (.call tk sh (.cons (.v 0) (.cons (.bin .add (.bi .len (.cons (.v 3) .nil)) (.k (.int 1))) .nil)) .nil) (.cons (.call tk sh (.cons (.v 0) (.cons (.k (.int 26)) .nil)) .nil) .nil)))) (.cons (.ret false (.lc false .rng (.cons (.v 1) .nil) (.n 6) .nil (.bin .add (.bin .add (.sl (.v 3) .nil (.cons (.v 4) .nil)) (.ix (.v 2) (.bin .mod (.bi .int (.cons (.bin .add (.v 5) (.v 6)) .nil)) (.k (.int 26))))) (.sl (.v 3) (.cons (.v 4) .nil) .nil)))) .nil)))))
def WordsOk (G : Prg) (f : Nat) : Prop := ∀ (k n t m : Nat) (M : Store), PotAt M n t → t < 900000 → m < 1000 → ∃ pre suf sh M', run G (k + 3) f [.ref n, .int (m : Nat)] M = .ok (.lst ((List.range m).map fun i => .str (wd pre suf sh i))) M' ∧ Stem pre suf ∧ PotAt M' n (t + 10) ∧ Drawn n M M'
theorem words_ok {G : Prg} {f tk of_ sh : Nat} (S : Std G) (hs : Sh2 G sh) (T : TakeOk G tk) (O : OfOk G of_) (hG : G.fn f = some ⟨2, 8, WordsB tk of_ sh⟩) : WordsOk G f := by
  intro k n t m M hp ht hm
  rw [run_eq hG ⟨rfl, (by decide : 2 ≤ 8)⟩]
  show ∃ pre suf sh' M', fin M (sxs _ (WordsB tk of_ sh) [some (.ref n), some (.int (m : Nat)), none, none, none, none, none, none] M) = _ ∧ _
  unfold WordsB
  have e1 : sx (G.cfg (run G (k + 2))) (.set (.n 2) (.k (.str "abcdefghijklmnopqrstuvwxyz"))) [some (.ref n), some (.int (m : Nat)), none, none, none, none, none, none] M = .nx [some (.ref n), some (.int (m : Nat)), some (.str abc), none, none, none, none, none] M := by
    simp -implicitDefEqProofs only [bind_ok, bind_ex, fl_ok, fl_ex, seq_nx, seq_rt, seq_ex, q_k, q_v, q_g, q_tup, q_lst, q_bin, q_neg, q_evT, q_not, q_and1, q_and, q_or1, q_or, q_cmp, q_cmp2, q_ite, q_ix, q_sl, q_o0, q_o1, q_call, q_mk, q_bi, q_bm, q_attr, q_isi, q_e0, q_e1, q_e2, k_v, k_of, k_tup, k_tupX, k_lst, k_lstX, k_b1, k_b1X, k_b2, k_b2X, k_neg, k_t, k_tX, k_not, k_notX, k_and, k_andX, k_andT, k_andF, k_or, k_orX, k_orT, k_orF, k_c1, k_c1X, k_c2, k_c2X, k_d1, k_d2, k_d3T, k_d3F, k_d4, k_iT, k_iF, k_iX, k_x1, k_x1X, k_x2, k_x2X, k_s1, k_s2, k_s3, k_o, k_a1, k_a1X, k_a2, k_a2X, k_m1, k_m1X, k_m2, k_m2X, k_bi, k_biX, k_bm1, k_bm1X, k_bm2, k_bm3, k_bm3X, k_at, k_atX, k_is, k_isX, k_e1, k_e1X, k_e2, k_e2X, k_f1, k_f2, q_ss0, q_ss1, k_sq, k_sqR, k_sqX, k_sqB, k_sqC, q_set, k_set, k_setX, k_set2, q_par, k_p1, k_p1X, k_p2, k_p2X, q_sub, k_u1, k_u1X, k_u2, k_u3, k_u4, q_fld, k_w1, k_w1X, k_w2, q_ex, k_ex, k_exX, q_ret, k_rF, k_rT, k_rX, k_rf, q_retN, q_if, k_ifT, k_ifF, k_ifX, q_raise, k_rs, q_aug, k_agA, k_agS, q_pass, q_brk, q_cont, fin_rt, fin_nx, fin_ex, cmpR.eq_def, clsD.eq_def, ixD.eq_def, seqOf.eq_def, bin.eq_def, binI_add, binI_sub, binI_mod, binI_fdiv, binI_mulL, binI_mulR, Bool.and_self, sm_a, sm_b, sm_c, sm_d, sm_e, sm_f, sm_g, sm_h, sm_i, sm_j, sm_k, lg64, lg4096, lg65536, cmp.eq_def, truth.eq_def, biD.eq_def, lenD.eq_def, absD.eq_def, intD.eq_def, minD.eq_def, maxD.eq_def, newL.eq_def, bindT.eq_1, bindT.eq_2, bindT.eq_3, setD.eq_def, isNone.eq_def, List.getElem?_cons_zero, List.getElem?_cons_succ, List.set_cons_zero, List.set_cons_succ, List.length_cons, List.length_nil, at0, at1, at2, at3, if_true, if_false, decide_true, decide_false, and_self, and_true, true_and, Bool.false_eq_true, Nat.reduceAdd, Nat.reduceLT, Nat.reduceLeDiff, Nat.reduceSub, Nat.reduceEqDiff, Int.reduceLT, Int.reduceLE, Int.reduceNeg, Int.reduceToNat, reduceIte, reduceCtorEq, ix3_0, ix3_1, ix3_2, big, Nat.zero_le, ne_eq, not_false_eq_true, not_true_eq_false, isiD.eq_1, isiD.eq_2, isiOne.eq_def, tyBlt.eq_def, Option.map_some, Bool.not_true, Bool.not_false]
    rfl
  rw [sxs_nx e1]
  -- the stem
  obtain ⟨v, M1, t1, v0, v1, p1, d1⟩ := T (k + 1) n t 7 M hp (by omega) (by decide) (by decide +kernel)
  let I : Nat → List D → Store → Prop := fun i acc S => ∃ cs : List Nat, acc = (cs.map fun c => (⟨#[c]⟩ : Str)).map D.str ∧ cs.length = i ∧ (∀ c ∈ cs, 97 ≤ c ∧ c ≤ 122) ∧ PotAt S n (t + 1 + i) ∧ Drawn n M S
  obtain ⟨ys, M2, hl, cs, rfl, hcl, hcs, p2, d2⟩ := lcL_inv (C := G.cfg (run G (k + 2))) (tg := .n 7) (f := lcF (G.cfg (run G (k + 2))) .nil (.call of_ sh (.cons (.v 0) (.cons (.v 2) .nil)) .nil)) (ρ := [some (.ref n), some (.int (m : Nat)), some (.str abc), none, none, none, none, none]) I
    (xs := (List.range v.toNat).map fun i => .int (i : Nat)) (i := 0) (acc := []) (M := M1) ⟨[], rfl, rfl, by simp, p1, d1⟩ fun j x acc S0 hj ⟨cs, ha, hcl, hcs, p, dr⟩ => by
      have hj7 : j < v.toNat := by simpa using (List.getElem?_eq_some_iff.mp hj).1
      obtain ⟨c, S2, eo, hc, p', dr'⟩ := (O k n (t + 1 + (0 + j)) S0 p (by omega)).2 abc (by rw [abc_len]; decide) (by rw [abc_len]; decide)
      refine ⟨_, rfl, .str ⟨#[c]⟩, S2, ?_, cs ++ [c], by rw [ha]; simp, by simp; omega, fun c' hc' => ?_, p', dr.trans dr'⟩
      · rw [lcF_nil]
        show (ev _ _ [some (.ref n), some (.int (m : Nat)), some (.str abc), none, none, none, none, some x] S0).bind _ = _
        simp -implicitDefEqProofs only [bind_ok, bind_ex, fl_ok, fl_ex, seq_nx, seq_rt, seq_ex, q_k, q_v, q_g, q_tup, q_lst, q_bin, q_neg, q_evT, q_not, q_and1, q_and, q_or1, q_or, q_cmp, q_cmp2, q_ite, q_ix, q_sl, q_o0, q_o1, q_call, q_mk, q_bi, q_bm, q_attr, q_isi, q_e0, q_e1, q_e2, k_v, k_of, k_tup, k_tupX, k_lst, k_lstX, k_b1, k_b1X, k_b2, k_b2X, k_neg, k_t, k_tX, k_not, k_notX, k_and, k_andX, k_andT, k_andF, k_or, k_orX, k_orT, k_orF, k_c1, k_c1X, k_c2, k_c2X, k_d1, k_d2, k_d3T, k_d3F, k_d4, k_iT, k_iF, k_iX, k_x1, k_x1X, k_x2, k_x2X, k_s1, k_s2, k_s3, k_o, k_a1, k_a1X, k_a2, k_a2X, k_m1, k_m1X, k_m2, k_m2X, k_bi, k_biX, k_bm1, k_bm1X, k_bm2, k_bm3, k_bm3X, k_at, k_atX, k_is, k_isX, k_e1, k_e1X, k_e2, k_e2X, k_f1, k_f2, q_ss0, q_ss1, k_sq, k_sqR, k_sqX, k_sqB, k_sqC, q_set, k_set, k_setX, k_set2, q_par, k_p1, k_p1X, k_p2, k_p2X, q_sub, k_u1, k_u1X, k_u2, k_u3, k_u4, q_fld, k_w1, k_w1X, k_w2, q_ex, k_ex, k_exX, q_ret, k_rF, k_rT, k_rX, k_rf, q_retN, q_if, k_ifT, k_ifF, k_ifX, q_raise, k_rs, q_aug, k_agA, k_agS, q_pass, q_brk, q_cont, fin_rt, fin_nx, fin_ex, cmpR.eq_def, clsD.eq_def, ixD.eq_def, seqOf.eq_def, bin.eq_def, binI_add, binI_sub, binI_mod, binI_fdiv, binI_mulL, binI_mulR, Bool.and_self, sm_a, sm_b, sm_c, sm_d, sm_e, sm_f, sm_g, sm_h, sm_i, sm_j, sm_k, lg64, lg4096, lg65536, cmp.eq_def, truth.eq_def, biD.eq_def, lenD.eq_def, absD.eq_def, intD.eq_def, minD.eq_def, maxD.eq_def, newL.eq_def, bindT.eq_1, bindT.eq_2, bindT.eq_3, setD.eq_def, isNone.eq_def, List.getElem?_cons_zero, List.getElem?_cons_succ, List.set_cons_zero, List.set_cons_succ, List.length_cons, List.length_nil, at0, at1, at2, at3, if_true, if_false, decide_true, decide_false, and_self, and_true, true_and, Bool.false_eq_true, Nat.reduceAdd, Nat.reduceLT, Nat.reduceLeDiff, Nat.reduceSub, Nat.reduceEqDiff, Int.reduceLT, Int.reduceLE, Int.reduceNeg, Int.reduceToNat, reduceIte, reduceCtorEq, ix3_0, ix3_1, ix3_2, big, Nat.zero_le, ne_eq, not_false_eq_true, not_true_eq_false, isiD.eq_1, isiD.eq_2, isiOne.eq_def, tyBlt.eq_def, Option.map_some, Bool.not_true, Bool.not_false, S.call, hs _, callG.eq_def, sel.eq_1, sel.eq_2, sel.eq_3, sel.eq_4, List.append_nil, List.cons_append, List.nil_append, eo]
      · rcases List.mem_append.mp hc' with h | h
        · exact hcs c' h
        · rw [List.mem_singleton.mp h]; exact abc_mem hc
  rw [List.length_map, List.length_range, Nat.zero_add] at hcl p2
  have e2l : ev (G.cfg (run G (k + 2))) (.lc false .rng (.cons (.call tk sh (.cons (.v 0) (.cons (.k (.int 7)) .nil)) .nil) .nil) (.n 7) .nil (.call of_ sh (.cons (.v 0) (.cons (.v 2) .nil)) .nil)) [some (.ref n), some (.int (m : Nat)), some (.str abc), none, none, none, none, none] M = _ :=
    lc_eq (ds := [.int v]) (M1 := M1) (by simp -implicitDefEqProofs only [bind_ok, bind_ex, fl_ok, fl_ex, seq_nx, seq_rt, seq_ex, q_k, q_v, q_g, q_tup, q_lst, q_bin, q_neg, q_evT, q_not, q_and1, q_and, q_or1, q_or, q_cmp, q_cmp2, q_ite, q_ix, q_sl, q_o0, q_o1, q_call, q_mk, q_bi, q_bm, q_attr, q_isi, q_e0, q_e1, q_e2, k_v, k_of, k_tup, k_tupX, k_lst, k_lstX, k_b1, k_b1X, k_b2, k_b2X, k_neg, k_t, k_tX, k_not, k_notX, k_and, k_andX, k_andT, k_andF, k_or, k_orX, k_orT, k_orF, k_c1, k_c1X, k_c2, k_c2X, k_d1, k_d2, k_d3T, k_d3F, k_d4, k_iT, k_iF, k_iX, k_x1, k_x1X, k_x2, k_x2X, k_s1, k_s2, k_s3, k_o, k_a1, k_a1X, k_a2, k_a2X, k_m1, k_m1X, k_m2, k_m2X, k_bi, k_biX, k_bm1, k_bm1X, k_bm2, k_bm3, k_bm3X, k_at, k_atX, k_is, k_isX, k_e1, k_e1X, k_e2, k_e2X, k_f1, k_f2, q_ss0, q_ss1, k_sq, k_sqR, k_sqX, k_sqB, k_sqC, q_set, k_set, k_setX, k_set2, q_par, k_p1, k_p1X, k_p2, k_p2X, q_sub, k_u1, k_u1X, k_u2, k_u3, k_u4, q_fld, k_w1, k_w1X, k_w2, q_ex, k_ex, k_exX, q_ret, k_rF, k_rT, k_rX, k_rf, q_retN, q_if, k_ifT, k_ifF, k_ifX, q_raise, k_rs, q_aug, k_agA, k_agS, q_pass, q_brk, q_cont, fin_rt, fin_nx, fin_ex, cmpR.eq_def, clsD.eq_def, ixD.eq_def, seqOf.eq_def, bin.eq_def, binI_add, binI_sub, binI_mod, binI_fdiv, binI_mulL, binI_mulR, Bool.and_self, sm_a, sm_b, sm_c, sm_d, sm_e, sm_f, sm_g, sm_h, sm_i, sm_j, sm_k, lg64, lg4096, lg65536, cmp.eq_def, truth.eq_def, biD.eq_def, lenD.eq_def, absD.eq_def, intD.eq_def, minD.eq_def, maxD.eq_def, newL.eq_def, bindT.eq_1, bindT.eq_2, bindT.eq_3, setD.eq_def, isNone.eq_def, List.getElem?_cons_zero, List.getElem?_cons_succ, List.set_cons_zero, List.set_cons_succ, List.length_cons, List.length_nil, at0, at1, at2, at3, if_true, if_false, decide_true, decide_false, and_self, and_true, true_and, Bool.false_eq_true, Nat.reduceAdd, Nat.reduceLT, Nat.reduceLeDiff, Nat.reduceSub, Nat.reduceEqDiff, Int.reduceLT, Int.reduceLE, Int.reduceNeg, Int.reduceToNat, reduceIte, reduceCtorEq, ix3_0, ix3_1, ix3_2, big, Nat.zero_le, ne_eq, not_false_eq_true, not_true_eq_false, isiD.eq_1, isiD.eq_2, isiOne.eq_def, tyBlt.eq_def, Option.map_some, Bool.not_true, Bool.not_false, S.call, hs _, callG.eq_def, sel.eq_1, sel.eq_2, sel.eq_3, sel.eq_4, List.append_nil, List.cons_append, List.nil_append, t1]) (items_rng v0 (by omega)) hl
  have e2 : sx (G.cfg (run G (k + 2))) (.set (.n 3) (.bm .join (.k (.str "")) (.cons (.lc false .rng (.cons (.call tk sh (.cons (.v 0) (.cons (.k (.int 7)) .nil)) .nil) .nil) (.n 7) .nil (.call of_ sh (.cons (.v 0) (.cons (.v 2) .nil)) .nil)) .nil))) [some (.ref n), some (.int (m : Nat)), some (.str abc), none, none, none, none, none] M = .nx [some (.ref n), some (.int (m : Nat)), some (.str abc), some (.str (sOf cs)), none, none, none, none] M2 := by
    have hsz : cs.length + cs.length * 0 ≤ 16777216 := by omega
    have z0 : (Str.ofString "").length = 0 := by decide +kernel
    simp -implicitDefEqProofs only [bind_ok, bind_ex, fl_ok, fl_ex, seq_nx, seq_rt, seq_ex, q_k, q_v, q_g, q_tup, q_lst, q_bin, q_neg, q_evT, q_not, q_and1, q_and, q_or1, q_or, q_cmp, q_cmp2, q_ite, q_ix, q_sl, q_o0, q_o1, q_call, q_mk, q_bi, q_bm, q_attr, q_isi, q_e0, q_e1, q_e2, k_v, k_of, k_tup, k_tupX, k_lst, k_lstX, k_b1, k_b1X, k_b2, k_b2X, k_neg, k_t, k_tX, k_not, k_notX, k_and, k_andX, k_andT, k_andF, k_or, k_orX, k_orT, k_orF, k_c1, k_c1X, k_c2, k_c2X, k_d1, k_d2, k_d3T, k_d3F, k_d4, k_iT, k_iF, k_iX, k_x1, k_x1X, k_x2, k_x2X, k_s1, k_s2, k_s3, k_o, k_a1, k_a1X, k_a2, k_a2X, k_m1, k_m1X, k_m2, k_m2X, k_bi, k_biX, k_bm1, k_bm1X, k_bm2, k_bm3, k_bm3X, k_at, k_atX, k_is, k_isX, k_e1, k_e1X, k_e2, k_e2X, k_f1, k_f2, q_ss0, q_ss1, k_sq, k_sqR, k_sqX, k_sqB, k_sqC, q_set, k_set, k_setX, k_set2, q_par, k_p1, k_p1X, k_p2, k_p2X, q_sub, k_u1, k_u1X, k_u2, k_u3, k_u4, q_fld, k_w1, k_w1X, k_w2, q_ex, k_ex, k_exX, q_ret, k_rF, k_rT, k_rX, k_rf, q_retN, q_if, k_ifT, k_ifF, k_ifX, q_raise, k_rs, q_aug, k_agA, k_agS, q_pass, q_brk, q_cont, fin_rt, fin_nx, fin_ex, cmpR.eq_def, clsD.eq_def, ixD.eq_def, seqOf.eq_def, bin.eq_def, binI_add, binI_sub, binI_mod, binI_fdiv, binI_mulL, binI_mulR, Bool.and_self, sm_a, sm_b, sm_c, sm_d, sm_e, sm_f, sm_g, sm_h, sm_i, sm_j, sm_k, lg64, lg4096, lg65536, cmp.eq_def, truth.eq_def, biD.eq_def, lenD.eq_def, absD.eq_def, intD.eq_def, minD.eq_def, maxD.eq_def, newL.eq_def, bindT.eq_1, bindT.eq_2, bindT.eq_3, setD.eq_def, isNone.eq_def, List.getElem?_cons_zero, List.getElem?_cons_succ, List.set_cons_zero, List.set_cons_succ, List.length_cons, List.length_nil, at0, at1, at2, at3, if_true, if_false, decide_true, decide_false, and_self, and_true, true_and, Bool.false_eq_true, Nat.reduceAdd, Nat.reduceLT, Nat.reduceLeDiff, Nat.reduceSub, Nat.reduceEqDiff, Int.reduceLT, Int.reduceLE, Int.reduceNeg, Int.reduceToNat, reduceIte, reduceCtorEq, ix3_0, ix3_1, ix3_2, big, Nat.zero_le, ne_eq, not_false_eq_true, not_true_eq_false, isiD.eq_1, isiD.eq_2, isiOne.eq_def, tyBlt.eq_def, Option.map_some, Bool.not_true, Bool.not_false, ↓e2l, recvOk.eq_def, bmD.eq_def, joinD.eq_def, txts_map', sum_one, join_one, List.length_map, z0, hsz]
  rw [sxs_nx e2]
  -- its q
  have hn2 : cs.length ≤ 6 := by omega
  obtain ⟨v2, M3, t3, v20, v21, p3, d3⟩ := T (k + 1) n (t + 1 + v.toNat) (cs.length + 1) M2 p2 (by omega) (by omega) (lg_lt (by omega) (by omega))
  have hb : cs.length ≤ 16777216 := by omega
  have e3 : sx (G.cfg (run G (k + 2))) (.set (.n 4) (.call tk sh (.cons (.v 0) (.cons (.bin .add (.bi .len (.cons (.v 3) .nil)) (.k (.int 1))) .nil)) .nil)) [some (.ref n), some (.int (m : Nat)), some (.str abc), some (.str (sOf cs)), none, none, none, none] M2 = .nx [some (.ref n), some (.int (m : Nat)), some (.str abc), some (.str (sOf cs)), some (.int v2), none, none, none] M3 := by
    simp -implicitDefEqProofs only [bind_ok, bind_ex, fl_ok, fl_ex, seq_nx, seq_rt, seq_ex, q_k, q_v, q_g, q_tup, q_lst, q_bin, q_neg, q_evT, q_not, q_and1, q_and, q_or1, q_or, q_cmp, q_cmp2, q_ite, q_ix, q_sl, q_o0, q_o1, q_call, q_mk, q_bi, q_bm, q_attr, q_isi, q_e0, q_e1, q_e2, k_v, k_of, k_tup, k_tupX, k_lst, k_lstX, k_b1, k_b1X, k_b2, k_b2X, k_neg, k_t, k_tX, k_not, k_notX, k_and, k_andX, k_andT, k_andF, k_or, k_orX, k_orT, k_orF, k_c1, k_c1X, k_c2, k_c2X, k_d1, k_d2, k_d3T, k_d3F, k_d4, k_iT, k_iF, k_iX, k_x1, k_x1X, k_x2, k_x2X, k_s1, k_s2, k_s3, k_o, k_a1, k_a1X, k_a2, k_a2X, k_m1, k_m1X, k_m2, k_m2X, k_bi, k_biX, k_bm1, k_bm1X, k_bm2, k_bm3, k_bm3X, k_at, k_atX, k_is, k_isX, k_e1, k_e1X, k_e2, k_e2X, k_f1, k_f2, q_ss0, q_ss1, k_sq, k_sqR, k_sqX, k_sqB, k_sqC, q_set, k_set, k_setX, k_set2, q_par, k_p1, k_p1X, k_p2, k_p2X, q_sub, k_u1, k_u1X, k_u2, k_u3, k_u4, q_fld, k_w1, k_w1X, k_w2, q_ex, k_ex, k_exX, q_ret, k_rF, k_rT, k_rX, k_rf, q_retN, q_if, k_ifT, k_ifF, k_ifX, q_raise, k_rs, q_aug, k_agA, k_agS, q_pass, q_brk, q_cont, fin_rt, fin_nx, fin_ex, cmpR.eq_def, clsD.eq_def, ixD.eq_def, seqOf.eq_def, bin.eq_def, binI_add, binI_sub, binI_mod, binI_fdiv, binI_mulL, binI_mulR, Bool.and_self, sm_a, sm_b, sm_c, sm_d, sm_e, sm_f, sm_g, sm_h, sm_i, sm_j, sm_k, lg64, lg4096, lg65536, cmp.eq_def, truth.eq_def, biD.eq_def, lenD.eq_def, absD.eq_def, intD.eq_def, minD.eq_def, maxD.eq_def, newL.eq_def, bindT.eq_1, bindT.eq_2, bindT.eq_3, setD.eq_def, isNone.eq_def, List.getElem?_cons_zero, List.getElem?_cons_succ, List.set_cons_zero, List.set_cons_succ, List.length_cons, List.length_nil, at0, at1, at2, at3, if_true, if_false, decide_true, decide_false, and_self, and_true, true_and, Bool.false_eq_true, Nat.reduceAdd, Nat.reduceLT, Nat.reduceLeDiff, Nat.reduceSub, Nat.reduceEqDiff, Int.reduceLT, Int.reduceLE, Int.reduceNeg, Int.reduceToNat, reduceIte, reduceCtorEq, ix3_0, ix3_1, ix3_2, big, Nat.zero_le, ne_eq, not_false_eq_true, not_true_eq_false, isiD.eq_1, isiD.eq_2, isiOne.eq_def, tyBlt.eq_def, Option.map_some, Bool.not_true, Bool.not_false, hb, S.call, hs _, callG.eq_def, sel.eq_1, sel.eq_2, sel.eq_3, sel.eq_4, List.append_nil, List.cons_append, List.nil_append, sOf_len, t3]
  rw [sxs_nx e3]
  have hc1 : cutD cs none (some v2) = cs.take v2.toNat := cut_hi v20 (by omega)
  have hc2 : cutD cs (some v2) none = cs.drop v2.toNat := cut_lo v20 (by omega)
  let qs : List Nat := cs.take v2.toNat ++ [113] ++ cs.drop v2.toNat
  have hql : qs.length = cs.length + 1 := by simp [qs]; omega
  have hq1 : ∀ c ∈ qs, 97 ≤ c ∧ c ≤ 122 := fun c hc => by
    simp only [qs, List.mem_append, List.mem_singleton] at hc
    rcases hc with (h | h) | h
    · exact hcs c (List.mem_of_mem_take h)
    · rw [h]; decide
    · exact hcs c (List.mem_of_mem_drop h)
  have hq2 : 113 ∈ qs := by simp [qs]
  have e4 : sx (G.cfg (run G (k + 2))) (.set (.n 3) (.bin .add (.bin .add (.sl (.v 3) .nil (.cons (.v 4) .nil)) (.k (.str "q"))) (.sl (.v 3) (.cons (.v 4) .nil) .nil))) [some (.ref n), some (.int (m : Nat)), some (.str abc), some (.str (sOf cs)), some (.int v2), none, none, none] M3 = .nx [some (.ref n), some (.int (m : Nat)), some (.str abc), some (.str (sOf qs)), some (.int v2), none, none, none] M3 := by
    have l1 : (cs.take v2.toNat).length + 1 ≤ 16777216 := by simp; omega
    have l2 : (cs.take v2.toNat ++ [113]).length + (cs.drop v2.toNat).length ≤ 16777216 := by simp; omega
    have l0 : ∀ l : List Nat, (⟨l.toArray⟩ : Str) = sOf l := fun _ => rfl
    have lq : ([113] : List Nat).length = 1 := rfl
    simp -implicitDefEqProofs only [bind_ok, bind_ex, fl_ok, fl_ex, seq_nx, seq_rt, seq_ex, q_k, q_v, q_g, q_tup, q_lst, q_bin, q_neg, q_evT, q_not, q_and1, q_and, q_or1, q_or, q_cmp, q_cmp2, q_ite, q_ix, q_sl, q_o0, q_o1, q_call, q_mk, q_bi, q_bm, q_attr, q_isi, q_e0, q_e1, q_e2, k_v, k_of, k_tup, k_tupX, k_lst, k_lstX, k_b1, k_b1X, k_b2, k_b2X, k_neg, k_t, k_tX, k_not, k_notX, k_and, k_andX, k_andT, k_andF, k_or, k_orX, k_orT, k_orF, k_c1, k_c1X, k_c2, k_c2X, k_d1, k_d2, k_d3T, k_d3F, k_d4, k_iT, k_iF, k_iX, k_x1, k_x1X, k_x2, k_x2X, k_s1, k_s2, k_s3, k_o, k_a1, k_a1X, k_a2, k_a2X, k_m1, k_m1X, k_m2, k_m2X, k_bi, k_biX, k_bm1, k_bm1X, k_bm2, k_bm3, k_bm3X, k_at, k_atX, k_is, k_isX, k_e1, k_e1X, k_e2, k_e2X, k_f1, k_f2, q_ss0, q_ss1, k_sq, k_sqR, k_sqX, k_sqB, k_sqC, q_set, k_set, k_setX, k_set2, q_par, k_p1, k_p1X, k_p2, k_p2X, q_sub, k_u1, k_u1X, k_u2, k_u3, k_u4, q_fld, k_w1, k_w1X, k_w2, q_ex, k_ex, k_exX, q_ret, k_rF, k_rT, k_rX, k_rf, q_retN, q_if, k_ifT, k_ifF, k_ifX, q_raise, k_rs, q_aug, k_agA, k_agS, q_pass, q_brk, q_cont, fin_rt, fin_nx, fin_ex, cmpR.eq_def, clsD.eq_def, ixD.eq_def, seqOf.eq_def, bin.eq_def, binI_add, binI_sub, binI_mod, binI_fdiv, binI_mulL, binI_mulR, Bool.and_self, sm_a, sm_b, sm_c, sm_d, sm_e, sm_f, sm_g, sm_h, sm_i, sm_j, sm_k, lg64, lg4096, lg65536, cmp.eq_def, truth.eq_def, biD.eq_def, lenD.eq_def, absD.eq_def, intD.eq_def, minD.eq_def, maxD.eq_def, newL.eq_def, bindT.eq_1, bindT.eq_2, bindT.eq_3, setD.eq_def, isNone.eq_def, List.getElem?_cons_zero, List.getElem?_cons_succ, List.set_cons_zero, List.set_cons_succ, List.length_cons, List.length_nil, at0, at1, at2, at3, if_true, if_false, decide_true, decide_false, and_self, and_true, true_and, Bool.false_eq_true, Nat.reduceAdd, Nat.reduceLT, Nat.reduceLeDiff, Nat.reduceSub, Nat.reduceEqDiff, Int.reduceLT, Int.reduceLE, Int.reduceNeg, Int.reduceToNat, reduceIte, reduceCtorEq, ix3_0, ix3_1, ix3_2, big, Nat.zero_le, ne_eq, not_false_eq_true, not_true_eq_false, isiD.eq_1, isiD.eq_2, isiOne.eq_def, tyBlt.eq_def, Option.map_some, Bool.not_true, Bool.not_false, hb, slD.eq_def, sOf_list, hc1, hc2, l0, sOf_q, sOf_len, l1, l2, sOf_app, lq]
    rfl
  rw [sxs_nx e4]
  -- the place
  obtain ⟨v3, M4, t4, v30, v31, p4, d4⟩ := T (k + 1) n (t + 1 + v.toNat + 1) (qs.length + 1) M3 p3 (by omega) (by omega) (lg_lt (by omega) (by omega))
  obtain ⟨v4, M5, t5, v40, v41, p5, d5⟩ := T (k + 1) n (t + 1 + v.toNat + 1 + 1) 26 M4 p4 (by omega) (by decide) (by decide +kernel)
  have hb2 : qs.length ≤ 16777216 := by omega
  have e5 : sx (G.cfg (run G (k + 2))) (.set (.t2 (.n 4) (.n 5)) (.tup (.cons (.call tk sh (.cons (.v 0) (.cons (.bin .add (.bi .len (.cons (.v 3) .nil)) (.k (.int 1))) .nil)) .nil) (.cons (.call tk sh (.cons (.v 0) (.cons (.k (.int 26)) .nil)) .nil) .nil)))) [some (.ref n), some (.int (m : Nat)), some (.str abc), some (.str (sOf qs)), some (.int v2), none, none, none] M3 = .nx [some (.ref n), some (.int (m : Nat)), some (.str abc), some (.str (sOf qs)), some (.int v3), some (.int v4), none, none] M5 := by
    simp -implicitDefEqProofs only [bind_ok, bind_ex, fl_ok, fl_ex, seq_nx, seq_rt, seq_ex, q_k, q_v, q_g, q_tup, q_lst, q_bin, q_neg, q_evT, q_not, q_and1, q_and, q_or1, q_or, q_cmp, q_cmp2, q_ite, q_ix, q_sl, q_o0, q_o1, q_call, q_mk, q_bi, q_bm, q_attr, q_isi, q_e0, q_e1, q_e2, k_v, k_of, k_tup, k_tupX, k_lst, k_lstX, k_b1, k_b1X, k_b2, k_b2X, k_neg, k_t, k_tX, k_not, k_notX, k_and, k_andX, k_andT, k_andF, k_or, k_orX, k_orT, k_orF, k_c1, k_c1X, k_c2, k_c2X, k_d1, k_d2, k_d3T, k_d3F, k_d4, k_iT, k_iF, k_iX, k_x1, k_x1X, k_x2, k_x2X, k_s1, k_s2, k_s3, k_o, k_a1, k_a1X, k_a2, k_a2X, k_m1, k_m1X, k_m2, k_m2X, k_bi, k_biX, k_bm1, k_bm1X, k_bm2, k_bm3, k_bm3X, k_at, k_atX, k_is, k_isX, k_e1, k_e1X, k_e2, k_e2X, k_f1, k_f2, q_ss0, q_ss1, k_sq, k_sqR, k_sqX, k_sqB, k_sqC, q_set, k_set, k_setX, k_set2, q_par, k_p1, k_p1X, k_p2, k_p2X, q_sub, k_u1, k_u1X, k_u2, k_u3, k_u4, q_fld, k_w1, k_w1X, k_w2, q_ex, k_ex, k_exX, q_ret, k_rF, k_rT, k_rX, k_rf, q_retN, q_if, k_ifT, k_ifF, k_ifX, q_raise, k_rs, q_aug, k_agA, k_agS, q_pass, q_brk, q_cont, fin_rt, fin_nx, fin_ex, cmpR.eq_def, clsD.eq_def, ixD.eq_def, seqOf.eq_def, bin.eq_def, binI_add, binI_sub, binI_mod, binI_fdiv, binI_mulL, binI_mulR, Bool.and_self, sm_a, sm_b, sm_c, sm_d, sm_e, sm_f, sm_g, sm_h, sm_i, sm_j, sm_k, lg64, lg4096, lg65536, cmp.eq_def, truth.eq_def, biD.eq_def, lenD.eq_def, absD.eq_def, intD.eq_def, minD.eq_def, maxD.eq_def, newL.eq_def, bindT.eq_1, bindT.eq_2, bindT.eq_3, setD.eq_def, isNone.eq_def, List.getElem?_cons_zero, List.getElem?_cons_succ, List.set_cons_zero, List.set_cons_succ, List.length_cons, List.length_nil, at0, at1, at2, at3, if_true, if_false, decide_true, decide_false, and_self, and_true, true_and, Bool.false_eq_true, Nat.reduceAdd, Nat.reduceLT, Nat.reduceLeDiff, Nat.reduceSub, Nat.reduceEqDiff, Int.reduceLT, Int.reduceLE, Int.reduceNeg, Int.reduceToNat, reduceIte, reduceCtorEq, ix3_0, ix3_1, ix3_2, big, Nat.zero_le, ne_eq, not_false_eq_true, not_true_eq_false, isiD.eq_1, isiD.eq_2, isiOne.eq_def, tyBlt.eq_def, Option.map_some, Bool.not_true, Bool.not_false, hb2, S.call, hs _, callG.eq_def, sel.eq_1, sel.eq_2, sel.eq_3, sel.eq_4, List.append_nil, List.cons_append, List.nil_append, sOf_len, t4, t5, Option.bind_some]
  rw [sxs_nx e5]
  have hp3 : cutD qs none (some v3) = qs.take v3.toNat := cut_hi v30 (by omega)
  have hp4 : cutD qs (some v3) none = qs.drop v3.toNat := cut_lo v30 (by omega)
  have hL := lcL_map (C := G.cfg (run G (k + 2))) (tg := .n 6) (f := lcF (G.cfg (run G (k + 2))) .nil (.bin .add (.bin .add (.sl (.v 3) .nil (.cons (.v 4) .nil)) (.ix (.v 2) (.bin .mod (.bi .int (.cons (.bin .add (.v 5) (.v 6)) .nil)) (.k (.int 26))))) (.sl (.v 3) (.cons (.v 4) .nil) .nil))) (ρ := [some (.ref n), some (.int (m : Nat)), some (.str abc), some (.str (sOf qs)), some (.int v3), some (.int v4), none, none]) (M := M5)
    (fun x => match x with | .int i => .str (wd (qs.take v3.toNat) (qs.drop v3.toNat) v4.toNat i.toNat) | d => d) (xs := (List.range m).map fun i => .int (i : Nat)) (acc := []) fun x hx => by
      obtain ⟨i, hi, rfl⟩ := List.mem_map.mp hx
      refine ⟨_, rfl, ?_⟩
      rw [lcF_nil]
      show (ev _ _ [some (.ref n), some (.int (m : Nat)), some (.str abc), some (.str (sOf qs)), some (.int v3), some (.int v4), some (.int (i : Nat)), none] M5).bind _ = _
      have l0 : ∀ l : List Nat, (⟨l.toArray⟩ : Str) = sOf l := fun _ => rfl
      have hmod : (v4 + (i : Nat)) % 26 = (((v4.toNat + i) % 26 : Nat) : Int) := by omega
      have ea : L2.atI abc.cps.toList (((v4.toNat + i) % 26 : Nat) : Int) = some (97 + (v4.toNat + i) % 26) := by
        rw [atN _ _ (by omega) (by rw [abc_llen]; omega), Int.toNat_natCast, abc_at _ (by omega)]
      have lq : ∀ c : Nat, ([c] : List Nat).length = 1 := fun _ => rfl
      have l1 : (qs.take v3.toNat).length + 1 ≤ 16777216 := by simp; omega
      have l2 : ∀ c, (qs.take v3.toNat ++ [c]).length + (qs.drop v3.toNat).length ≤ 16777216 := fun c => by simp; omega
      have la : abc.length ≤ 16777216 := by rw [abc_len]; decide
      simp -implicitDefEqProofs only [bind_ok, bind_ex, fl_ok, fl_ex, seq_nx, seq_rt, seq_ex, q_k, q_v, q_g, q_tup, q_lst, q_bin, q_neg, q_evT, q_not, q_and1, q_and, q_or1, q_or, q_cmp, q_cmp2, q_ite, q_ix, q_sl, q_o0, q_o1, q_call, q_mk, q_bi, q_bm, q_attr, q_isi, q_e0, q_e1, q_e2, k_v, k_of, k_tup, k_tupX, k_lst, k_lstX, k_b1, k_b1X, k_b2, k_b2X, k_neg, k_t, k_tX, k_not, k_notX, k_and, k_andX, k_andT, k_andF, k_or, k_orX, k_orT, k_orF, k_c1, k_c1X, k_c2, k_c2X, k_d1, k_d2, k_d3T, k_d3F, k_d4, k_iT, k_iF, k_iX, k_x1, k_x1X, k_x2, k_x2X, k_s1, k_s2, k_s3, k_o, k_a1, k_a1X, k_a2, k_a2X, k_m1, k_m1X, k_m2, k_m2X, k_bi, k_biX, k_bm1, k_bm1X, k_bm2, k_bm3, k_bm3X, k_at, k_atX, k_is, k_isX, k_e1, k_e1X, k_e2, k_e2X, k_f1, k_f2, q_ss0, q_ss1, k_sq, k_sqR, k_sqX, k_sqB, k_sqC, q_set, k_set, k_setX, k_set2, q_par, k_p1, k_p1X, k_p2, k_p2X, q_sub, k_u1, k_u1X, k_u2, k_u3, k_u4, q_fld, k_w1, k_w1X, k_w2, q_ex, k_ex, k_exX, q_ret, k_rF, k_rT, k_rX, k_rf, q_retN, q_if, k_ifT, k_ifF, k_ifX, q_raise, k_rs, q_aug, k_agA, k_agS, q_pass, q_brk, q_cont, fin_rt, fin_nx, fin_ex, cmpR.eq_def, clsD.eq_def, ixD.eq_def, seqOf.eq_def, bin.eq_def, binI_add, binI_sub, binI_mod, binI_fdiv, binI_mulL, binI_mulR, Bool.and_self, sm_a, sm_b, sm_c, sm_d, sm_e, sm_f, sm_g, sm_h, sm_i, sm_j, sm_k, lg64, lg4096, lg65536, cmp.eq_def, truth.eq_def, biD.eq_def, lenD.eq_def, absD.eq_def, intD.eq_def, minD.eq_def, maxD.eq_def, newL.eq_def, bindT.eq_1, bindT.eq_2, bindT.eq_3, setD.eq_def, isNone.eq_def, List.getElem?_cons_zero, List.getElem?_cons_succ, List.set_cons_zero, List.set_cons_succ, List.length_cons, List.length_nil, at0, at1, at2, at3, if_true, if_false, decide_true, decide_false, and_self, and_true, true_and, Bool.false_eq_true, Nat.reduceAdd, Nat.reduceLT, Nat.reduceLeDiff, Nat.reduceSub, Nat.reduceEqDiff, Int.reduceLT, Int.reduceLE, Int.reduceNeg, Int.reduceToNat, reduceIte, reduceCtorEq, ix3_0, ix3_1, ix3_2, big, Nat.zero_le, ne_eq, not_false_eq_true, not_true_eq_false, isiD.eq_1, isiD.eq_2, isiOne.eq_def, tyBlt.eq_def, Option.map_some, Bool.not_true, Bool.not_false, hb2, slD.eq_def, sOf_list, hp3, hp4, l0, sOf_len, l1, l2, sOf_app, lq, hmod, ea, Option.map_some, sOf_one, la, Int.toNat_natCast]
      simp [wd]
  have e6 : ev (G.cfg (run G (k + 2))) (.lc false .rng (.cons (.v 1) .nil) (.n 6) .nil (.bin .add (.bin .add (.sl (.v 3) .nil (.cons (.v 4) .nil)) (.ix (.v 2) (.bin .mod (.bi .int (.cons (.bin .add (.v 5) (.v 6)) .nil)) (.k (.int 26))))) (.sl (.v 3) (.cons (.v 4) .nil) .nil))) [some (.ref n), some (.int (m : Nat)), some (.str abc), some (.str (sOf qs)), some (.int v3), some (.int v4), none, none] M5 = _ :=
    lc_eq (ds := [.int (m : Nat)]) (M1 := M5) (by simp -implicitDefEqProofs only [bind_ok, bind_ex, fl_ok, fl_ex, seq_nx, seq_rt, seq_ex, q_k, q_v, q_g, q_tup, q_lst, q_bin, q_neg, q_evT, q_not, q_and1, q_and, q_or1, q_or, q_cmp, q_cmp2, q_ite, q_ix, q_sl, q_o0, q_o1, q_call, q_mk, q_bi, q_bm, q_attr, q_isi, q_e0, q_e1, q_e2, k_v, k_of, k_tup, k_tupX, k_lst, k_lstX, k_b1, k_b1X, k_b2, k_b2X, k_neg, k_t, k_tX, k_not, k_notX, k_and, k_andX, k_andT, k_andF, k_or, k_orX, k_orT, k_orF, k_c1, k_c1X, k_c2, k_c2X, k_d1, k_d2, k_d3T, k_d3F, k_d4, k_iT, k_iF, k_iX, k_x1, k_x1X, k_x2, k_x2X, k_s1, k_s2, k_s3, k_o, k_a1, k_a1X, k_a2, k_a2X, k_m1, k_m1X, k_m2, k_m2X, k_bi, k_biX, k_bm1, k_bm1X, k_bm2, k_bm3, k_bm3X, k_at, k_atX, k_is, k_isX, k_e1, k_e1X, k_e2, k_e2X, k_f1, k_f2, q_ss0, q_ss1, k_sq, k_sqR, k_sqX, k_sqB, k_sqC, q_set, k_set, k_setX, k_set2, q_par, k_p1, k_p1X, k_p2, k_p2X, q_sub, k_u1, k_u1X, k_u2, k_u3, k_u4, q_fld, k_w1, k_w1X, k_w2, q_ex, k_ex, k_exX, q_ret, k_rF, k_rT, k_rX, k_rf, q_retN, q_if, k_ifT, k_ifF, k_ifX, q_raise, k_rs, q_aug, k_agA, k_agS, q_pass, q_brk, q_cont, fin_rt, fin_nx, fin_ex, cmpR.eq_def, clsD.eq_def, ixD.eq_def, seqOf.eq_def, bin.eq_def, binI_add, binI_sub, binI_mod, binI_fdiv, binI_mulL, binI_mulR, Bool.and_self, sm_a, sm_b, sm_c, sm_d, sm_e, sm_f, sm_g, sm_h, sm_i, sm_j, sm_k, lg64, lg4096, lg65536, cmp.eq_def, truth.eq_def, biD.eq_def, lenD.eq_def, absD.eq_def, intD.eq_def, minD.eq_def, maxD.eq_def, newL.eq_def, bindT.eq_1, bindT.eq_2, bindT.eq_3, setD.eq_def, isNone.eq_def, List.getElem?_cons_zero, List.getElem?_cons_succ, List.set_cons_zero, List.set_cons_succ, List.length_cons, List.length_nil, at0, at1, at2, at3, if_true, if_false, decide_true, decide_false, and_self, and_true, true_and, Bool.false_eq_true, Nat.reduceAdd, Nat.reduceLT, Nat.reduceLeDiff, Nat.reduceSub, Nat.reduceEqDiff, Int.reduceLT, Int.reduceLE, Int.reduceNeg, Int.reduceToNat, reduceIte, reduceCtorEq, ix3_0, ix3_1, ix3_2, big, Nat.zero_le, ne_eq, not_false_eq_true, not_true_eq_false, isiD.eq_1, isiD.eq_2, isiOne.eq_def, tyBlt.eq_def, Option.map_some, Bool.not_true, Bool.not_false]) (items_rng (by omega) (by omega)) hL
  have dd := ((((d2.trans d3)).trans d4).trans d5)
  refine ⟨qs.take v3.toNat, qs.drop v3.toNat, v4.toNat, M5, ?_, ⟨fun c hc => hq1 c (by rwa [List.take_append_drop] at hc), by rw [List.take_append_drop]; exact hq2, by rw [List.take_append_drop]; omega⟩, p5.mono (by omega), dd⟩
  simp -implicitDefEqProofs only [bind_ok, bind_ex, fl_ok, fl_ex, seq_nx, seq_rt, seq_ex, q_k, q_v, q_g, q_tup, q_lst, q_bin, q_neg, q_evT, q_not, q_and1, q_and, q_or1, q_or, q_cmp, q_cmp2, q_ite, q_ix, q_sl, q_o0, q_o1, q_call, q_mk, q_bi, q_bm, q_attr, q_isi, q_e0, q_e1, q_e2, k_v, k_of, k_tup, k_tupX, k_lst, k_lstX, k_b1, k_b1X, k_b2, k_b2X, k_neg, k_t, k_tX, k_not, k_notX, k_and, k_andX, k_andT, k_andF, k_or, k_orX, k_orT, k_orF, k_c1, k_c1X, k_c2, k_c2X, k_d1, k_d2, k_d3T, k_d3F, k_d4, k_iT, k_iF, k_iX, k_x1, k_x1X, k_x2, k_x2X, k_s1, k_s2, k_s3, k_o, k_a1, k_a1X, k_a2, k_a2X, k_m1, k_m1X, k_m2, k_m2X, k_bi, k_biX, k_bm1, k_bm1X, k_bm2, k_bm3, k_bm3X, k_at, k_atX, k_is, k_isX, k_e1, k_e1X, k_e2, k_e2X, k_f1, k_f2, q_ss0, q_ss1, k_sq, k_sqR, k_sqX, k_sqB, k_sqC, q_set, k_set, k_setX, k_set2, q_par, k_p1, k_p1X, k_p2, k_p2X, q_sub, k_u1, k_u1X, k_u2, k_u3, k_u4, q_fld, k_w1, k_w1X, k_w2, q_ex, k_ex, k_exX, q_ret, k_rF, k_rT, k_rX, k_rf, q_retN, q_if, k_ifT, k_ifF, k_ifX, q_raise, k_rs, q_aug, k_agA, k_agS, q_pass, q_brk, q_cont, fin_rt, fin_nx, fin_ex, cmpR.eq_def, clsD.eq_def, ixD.eq_def, seqOf.eq_def, bin.eq_def, binI_add, binI_sub, binI_mod, binI_fdiv, binI_mulL, binI_mulR, Bool.and_self, sm_a, sm_b, sm_c, sm_d, sm_e, sm_f, sm_g, sm_h, sm_i, sm_j, sm_k, lg64, lg4096, lg65536, cmp.eq_def, truth.eq_def, biD.eq_def, lenD.eq_def, absD.eq_def, intD.eq_def, minD.eq_def, maxD.eq_def, newL.eq_def, bindT.eq_1, bindT.eq_2, bindT.eq_3, setD.eq_def, isNone.eq_def, List.getElem?_cons_zero, List.getElem?_cons_succ, List.set_cons_zero, List.set_cons_succ, List.length_cons, List.length_nil, at0, at1, at2, at3, if_true, if_false, decide_true, decide_false, and_self, and_true, true_and, Bool.false_eq_true, Nat.reduceAdd, Nat.reduceLT, Nat.reduceLeDiff, Nat.reduceSub, Nat.reduceEqDiff, Int.reduceLT, Int.reduceLE, Int.reduceNeg, Int.reduceToNat, reduceIte, reduceCtorEq, ix3_0, ix3_1, ix3_2, big, Nat.zero_le, ne_eq, not_false_eq_true, not_true_eq_false, isiD.eq_1, isiD.eq_2, isiOne.eq_def, tyBlt.eq_def, Option.map_some, Bool.not_true, Bool.not_false, ↓e6, List.nil_append, List.map_map]
  refine gc_ok0 dd.gc dd.len ?_
  refine unds_iff.mpr fun d hd => ?_
  obtain ⟨i, _, rfl⟩ := List.mem_map.mp hd
  rfl
end Dv
/-! Texts in lists; equality of plain data. -/
namespace Dv
open PySem
mutual
/-- plain data -/
def D.okd : D → Bool
  | .non => true
  | .bl _ => true
  | .int _ => true
  | .str s => PyData.strOk s
  | .tup l => D.okds l
  | .lst l => D.okds l
  | _ => false
def D.okds : List D → Bool
  | [] => true
  | d :: l => D.okd d && D.okds l
end
mutual
def D.toP : D → PyData
  | .bl b => .bool b
  | .int i => .int i
  | .str s => .str s
  | .tup l => .tuple (D.toPs l)
  | .lst l => .list (D.toPs l)
  | _ => .none
def D.toPs : List D → List PyData
  | [] => []
  | d :: l => D.toP d :: D.toPs l
end
mutual
def D.dep : D → Nat
  | .tup l => D.deps l + 1
  | .lst l => D.deps l + 1
  | _ => 0
def D.deps : List D → Nat
  | [] => 0
  | d :: l => max (D.dep d) (D.deps l)
end
mutual
theorem D.py_ok : ∀ d : D, d.okd = true → D.py d = some d.toP ∧ d.toP.canLay0 = true ∧ d.toP.depth = d.dep
  | .non, _ => ⟨rfl, rfl, rfl⟩
  | .bl _, _ => ⟨rfl, rfl, rfl⟩
  | .int _, _ => ⟨rfl, rfl, rfl⟩
  | .str s, h => ⟨rfl, h, rfl⟩
  | .tup l, h => by
    obtain ⟨h1, h2, h3⟩ := D.pys_ok l h
    refine ⟨by simp only [D.py, h1, D.toP, Option.map_some], h2, ?_⟩
    simp only [D.toP, PyData.depth, D.dep, h3]
  | .lst l, h => by
    obtain ⟨h1, h2, h3⟩ := D.pys_ok l h
    refine ⟨by simp only [D.py, h1, D.toP, Option.map_some], h2, ?_⟩
    simp only [D.toP, PyData.depth, D.dep, h3]
  | .obj _ _ _, h => by cases h
  | .exn _ _ _, h => by cases h
  | .ref _, h => by cases h
  | .scr _, h => by cases h
theorem D.pys_ok : ∀ l : List D, D.okds l = true → D.pys l = some (D.toPs l) ∧ PyData.canLayAll0 (D.toPs l) = true ∧ PyData.depthAll (D.toPs l) = D.deps l
  | [], _ => ⟨rfl, rfl, rfl⟩
  | d :: l, h => by
    simp only [D.okds, Bool.and_eq_true] at h
    obtain ⟨h1, h2, h3⟩ := D.py_ok d h.1
    obtain ⟨g1, g2, g3⟩ := D.pys_ok l h.2
    refine ⟨by simp only [D.pys, h1, g1, D.toPs], by simp only [D.toPs, PyData.canLayAll0, h2, g2, Bool.and_self], by simp only [D.toPs, PyData.depthAll, D.deps, h3, g3]⟩
end
def eqDD (a b : D) : Bool := PyData.eqv a.toP b.toP
theorem D.shp {d : D} (h : d.okd = true) (l : d.dep ≤ 64) : SeqAt.shaped d.toP = true := by
  obtain ⟨_, h2, h3⟩ := D.py_ok d h
  unfold SeqAt.shaped
  simp only [h2, h3, l, decide_true, Bool.and_self]
theorem eqD_ok {a b : D} (ha : a.okd = true) (hb : b.okd = true) (la : a.dep ≤ 64) (lb : b.dep ≤ 64) : eqD a b = some (eqDD a b) := by
  unfold eqD
  rw [(D.py_ok a ha).1, (D.py_ok b hb).1]
  simp only [D.shp ha la, D.shp hb lb, Bool.and_self, if_true]
  rfl
theorem eqDD_refl {a : D} (ha : a.okd = true) : eqDD a a = true := SeqAt.eqv_refl _ (D.py_ok a ha).2.1
theorem eqDD_str {x y : Str} : eqDD (.str x) (.str y) = decide (x = y) := by
  show (x == y) = _
  by_cases h : x = y <;> simp [h]
theorem okds_iff : ∀ {l : List D}, D.okds l = true ↔ ∀ d ∈ l, d.okd = true
  | [] => by simp [D.okds]
  | d :: l => by simp [D.okds, okds_iff (l := l)]
theorem deps_le {n : Nat} : ∀ {l : List D}, D.deps l ≤ n ↔ ∀ d ∈ l, d.dep ≤ n
  | [] => by simp [D.deps]
  | d :: l => by simp only [D.deps, Nat.max_le, List.mem_cons, forall_eq_or_imp, deps_le (l := l)]
theorem toPs_map : ∀ l : List D, D.toPs l = l.map D.toP
  | [] => rfl
  | d :: l => by simp [D.toPs, toPs_map l]
/-- x in a list or tuple -/
theorem inD_ok {M : Store} {x y : D} {ys : List D} (hx : x.okd = true) (hy : D.okds ys = true) (lx : x.dep ≤ 64) (ly : D.deps ys ≤ 63) (hs : seqOf M y = some ys) (hn : ∀ s, y ≠ .str s) : inD M x y = some (ys.any fun z => eqDD z x) := by
  have e : inD M x y = match seqOf M y with
    | some ys => match D.py x, D.pys ys with
      | some d, some ds => if SeqAt.shaped d && SeqAt.shaped (.list ds) then some (ds.any fun z => PyData.eqv z d) else none
      | _, _ => none
    | none => none := by
    unfold inD
    cases y with
    | str s => exact absurd rfl (hn s)
    | _ => cases x <;> rfl
  rw [e, hs]
  have hl : SeqAt.shaped (.list (D.toPs ys)) = true := D.shp (d := .lst ys) hy (by simp only [D.dep]; omega)
  simp only [(D.py_ok x hx).1, (D.pys_ok ys hy).1, D.shp hx lx, hl, Bool.and_self, if_true]
  rw [toPs_map, List.any_map]
  rfl
theorem in_strs {M : Store} {y : D} {w : Str} {ws : List Str} (hw : PyData.strOk w = true) (hws : ∀ s ∈ ws, PyData.strOk s = true) (hy : y = .tup (ws.map D.str) ∨ y = .lst (ws.map D.str)) : inD M (.str w) y = some (decide (w ∈ ws)) := by
  have h1 : D.okds (ws.map D.str) = true := okds_iff.mpr fun d hd => by
    obtain ⟨s, hs, rfl⟩ := List.mem_map.mp hd
    exact hws s hs
  have h2 : D.deps (ws.map D.str) ≤ 63 := deps_le.mpr fun d hd => by
    obtain ⟨s, hs, rfl⟩ := List.mem_map.mp hd
    exact Nat.zero_le _
  rw [inD_ok (x := .str w) (ys := ws.map D.str) hw h1 (Nat.zero_le _) h2 (by rcases hy with rfl | rfl <;> rfl) (by rcases hy with rfl | rfl <;> intro s h <;> cases h), List.any_map]
  congr 1
  simp only [Function.comp_def, eqDD_str]
  by_cases h : w ∈ ws
  · simp only [h, decide_true, List.any_eq_true, decide_eq_true_eq]
    exact ⟨w, h, rfl⟩
  · simp only [h, decide_false]
    rw [List.any_eq_false]
    intro s hs
    simp only [decide_eq_true_eq]
    intro e
    exact h (e ▸ hs)
theorem strOk_sOf {cs : List Nat} (h : ∀ c ∈ cs, c < 1114112) : PyData.strOk (sOf cs) = true := by
  unfold PyData.strOk sOf
  simp only [List.all_toArray, List.all_eq_true, decide_eq_true_eq]
  exact h
theorem stX_rfl : ∀ M : Store, (∀ c ∈ M, True) → stX M M = true
  | [], _ => rfl
  | c :: M, _ => by simp [stX, stX_rfl M fun _ _ => trivial]
theorem cmpR_own {C : Cfg} {x y : D} {M M1 : Store} {c f : Nat} {b : Bool} (h1 : clsD M x = some c) (h2 : C.eqm c = some f) (h3 : eqOk C M c y = true) (h4 : C.call f [x, y] M = .ok (.bl b) M1) : cmpR C .eq x y M = .ok (.bl b) M1 := by
  simp only [cmpR, h1, h2, h3, if_true, h4]
end Dv
namespace Law
open PySem PySem.Spec PyProof.Rows L2 He Dv
abbrev PG_ : Program := PySem.Challenge.pw_carriedfields_k93_callers_made
def top (i : Nat) : Stmt := PG_.main.body.getD i (.Pass ⟨0, 0, 0, 0⟩)
def meth (i j : Nat) : Stmt := (inCls (top i)).getD j (.Pass ⟨0, 0, 0, 0⟩)
def file : Str := PG_.main.file
def d0 : DefD := ⟨("is_integer", none), "is_integer", "is_integer", defArgs (top 4), defBody (top 4), defScope (top 4), [], []⟩
def d1 : DefD := ⟨("is_spelled", none), "is_spelled", "is_spelled", defArgs (top 5), defBody (top 5), defScope (top 5), [], []⟩
def d2 : DefD := ⟨("is_word", none), "is_word", "is_word", defArgs (top 6), defBody (top 6), defScope (top 6), [], []⟩
def d3 : DefD := ⟨("_law_bag", none), "_law_bag", "_law_bag", defArgs (top 14), defBody (top 14), defScope (top 14), [], []⟩
def d4 : DefD := ⟨("_law_take", none), "_law_take", "_law_take", defArgs (top 15), defBody (top 15), defScope (top 15), [], []⟩
def d5 : DefD := ⟨("_law_of", none), "_law_of", "_law_of", defArgs (top 16), defBody (top 16), defScope (top 16), [], []⟩
def d6 : DefD := ⟨("_law_words", none), "_law_words", "_law_words", defArgs (top 17), defBody (top 17), defScope (top 17), [], []⟩
def d7 : DefD := ⟨("_law_picked", none), "_law_picked", "_law_picked", defArgs (top 18), defBody (top 18), defScope (top 18), [], []⟩
def d8 : DefD := ⟨("_law_strict", none), "_law_strict", "_law_strict", defArgs (top 19), defBody (top 19), defScope (top 19), [], []⟩
def d9 : DefD := ⟨("_law_made", none), "_law_made", "_law_made", defArgs (top 20), defBody (top 20), defScope (top 20), [], []⟩
def d10 : DefD := ⟨("_law_are_words", none), "_law_are_words", "_law_are_words", defArgs (top 21), defBody (top 21), defScope (top 21), [], []⟩
def d11 : DefD := ⟨("_law_callers", none), "_law_callers", "_law_callers", defArgs (top 22), defBody (top 22), defScope (top 22), [], []⟩
def d12 : DefD := ⟨("_law_right", none), "_law_right", "_law_right", defArgs (top 23), defBody (top 23), defScope (top 23), [], []⟩
def d13 : DefD := ⟨("law", none), "law", "law", defArgs (top 24), defBody (top 24), defScope (top 24), [], []⟩
def d14 : DefD := ⟨("Callers", some "__init__"), "__init__", "Callers.__init__", defArgs (meth 12 0), defBody (meth 12 0), defScope (meth 12 0), [], [("times", .non), ("look", .str "equal"), ("methods", .non), ("fresh", .bl false)]⟩
def d15 : DefD := ⟨("Callers", some "__eq__"), "__eq__", "Callers.__eq__", defArgs (meth 12 1), defBody (meth 12 1), defScope (meth 12 1), [], []⟩
def x2 : DefD := ⟨("BadCallers", some "__init__"), "__init__", "BadCallers.__init__", defArgs (meth 9 0), defBody (meth 9 0), defScope (meth 9 0), [], []⟩
def b0 : Ss := .cons (.ret false (.and (.cons (.isi (.v 0) [.int]) (.cons (.not (.isi (.v 0) [.bool])) .nil)))) .nil
def g0 : Fd := ⟨["given"], ["given"], b0⟩
def b1 : Ss := .cons (.ite (.or (.cons (.not (.isi (.v 0) [.str])) (.cons (.not (.cmp2 .le .le (.k (.int 1)) (.bi .len (.cons (.v 0) .nil)) (.g 0))) .nil))) (.cons (.ret false (.k (.bl false))) .nil) .nil) (.cons (.ret false (.bi .all (.cons (.lc false .seq (.cons (.v 0) .nil) (.n 2) .nil (.cmp .isIn (.v 2) (.v 1))) .nil))) .nil)
def g1 : Fd := ⟨["given", "letters"], ["given", "letters", "letter"], b1⟩
def b2 : Ss := .cons (.ret false (.and (.cons (.call 1 0 (.cons (.v 0) (.cons (.g 2) .nil)) .nil) (.cons (.cmp .notIn (.v 0) (.g 1)) .nil)))) .nil
def g2 : Fd := ⟨["given"], ["given"], b2⟩
def b3 : Ss := .cons (.set (.n 2) (.ite (.cmp .lt (.v 1) (.bi .len (.cons (.v 0) .nil))) (.ix (.v 0) (.v 1)) (.k (.int 0)))) (.cons (.set (.n 3) (.ite (.cmp .ge (.bi .abs (.cons (.v 2) .nil)) (.bin .pow (.k (.int 10)) (.k (.int 18)))) (.bi .abs (.cons (.v 2) .nil)) (.k (.int 0)))) (.cons (.set (.n 4) (.bin .add (.bin .add (.bin .add (.bin .mul (.k (.int 6)) (.bi .abs (.cons (.v 2) .nil))) (.bin .mul (.k (.int 3)) (.bi .int (.cons (.cmp .lt (.v 2) (.k (.int 0))) .nil)))) (.bin .mul (.k (.int 9973)) (.v 1))) (.k (.int 11)))) (.cons (.ret false (.lst true (.cons (.v 3) (.cons (.bin .mod (.bi .int (.cons (.v 4) .nil)) (.k (.int 2305843009213693951))) (.cons (.k (.int 0)) .nil))))) .nil)))
def g3 : Fd := ⟨["_law_script", "_law_at"], ["_law_script", "_law_at", "_law_cell", "_law_digits", "_law_seed"], b3⟩
def b4 : Ss := .cons (.ite (.cmp .gt (.ix (.v 0) (.k (.int 0))) (.k (.int 0))) (.cons (.set (.n 3) (.bin .mod (.bi .int (.cons (.ix (.v 0) (.k (.int 0))) .nil)) (.v 1))) (.cons (.sub (.v 0) (.k (.int 0)) (.bin .fdiv (.ix (.v 0) (.k (.int 0))) (.v 1))) (.cons (.ret false (.v 3)) .nil))) .nil) (.cons (.sub (.v 0) (.k (.int 2)) (.bin .add (.ix (.v 0) (.k (.int 2))) (.k (.int 1)))) (.cons (.set (.n 2) (.bin .add (.bin .pow (.bin .add (.ix (.v 0) (.k (.int 1))) (.bin .mul (.k (.int 7368787)) (.ix (.v 0) (.k (.int 2))))) (.k (.int 3))) (.bin .mul (.k (.int 15485863)) (.ix (.v 0) (.k (.int 2)))))) (.cons (.set (.n 2) (.bin .add (.bin .mod (.bi .int (.cons (.v 2) .nil)) (.k (.int 2305843009213693951))) (.bin .mul (.k (.int 49979687)) (.ix (.v 0) (.k (.int 2)))))) (.cons (.set (.n 2) (.bin .mod (.bi .int (.cons (.bin .add (.bin .pow (.v 2) (.k (.int 2))) (.ix (.v 0) (.k (.int 1)))) .nil)) (.k (.int 2147483647)))) (.cons (.ret false (.bin .mod (.bi .int (.cons (.bin .fdiv (.v 2) (.k (.int 64))) .nil)) (.v 1))) .nil)))))
def g4 : Fd := ⟨["_law_pot", "_law_many"], ["_law_pot", "_law_many", "_law_mixed", "_law_digit"], b4⟩
def b5 : Ss := .cons (.ret false (.ix (.v 1) (.call 4 0 (.cons (.v 0) (.cons (.bi .len (.cons (.v 1) .nil)) .nil)) .nil))) .nil
def g5 : Fd := ⟨["_law_pot", "_law_some"], ["_law_pot", "_law_some"], b5⟩
def b6 : Ss := .cons (.set (.n 2) (.k (.str "abcdefghijklmnopqrstuvwxyz"))) (.cons (.set (.n 3) (.bm .join (.k (.str "")) (.cons (.lc false .rng (.cons (.call 4 0 (.cons (.v 0) (.cons (.k (.int 7)) .nil)) .nil) .nil) (.n 7) .nil (.call 5 0 (.cons (.v 0) (.cons (.v 2) .nil)) .nil)) .nil))) (.cons (.set (.n 4) (.call 4 0 (.cons (.v 0) (.cons (.bin .add (.bi .len (.cons (.v 3) .nil)) (.k (.int 1))) .nil)) .nil)) (.cons (.set (.n 3) (.bin .add (.bin .add (.sl (.v 3) .nil (.cons (.v 4) .nil)) (.k (.str "q"))) (.sl (.v 3) (.cons (.v 4) .nil) .nil))) (.cons (.set (.t2 (.n 4) (.n 5)) (.tup (.cons (.call 4 0 (.cons (.v 0) (.cons (.bin .add (.bi .len (.cons (.v 3) .nil)) (.k (.int 1))) .nil)) .nil) (.cons (.call 4 0 (.cons (.v 0) (.cons (.k (.int 26)) .nil)) .nil) .nil)))) (.cons (.ret false (.lc false .rng (.cons (.v 1) .nil) (.n 6) .nil (.bin .add (.bin .add (.sl (.v 3) .nil (.cons (.v 4) .nil)) (.ix (.v 2) (.bin .mod (.bi .int (.cons (.bin .add (.v 5) (.v 6)) .nil)) (.k (.int 26))))) (.sl (.v 3) (.cons (.v 4) .nil) .nil)))) .nil)))))
def g6 : Fd := ⟨["_law_pot", "_law_many"], ["_law_pot", "_law_many", "_law_letters", "_law_stem", "_law_spot", "_law_shift", "_law_k", "_law_turn"], b6⟩
def b7 : Ss := .cons (.par 4 5 (.bi (.list true) (.cons (.v 1) .nil)) (.lst true .nil)) (.cons (.for_ .rng (.cons (.bi .min (.cons (.v 2) (.cons (.bi .len (.cons (.v 4) .nil)) .nil))) .nil) (.n 3) (.cons (.ex (.bm .append (.v 5) (.cons (.bm .popAt (.v 4) (.cons (.call 4 0 (.cons (.v 0) (.cons (.bi .len (.cons (.v 4) .nil)) .nil)) .nil) .nil)) .nil))) .nil)) (.cons (.ret true (.v 5)) .nil))
def g7 : Fd := ⟨["_law_pot", "_law_some", "_law_many"], ["_law_pot", "_law_some", "_law_many", "_law_turn", "_law_left", "_law_found"], b7⟩
def b8 : Ss := .cons (.ite (.isi (.v 1) [.tuple]) (.cons (.ite (.or (.cons (.not (.isi (.v 0) [.tuple])) (.cons (.cmp .ne (.bi .len (.cons (.v 0) .nil)) (.bi .len (.cons (.v 1) .nil))) .nil))) (.cons (.ret false (.k (.bl false))) .nil) .nil) (.cons (.ret false (.bi .all (.cons (.lc false .rng (.cons (.bi .len (.cons (.v 1) .nil)) .nil) (.n 2) .nil (.call 8 0 (.cons (.ix (.v 0) (.v 2)) (.cons (.ix (.v 1) (.v 2)) .nil)) .nil)) .nil))) .nil)) .nil) (.cons (.ite (.or (.cons (.cmp .ne (.isi (.v 0) [.bool]) (.isi (.v 1) [.bool])) (.cons (.cmp .ne (.isi (.v 0) [.int]) (.isi (.v 1) [.int])) .nil))) (.cons (.ret false (.k (.bl false))) .nil) .nil) (.cons (.ret false (.and (.cons (.cmp .eq (.v 0) (.v 1)) (.cons (.cmp .eq (.isi (.v 0) [.str]) (.isi (.v 1) [.str])) .nil)))) .nil))
def g8 : Fd := ⟨["_law_one", "_law_other"], ["_law_one", "_law_other", "_law_at"], b8⟩
def b9 : Ss := .cons (.try_ (.cons (.ite (.and (.cons (.cmp .is_ (.v 2) (.k (.non))) (.cons (.cmp .eq (.v 1) (.k (.str "equal"))) .nil))) (.cons (.ret false (.mk 0 3 .nil (.cons (.v 3) (.cons (.v 0) .nil)))) .nil) .nil) (.cons (.ite (.and (.cons (.cmp .is_ (.v 0) (.k (.non))) (.cons (.cmp .is_ (.v 3) (.k (.bl false))) .nil))) (.cons (.ret false (.mk 0 2 .nil (.cons (.v 2) (.cons (.v 1) .nil)))) .nil) .nil) (.cons (.ret false (.mk 0 1 .nil (.cons (.v 0) (.cons (.v 1) (.cons (.v 2) (.cons (.v 3) .nil)))))) .nil))) (.cons 2 (some 4) (.cons (.ret false (.attr (.v 4) 0)) .nil) (.cons 1 none (.cons (.ret false (.k (.str "other"))) .nil) .nil))) .nil
def g9 : Fd := ⟨["_law_passes", "_law_gaze", "_law_some_parts", "_law_is_new"], ["_law_passes", "_law_gaze", "_law_some_parts", "_law_is_new", "e"], b9⟩
def b10 : Ss := .cons (.ret false (.and (.cons (.isi (.v 0) [.tuple]) (.cons (.bi .all (.cons (.lc false .seq (.cons (.v 0) .nil) (.n 2) .nil (.and (.cons (.isi (.v 2) [.str]) (.cons (.cmp .isIn (.v 2) (.v 1)) .nil)))) .nil)) .nil)))) .nil
def g10 : Fd := ⟨["_law_given", "_law_terms"], ["_law_given", "_law_terms", "_law_one"], b10⟩
def b11 : Ss := .cons (.set (.n 2) (.call 4 0 (.cons (.v 0) (.cons (.bin .mul (.bin .pow (.k (.int 10)) (.k (.int 49))) (.bin .pow (.k (.int 10)) (.k (.int 50)))) .nil)) .nil)) (.cons (.set (.n 3) (.call 5 0 (.cons (.v 0) (.cons (.lst false (.cons (.k (.non)) (.cons (.k (.int 0)) (.cons (.k (.int 1)) (.cons (.v 2) (.cons (.v 2) (.cons (.bin .sub (.neg (.k (.int 1))) (.v 2)) (.cons (.k (.bl true)) (.cons (.k (.bl false)) (.cons (.k (.str "0")) (.cons (.tup .nil) .nil))))))))))) .nil)) .nil)) (.cons (.set (.n 4) (.call 5 0 (.cons (.v 0) (.cons (.lst false (.cons (.k (.str "equal")) (.cons (.k (.str "same")) (.cons (.k (.str "equal")) (.cons (.k (.str "same")) (.cons (.k (.str "")) (.cons (.k (.non)) (.cons (.k (.bl true)) (.cons (.lst false (.cons (.k (.str "same")) .nil)) (.cons (.k (.str "Equal")) .nil)))))))))) .nil)) .nil)) (.cons (.set (.n 5) (.bi .tuple (.cons (.call 7 4 (.cons (.v 0) (.cons (.v 1) (.cons (.call 4 0 (.cons (.v 0) (.cons (.k (.int 4)) .nil)) .nil) .nil))) .nil) .nil))) (.cons (.set (.n 6) (.lst false (.cons (.k (.non)) (.cons (.v 5) (.cons (.bin .mul (.v 5) (.k (.int 2))) (.cons (.tup .nil) (.cons (.v 5) (.cons (.bi (.list false) (.cons (.v 5) .nil)) (.cons (.tup (.cons (.k (.str "A")) .nil)) (.cons (.tup (.cons (.k (.non)) .nil)) (.cons (.ix (.v 1) (.k (.int 0))) (.cons (.tup (.cons (.k (.str "if")) .nil)) (.cons (.tup (.cons (.v 5) .nil)) (.cons (.k (.int 0)) .nil)))))))))))))) (.cons (.set (.n 6) (.bin .add (.v 6) (.lst false (.cons (.bin .add (.v 5) (.tup (.cons (.k (.str "A")) .nil))) (.cons (.bin .add (.v 5) (.tup (.cons (.lst false .nil) .nil))) (.cons (.bin .add (.bin .add (.v 5) (.tup (.cons (.k (.non)) .nil))) (.v 5)) .nil)))))) (.cons (.set (.n 6) (.call 5 0 (.cons (.v 0) (.cons (.v 6) .nil)) .nil)) (.cons (.set (.n 7) (.call 5 0 (.cons (.v 0) (.cons (.lst false (.cons (.k (.bl true)) (.cons (.k (.bl false)) (.cons (.k (.bl true)) (.cons (.k (.bl false)) (.cons (.k (.non)) (.cons (.k (.int 0)) (.cons (.k (.int 1)) (.cons (.k (.str "True")) .nil))))))))) .nil)) .nil)) (.cons (.set (.n 8) (.k (.non))) (.cons (.ite (.and (.cons (.cmp .isNot (.v 3) (.k (.non))) (.cons (.or (.cons (.isi (.v 3) [.bool]) (.cons (.not (.isi (.v 3) [.int])) (.cons (.cmp .lt (.v 3) (.k (.int 0))) .nil)))) .nil))) (.cons (.set (.n 8) (.k (.str "times"))) .nil) (.cons (.ite (.or (.cons (.not (.isi (.v 4) [.str])) (.cons (.cmp .notIn (.v 4) (.tup (.cons (.k (.str "equal")) (.cons (.k (.str "same")) .nil)))) .nil))) (.cons (.set (.n 8) (.k (.str "look"))) .nil) (.cons (.ite (.and (.cons (.cmp .isNot (.v 6) (.k (.non))) (.cons (.not (.call 10 0 (.cons (.v 6) (.cons (.v 1) .nil)) .nil)) .nil))) (.cons (.set (.n 8) (.k (.str "methods"))) .nil) (.cons (.ite (.not (.isi (.v 7) [.bool])) (.cons (.set (.n 8) (.k (.str "fresh"))) .nil) .nil) .nil)) .nil)) .nil)) (.cons (.ret false (.tup (.cons (.tup (.cons (.v 3) (.cons (.v 4) (.cons (.v 6) (.cons (.v 7) .nil))))) (.cons (.v 8) .nil)))) .nil))))))))))
def g11 : Fd := ⟨["_law_pot", "_law_terms"], ["_law_pot", "_law_terms", "_law_great", "_law_passes", "_law_gaze", "_law_some", "_law_some_parts", "_law_is_new", "_law_due"], b11⟩
def b12 : Ss := .cons (.par 2 3 (.call 6 0 (.cons (.v 0) (.cons (.k (.int 20)) .nil)) .nil) (.lst true .nil)) (.cons (.for_ .rng (.cons (.k (.int 6)) .nil) (.n 1) (.cons (.set (.t2 (.n 5) (.n 6)) (.call 11 0 (.cons (.v 0) (.cons (.v 2) .nil)) .nil)) (.cons (.set (.n 4) (.call 9 6 (.cons (.ix (.v 5) (.k (.int 0))) (.cons (.ix (.v 5) (.k (.int 1))) (.cons (.ix (.v 5) (.k (.int 2))) (.cons (.ix (.v 5) (.k (.int 3))) .nil)))) .nil)) (.cons (.ite (.or (.cons (.cmp .isNot (.v 6) (.k (.non))) (.cons (.isi (.v 4) [.str]) .nil))) (.cons (.ite (.or (.cons (.not (.isi (.v 4) [.str])) (.cons (.cmp .ne (.v 4) (.v 6)) .nil))) (.cons (.ret false (.k (.bl false))) .nil) .nil) .nil) (.cons (.ex (.bm .append (.v 3) (.cons (.tup (.cons (.v 4) (.cons (.v 5) .nil))) .nil))) .nil)) (.cons (.for_ .seq (.cons (.v 3) .nil) (.t2 (.n 7) (.n 8)) (.cons (.ite (.not (.call 8 0 (.cons (.tup (.cons (.attr (.v 7) 4) (.cons (.attr (.v 7) 1) (.cons (.attr (.v 7) 3) (.cons (.attr (.v 7) 2) .nil))))) (.cons (.v 8) .nil)) .nil)) (.cons (.ret false (.k (.bl false))) .nil) .nil) (.cons (.ite (.or (.cons (.cmp .eq (.v 7) (.v 8)) (.cons (.cmp .is_ (.v 7) (.k (.non))) (.cons (.cmp .eq (.v 7) (.attr (.v 7) 1)) .nil)))) (.cons (.ret false (.k (.bl false))) .nil) .nil) (.cons (.for_ .seq (.cons (.v 3) .nil) (.t2 (.n 9) (.n 10)) (.cons (.ite (.or (.cons (.cmp .ne (.cmp .eq (.v 7) (.v 9)) (.cmp .eq (.v 8) (.v 10))) (.cons (.cmp .ne (.cmp .eq (.v 7) (.mk 0 5 .nil .nil)) (.cmp .eq (.v 8) (.tup (.cons (.k (.non)) (.cons (.k (.str "equal")) (.cons (.k (.non)) (.cons (.k (.bl false)) .nil))))))) .nil))) (.cons (.ret false (.k (.bl false))) .nil) .nil) .nil)) .nil)))) .nil))))) (.cons (.ret false (.k (.bl true))) .nil))
def g12 : Fd := ⟨["_law_pot"], ["_law_pot", "_law_turn", "_law_terms", "_law_kept", "_law_made_here", "_law_given", "_law_due", "_law_one", "_law_parts", "_law_other", "_law_rest"], b12⟩
def b13 : Ss := .cons (.for_ .rng (.cons (.bi .max (.cons (.k (.int 1)) (.cons (.bi .min (.cons (.k (.int 8)) (.cons (.bi .len (.cons (.v 0) .nil)) .nil))) .nil))) .nil) (.n 1) (.cons (.ite (.not (.call 12 7 (.cons (.call 3 0 (.cons (.v 0) (.cons (.v 1) .nil)) .nil) .nil) .nil)) (.cons (.ret false (.k (.bl false))) .nil) .nil) .nil)) (.cons (.ret false (.k (.bl true))) .nil)
def g13 : Fd := ⟨["_law_script"], ["_law_script", "_law_at"], b13⟩
def b14 : Ss := .cons (.ite (.and (.cons (.cmp .isNot (.v 1) (.k (.non))) (.cons (.not (.and (.cons (.call 0 7 (.cons (.v 1) .nil) .nil) (.cons (.cmp .ge (.v 1) (.k (.int 0))) .nil)))) .nil))) (.cons (.raise 2 (.cons (.k (.str "times")) .nil)) .nil) .nil) (.cons (.ite (.cmp .notIn (.v 2) (.g 3)) (.cons (.raise 2 (.cons (.k (.str "look")) .nil)) .nil) .nil) (.cons (.ite (.and (.cons (.cmp .isNot (.v 3) (.k (.non))) (.cons (.not (.and (.cons (.isi (.v 3) [.tuple]) (.cons (.bi .all (.cons (.lc false .seq (.cons (.v 3) .nil) (.n 5) .nil (.call 2 7 (.cons (.v 5) .nil) .nil)) .nil)) .nil)))) .nil))) (.cons (.raise 2 (.cons (.k (.str "methods")) .nil)) .nil) .nil) (.cons (.ite (.not (.isi (.v 4) [.bool])) (.cons (.raise 2 (.cons (.k (.str "fresh")) .nil)) .nil) .nil) (.cons (.fld (.v 0) 4 (.v 1)) (.cons (.fld (.v 0) 1 (.v 2)) (.cons (.fld (.v 0) 3 (.v 3)) (.cons (.fld (.v 0) 2 (.v 4)) .nil)))))))
def g14 : Fd := ⟨["self", "times", "look", "methods", "fresh"], ["self", "times", "look", "methods", "fresh", "name"], b14⟩
def b15 : Ss := .cons (.ite (.not (.isi (.v 1) [.own 0])) (.cons (.ret false (.k (.bl false))) .nil) .nil) (.cons (.ret false (.cmp .eq (.tup (.cons (.attr (.v 0) 4) (.cons (.attr (.v 0) 1) (.cons (.attr (.v 0) 3) (.cons (.attr (.v 0) 2) .nil))))) (.tup (.cons (.attr (.v 1) 4) (.cons (.attr (.v 1) 1) (.cons (.attr (.v 1) 3) (.cons (.attr (.v 1) 2) .nil))))))) .nil)
def g15 : Fd := ⟨["self", "other"], ["self", "other"], b15⟩
def subT : List (List Nat) := [[0], [1], [2, 1]]
def Z : Sht where
  cl := ["Callers", "CarriedError", "BadCallers"]
  np := 1
  ats := ["part", "look", "fresh", "methods", "times"]
  sub := fun c d => (subT.getD c []).contains d
  fld := [(0, 1), (0, 2), (0, 3), (0, 4)]
  xfl := [(2, [0])]
  shp := [⟨2, 0, [.a 0, .a 1]⟩, ⟨1, 4, [.a 0, .a 1, .a 2, .a 3, .a 4]⟩, ⟨1, 2, [.a 0, .d (.non), .a 2, .a 1, .d (.bl false)]⟩, ⟨1, 2, [.a 0, .a 2, .d (.str "equal"), .d (.non), .a 1]⟩, ⟨3, 0, [.a 0, .a 1, .a 2]⟩, ⟨1, 0, [.a 0, .d (.non), .d (.str "equal"), .d (.non), .d (.bl false)]⟩, ⟨4, 0, [.a 0, .a 1, .a 2, .a 3]⟩, ⟨1, 0, [.a 0]⟩]
  glb := [("LONGEST", .int 8), ("RESERVED", .tup [.str "alone", .str "carry", .str "class", .str "cls", .str "def", .str "else", .str "enter", .str "if", .str "is", .str "keep", .str "leave", .str "made", .str "marks", .str "none", .str "not", .str "refuse", .str "return", .str "save", .str "self", .str "super", .str "thing"]), ("LETTERS", .str "abcdefghijklmnopqrstuvwxyz"), ("LOOKS", .tup [.str "equal", .str "same"])]
  ini := [(0, 14)]
  frz := [0]
  eqm := [(0, 15)]
  mth := []
  free := ["isinstance", "bool", "int", "all", "len", "str", "abs", "range", "min", "list", "tuple", "max", "super"]
  fn := [d0, d1, d2, d3, d4, d5, d6, d7, d8, d9, d10, d11, d12, d13, d14, d15]
  xin := [(2, x2)]
  fd := [g0, g1, g2, g3, g4, g5, g6, g7, g8, g9, g10, g11, g12, g13, g14, g15]
  cs := [(1, 0, []), (4, 0, []), (5, 0, []), (8, 0, []), (14, 1, ["times", "look", "methods", "fresh"]), (14, 2, ["methods", "look"]), (14, 3, ["fresh", "times"]), (10, 0, []), (7, 4, []), (14, 5, []), (9, 6, []), (11, 0, []), (6, 0, []), (12, 7, []), (3, 0, []), (2, 7, []), (0, 7, []), (15, 0, [])]
  sh2 := 0
theorem ok0 : Z.okI 0 = true := by decide +kernel
theorem ok1 : Z.okI 1 = true := by decide +kernel
theorem ok2 : Z.okI 2 = true := by decide +kernel
theorem ok3 : Z.okI 3 = true := by decide +kernel
theorem ok4 : Z.okI 4 = true := by decide +kernel
theorem ok5 : Z.okI 5 = true := by decide +kernel
theorem ok6 : Z.okI 6 = true := by decide +kernel
theorem ok7 : Z.okI 7 = true := by decide +kernel
theorem ok8 : Z.okI 8 = true := by decide +kernel
theorem ok9 : Z.okI 9 = true := by decide +kernel
theorem ok10 : Z.okI 10 = true := by decide +kernel
theorem ok11 : Z.okI 11 = true := by decide +kernel
theorem ok12 : Z.okI 12 = true := by decide +kernel
theorem ok13 : Z.okI 13 = true := by decide +kernel
theorem ok14 : Z.okI 14 = true := by decide +kernel
theorem ok15 : Z.okI 15 = true := by decide +kernel
theorem stz : Z.stB = true := by decide +kernel
theorem bn0 {K : PySem.W.Frag} {fd : FuncData} (F : FunD K d1.name d1.qual d1.params d1.body d1.scope (d1.dvs K) (d1.kws K) (fAd K d1.at_) fd) : BndOk (Z.T K) K fd g1.ps (Z.shp.getD 0 ⟨0, 0, []⟩).n [] (Z.shp.getD 0 ⟨0, 0, []⟩).sl :=
  bnd_n F rfl rfl rfl fun _ _ _ _ _ _ us ws h1 h2 => match us, ws, h1, h2 with
  | [_, _], [], _, _ => rfl
theorem bn1 {K : PySem.W.Frag} {fd : FuncData} (F : FunD K d4.name d4.qual d4.params d4.body d4.scope (d4.dvs K) (d4.kws K) (fAd K d4.at_) fd) : BndOk (Z.T K) K fd g4.ps (Z.shp.getD 0 ⟨0, 0, []⟩).n [] (Z.shp.getD 0 ⟨0, 0, []⟩).sl :=
  bnd_n F rfl rfl rfl fun _ _ _ _ _ _ us ws h1 h2 => match us, ws, h1, h2 with
  | [_, _], [], _, _ => rfl
theorem bn2 {K : PySem.W.Frag} {fd : FuncData} (F : FunD K d5.name d5.qual d5.params d5.body d5.scope (d5.dvs K) (d5.kws K) (fAd K d5.at_) fd) : BndOk (Z.T K) K fd g5.ps (Z.shp.getD 0 ⟨0, 0, []⟩).n [] (Z.shp.getD 0 ⟨0, 0, []⟩).sl :=
  bnd_n F rfl rfl rfl fun _ _ _ _ _ _ us ws h1 h2 => match us, ws, h1, h2 with
  | [_, _], [], _, _ => rfl
theorem bn3 {K : PySem.W.Frag} {fd : FuncData} (F : FunD K d8.name d8.qual d8.params d8.body d8.scope (d8.dvs K) (d8.kws K) (fAd K d8.at_) fd) : BndOk (Z.T K) K fd g8.ps (Z.shp.getD 0 ⟨0, 0, []⟩).n [] (Z.shp.getD 0 ⟨0, 0, []⟩).sl :=
  bnd_n F rfl rfl rfl fun _ _ _ _ _ _ us ws h1 h2 => match us, ws, h1, h2 with
  | [_, _], [], _, _ => rfl
theorem bn4 {K : PySem.W.Frag} {fd : FuncData} (F : FunD K d14.name d14.qual d14.params d14.body d14.scope (d14.dvs K) (d14.kws K) (fAd K d14.at_) fd) : BndOk (Z.T K) K fd g14.ps (Z.shp.getD 1 ⟨0, 0, []⟩).n ["times", "look", "methods", "fresh"] (Z.shp.getD 1 ⟨0, 0, []⟩).sl :=
  bnd_n F rfl rfl rfl fun _ _ _ _ _ _ us ws h1 h2 => match us, ws, h1, h2 with
  | [_], [_, _, _, _], _, _ => rfl
theorem bn5 {K : PySem.W.Frag} {fd : FuncData} (F : FunD K d14.name d14.qual d14.params d14.body d14.scope (d14.dvs K) (d14.kws K) (fAd K d14.at_) fd) : BndOk (Z.T K) K fd g14.ps (Z.shp.getD 2 ⟨0, 0, []⟩).n ["methods", "look"] (Z.shp.getD 2 ⟨0, 0, []⟩).sl :=
  bnd_k F [("times", .non), ("fresh", .bl false)] (by simp [DefD.kws, d14]) (fun q hq => by simp at hq; rcases hq with rfl | rfl <;> simp [DefD.kws, d14, He.Dv.v]) rfl rfl rfl rfl fun _ _ _ _ _ _ us ws mv h1 h2 h3 => match us, ws, mv, h1, h2, h3 with
  | [_], [_, _], [_, _], _, _, _ => ⟨_, _, _, _, _, _, rfl, rfl, ⟨_, _, _, _, _, _, rfl, rfl, rfl⟩⟩
theorem bn6 {K : PySem.W.Frag} {fd : FuncData} (F : FunD K d14.name d14.qual d14.params d14.body d14.scope (d14.dvs K) (d14.kws K) (fAd K d14.at_) fd) : BndOk (Z.T K) K fd g14.ps (Z.shp.getD 3 ⟨0, 0, []⟩).n ["fresh", "times"] (Z.shp.getD 3 ⟨0, 0, []⟩).sl :=
  bnd_k F [("look", .str "equal"), ("methods", .non)] (by simp [DefD.kws, d14]) (fun q hq => by simp at hq; rcases hq with rfl | rfl <;> simp [DefD.kws, d14, He.Dv.v]) rfl rfl rfl rfl fun _ _ _ _ _ _ us ws mv h1 h2 h3 => match us, ws, mv, h1, h2, h3 with
  | [_], [_, _], [_, _], _, _, _ => ⟨_, _, _, _, _, _, rfl, rfl, ⟨_, _, _, _, _, _, rfl, rfl, rfl⟩⟩
theorem bn7 {K : PySem.W.Frag} {fd : FuncData} (F : FunD K d10.name d10.qual d10.params d10.body d10.scope (d10.dvs K) (d10.kws K) (fAd K d10.at_) fd) : BndOk (Z.T K) K fd g10.ps (Z.shp.getD 0 ⟨0, 0, []⟩).n [] (Z.shp.getD 0 ⟨0, 0, []⟩).sl :=
  bnd_n F rfl rfl rfl fun _ _ _ _ _ _ us ws h1 h2 => match us, ws, h1, h2 with
  | [_, _], [], _, _ => rfl
theorem bn8 {K : PySem.W.Frag} {fd : FuncData} (F : FunD K d7.name d7.qual d7.params d7.body d7.scope (d7.dvs K) (d7.kws K) (fAd K d7.at_) fd) : BndOk (Z.T K) K fd g7.ps (Z.shp.getD 4 ⟨0, 0, []⟩).n [] (Z.shp.getD 4 ⟨0, 0, []⟩).sl :=
  bnd_n F rfl rfl rfl fun _ _ _ _ _ _ us ws h1 h2 => match us, ws, h1, h2 with
  | [_, _, _], [], _, _ => rfl
theorem bn9 {K : PySem.W.Frag} {fd : FuncData} (F : FunD K d14.name d14.qual d14.params d14.body d14.scope (d14.dvs K) (d14.kws K) (fAd K d14.at_) fd) : BndOk (Z.T K) K fd g14.ps (Z.shp.getD 5 ⟨0, 0, []⟩).n [] (Z.shp.getD 5 ⟨0, 0, []⟩).sl :=
  bnd_k F [("times", .non), ("look", .str "equal"), ("methods", .non), ("fresh", .bl false)] (by simp [DefD.kws, d14]) (fun q hq => by simp at hq; rcases hq with rfl | rfl | rfl | rfl <;> simp [DefD.kws, d14, He.Dv.v]) rfl rfl rfl rfl fun _ _ _ _ _ _ us ws mv h1 h2 h3 => match us, ws, mv, h1, h2, h3 with
  | [_], [], [_, _, _, _], _, _, _ => ⟨_, _, _, _, _, _, rfl, rfl, ⟨_, _, _, _, _, _, rfl, rfl, ⟨_, _, _, _, _, _, rfl, rfl, ⟨_, _, _, _, _, _, rfl, rfl, rfl⟩⟩⟩⟩
theorem bn10 {K : PySem.W.Frag} {fd : FuncData} (F : FunD K d9.name d9.qual d9.params d9.body d9.scope (d9.dvs K) (d9.kws K) (fAd K d9.at_) fd) : BndOk (Z.T K) K fd g9.ps (Z.shp.getD 6 ⟨0, 0, []⟩).n [] (Z.shp.getD 6 ⟨0, 0, []⟩).sl :=
  bnd_n F rfl rfl rfl fun _ _ _ _ _ _ us ws h1 h2 => match us, ws, h1, h2 with
  | [_, _, _, _], [], _, _ => rfl
theorem bn11 {K : PySem.W.Frag} {fd : FuncData} (F : FunD K d11.name d11.qual d11.params d11.body d11.scope (d11.dvs K) (d11.kws K) (fAd K d11.at_) fd) : BndOk (Z.T K) K fd g11.ps (Z.shp.getD 0 ⟨0, 0, []⟩).n [] (Z.shp.getD 0 ⟨0, 0, []⟩).sl :=
  bnd_n F rfl rfl rfl fun _ _ _ _ _ _ us ws h1 h2 => match us, ws, h1, h2 with
  | [_, _], [], _, _ => rfl
theorem bn12 {K : PySem.W.Frag} {fd : FuncData} (F : FunD K d6.name d6.qual d6.params d6.body d6.scope (d6.dvs K) (d6.kws K) (fAd K d6.at_) fd) : BndOk (Z.T K) K fd g6.ps (Z.shp.getD 0 ⟨0, 0, []⟩).n [] (Z.shp.getD 0 ⟨0, 0, []⟩).sl :=
  bnd_n F rfl rfl rfl fun _ _ _ _ _ _ us ws h1 h2 => match us, ws, h1, h2 with
  | [_, _], [], _, _ => rfl
theorem bn13 {K : PySem.W.Frag} {fd : FuncData} (F : FunD K d12.name d12.qual d12.params d12.body d12.scope (d12.dvs K) (d12.kws K) (fAd K d12.at_) fd) : BndOk (Z.T K) K fd g12.ps (Z.shp.getD 7 ⟨0, 0, []⟩).n [] (Z.shp.getD 7 ⟨0, 0, []⟩).sl :=
  bnd_n F rfl rfl rfl fun _ _ _ _ _ _ us ws h1 h2 => match us, ws, h1, h2 with
  | [_], [], _, _ => rfl
theorem bn14 {K : PySem.W.Frag} {fd : FuncData} (F : FunD K d3.name d3.qual d3.params d3.body d3.scope (d3.dvs K) (d3.kws K) (fAd K d3.at_) fd) : BndOk (Z.T K) K fd g3.ps (Z.shp.getD 0 ⟨0, 0, []⟩).n [] (Z.shp.getD 0 ⟨0, 0, []⟩).sl :=
  bnd_n F rfl rfl rfl fun _ _ _ _ _ _ us ws h1 h2 => match us, ws, h1, h2 with
  | [_, _], [], _, _ => rfl
theorem bn15 {K : PySem.W.Frag} {fd : FuncData} (F : FunD K d2.name d2.qual d2.params d2.body d2.scope (d2.dvs K) (d2.kws K) (fAd K d2.at_) fd) : BndOk (Z.T K) K fd g2.ps (Z.shp.getD 7 ⟨0, 0, []⟩).n [] (Z.shp.getD 7 ⟨0, 0, []⟩).sl :=
  bnd_n F rfl rfl rfl fun _ _ _ _ _ _ us ws h1 h2 => match us, ws, h1, h2 with
  | [_], [], _, _ => rfl
theorem bn16 {K : PySem.W.Frag} {fd : FuncData} (F : FunD K d0.name d0.qual d0.params d0.body d0.scope (d0.dvs K) (d0.kws K) (fAd K d0.at_) fd) : BndOk (Z.T K) K fd g0.ps (Z.shp.getD 7 ⟨0, 0, []⟩).n [] (Z.shp.getD 7 ⟨0, 0, []⟩).sl :=
  bnd_n F rfl rfl rfl fun _ _ _ _ _ _ us ws h1 h2 => match us, ws, h1, h2 with
  | [_], [], _, _ => rfl
theorem bn17 {K : PySem.W.Frag} {fd : FuncData} (F : FunD K d15.name d15.qual d15.params d15.body d15.scope (d15.dvs K) (d15.kws K) (fAd K d15.at_) fd) : BndOk (Z.T K) K fd g15.ps (Z.shp.getD 0 ⟨0, 0, []⟩).n [] (Z.shp.getD 0 ⟨0, 0, []⟩).sl :=
  bnd_n F rfl rfl rfl fun _ _ _ _ _ _ us ws h1 h2 => match us, ws, h1, h2 with
  | [_, _], [], _, _ => rfl
theorem bn {K : PySem.W.Frag} : BndAll Z K := by
  intro f sh ks d g fd hm hd hg F
  have hm : (f, sh, ks) ∈ ([(1, 0, []), (4, 0, []), (5, 0, []), (8, 0, []), (14, 1, ["times", "look", "methods", "fresh"]), (14, 2, ["methods", "look"]), (14, 3, ["fresh", "times"]), (10, 0, []), (7, 4, []), (14, 5, []), (9, 6, []), (11, 0, []), (6, 0, []), (12, 7, []), (3, 0, []), (2, 7, []), (0, 7, []), (15, 0, [])] : List (Nat × Nat × List Str)) := hm
  rcases List.mem_cons.mp hm with e | hm
  · cases e
    cases (show some d1 = some d from hd)
    cases (show some g1 = some g from hg)
    exact ⟨bn0 F, rfl⟩
  rcases List.mem_cons.mp hm with e | hm
  · cases e
    cases (show some d4 = some d from hd)
    cases (show some g4 = some g from hg)
    exact ⟨bn1 F, rfl⟩
  rcases List.mem_cons.mp hm with e | hm
  · cases e
    cases (show some d5 = some d from hd)
    cases (show some g5 = some g from hg)
    exact ⟨bn2 F, rfl⟩
  rcases List.mem_cons.mp hm with e | hm
  · cases e
    cases (show some d8 = some d from hd)
    cases (show some g8 = some g from hg)
    exact ⟨bn3 F, rfl⟩
  rcases List.mem_cons.mp hm with e | hm
  · cases e
    cases (show some d14 = some d from hd)
    cases (show some g14 = some g from hg)
    exact ⟨bn4 F, rfl⟩
  rcases List.mem_cons.mp hm with e | hm
  · cases e
    cases (show some d14 = some d from hd)
    cases (show some g14 = some g from hg)
    exact ⟨bn5 F, rfl⟩
  rcases List.mem_cons.mp hm with e | hm
  · cases e
    cases (show some d14 = some d from hd)
    cases (show some g14 = some g from hg)
    exact ⟨bn6 F, rfl⟩
  rcases List.mem_cons.mp hm with e | hm
  · cases e
    cases (show some d10 = some d from hd)
    cases (show some g10 = some g from hg)
    exact ⟨bn7 F, rfl⟩
  rcases List.mem_cons.mp hm with e | hm
  · cases e
    cases (show some d7 = some d from hd)
    cases (show some g7 = some g from hg)
    exact ⟨bn8 F, rfl⟩
  rcases List.mem_cons.mp hm with e | hm
  · cases e
    cases (show some d14 = some d from hd)
    cases (show some g14 = some g from hg)
    exact ⟨bn9 F, rfl⟩
  rcases List.mem_cons.mp hm with e | hm
  · cases e
    cases (show some d9 = some d from hd)
    cases (show some g9 = some g from hg)
    exact ⟨bn10 F, rfl⟩
  rcases List.mem_cons.mp hm with e | hm
  · cases e
    cases (show some d11 = some d from hd)
    cases (show some g11 = some g from hg)
    exact ⟨bn11 F, rfl⟩
  rcases List.mem_cons.mp hm with e | hm
  · cases e
    cases (show some d6 = some d from hd)
    cases (show some g6 = some g from hg)
    exact ⟨bn12 F, rfl⟩
  rcases List.mem_cons.mp hm with e | hm
  · cases e
    cases (show some d12 = some d from hd)
    cases (show some g12 = some g from hg)
    exact ⟨bn13 F, rfl⟩
  rcases List.mem_cons.mp hm with e | hm
  · cases e
    cases (show some d3 = some d from hd)
    cases (show some g3 = some g from hg)
    exact ⟨bn14 F, rfl⟩
  rcases List.mem_cons.mp hm with e | hm
  · cases e
    cases (show some d2 = some d from hd)
    cases (show some g2 = some g from hg)
    exact ⟨bn15 F, rfl⟩
  rcases List.mem_cons.mp hm with e | hm
  · cases e
    cases (show some d0 = some d from hd)
    cases (show some g0 = some g from hg)
    exact ⟨bn16 F, rfl⟩
  rcases List.mem_cons.mp hm with e | hm
  · cases e
    cases (show some d15 = some d from hd)
    cases (show some g15 = some g from hg)
    exact ⟨bn17 F, rfl⟩
  cases hm
theorem okcs : ∀ q ∈ Z.cs, Z.okI q.1 = true := by
  intro q hq
  have hm : q ∈ [((1, 0, []) : Nat × Nat × List Str), ((4, 0, []) : Nat × Nat × List Str), ((5, 0, []) : Nat × Nat × List Str), ((8, 0, []) : Nat × Nat × List Str), ((14, 1, ["times", "look", "methods", "fresh"]) : Nat × Nat × List Str), ((14, 2, ["methods", "look"]) : Nat × Nat × List Str), ((14, 3, ["fresh", "times"]) : Nat × Nat × List Str), ((10, 0, []) : Nat × Nat × List Str), ((7, 4, []) : Nat × Nat × List Str), ((14, 5, []) : Nat × Nat × List Str), ((9, 6, []) : Nat × Nat × List Str), ((11, 0, []) : Nat × Nat × List Str), ((6, 0, []) : Nat × Nat × List Str), ((12, 7, []) : Nat × Nat × List Str), ((3, 0, []) : Nat × Nat × List Str), ((2, 7, []) : Nat × Nat × List Str), ((0, 7, []) : Nat × Nat × List Str), ((15, 0, []) : Nat × Nat × List Str)] := hq
  rcases List.mem_cons.mp hm with e | hm
  · rw [e]; exact ok1
  rcases List.mem_cons.mp hm with e | hm
  · rw [e]; exact ok4
  rcases List.mem_cons.mp hm with e | hm
  · rw [e]; exact ok5
  rcases List.mem_cons.mp hm with e | hm
  · rw [e]; exact ok8
  rcases List.mem_cons.mp hm with e | hm
  · rw [e]; exact ok14
  rcases List.mem_cons.mp hm with e | hm
  · rw [e]; exact ok14
  rcases List.mem_cons.mp hm with e | hm
  · rw [e]; exact ok14
  rcases List.mem_cons.mp hm with e | hm
  · rw [e]; exact ok10
  rcases List.mem_cons.mp hm with e | hm
  · rw [e]; exact ok7
  rcases List.mem_cons.mp hm with e | hm
  · rw [e]; exact ok14
  rcases List.mem_cons.mp hm with e | hm
  · rw [e]; exact ok9
  rcases List.mem_cons.mp hm with e | hm
  · rw [e]; exact ok11
  rcases List.mem_cons.mp hm with e | hm
  · rw [e]; exact ok6
  rcases List.mem_cons.mp hm with e | hm
  · rw [e]; exact ok12
  rcases List.mem_cons.mp hm with e | hm
  · rw [e]; exact ok3
  rcases List.mem_cons.mp hm with e | hm
  · rw [e]; exact ok2
  rcases List.mem_cons.mp hm with e | hm
  · rw [e]; exact ok0
  rcases List.mem_cons.mp hm with e | hm
  · rw [e]; exact ok15
  cases hm
theorem xi {w : World} {K : PySem.W.Frag} {mg : Str → Option Value} {base : Heap} (says : SaysX Z file K) (kin : K.In base) (ns : base.Ns mainGlobals mg) : XiAll Z K PG_ w mg := by
  intro i d hm
  have hm0 : (i, d) ∈ [(2, x2)] := hm
  rcases List.mem_cons.mp hm0 with e | hm0
  · cases e
    exact xi_ok says kin ns (by decide +kernel) (beq_self_eq_true _) (by decide +kernel) hm (by decide) (by decide) (by decide +kernel) fun _ _ _ _ _ _ _ us h => match us, h with
      | [_, _], _ => rfl
  cases hm0
def loose : List PySem.Str := ["__name__", "LETTERS", "LONGEST", "RESERVED", "is_integer", "is_spelled", "is_word", "CarriedError", "BadCallers", "LOOKS", "Callers", "_law_bag", "_law_take", "_law_of", "_law_words", "_law_picked", "_law_strict", "_law_made", "_law_are_words", "_law_callers", "_law_right"]
abbrev R : PySem.W.OpenRow := PySem.W.OpenLaw.row PySem.Challenge.rw_carriedfields_k93_callers_made
abbrev hk : PySem.W.Hook := hookX Z file 5
def ob (s : PySem.W.SharedT) : AlX := obsXG Z file 5 (HandSHeadRun.getT s)
theorem ob_eq (s : PySem.W.SharedT) : ob s = hk.obs s.abs := obsXG_eq (HandSHeadRun.getT_eq s)
theorem run_ (w : World) : HandSHeadRun.RunEq R (PySem.W.view R.prog [24]) hk ob 3000 loose w := by
  intro os
  kernel_rfl
theorem facts {w : World} {K : PySem.W.Frag} {h : Heap} {mg : Str → Option Value} {f : Addr} {j : Nat} (hL : ∀ l : List Int, l.length ≤ 63 → ∃ M, run Z.G (j + 1) 13 [.scr l] [] = .ok (.bl true) M) (X : K.In h) (G : h.Ns mainGlobals mg) (hfa : mg ("law" : Str) = some (.ref f)) (c : SaysX Z file K) :
    ∃ fd : FuncData, (∀ (s : Shared) (v : Value), BindsTo s fd ⟨[v], []⟩ [("_law_script", v)]) ∧ ∀ base : Heap, K.In base → base.Ns mainGlobals mg → FnOk PG_ w K mg base L2.CX0 (2 * j + 4) f fd ["_law_script"] (spL K 63) := by
  obtain ⟨fd, F⟩ := c.def_ 13 (d := d13) rfl
  have e := hfa.symm.trans (c.gfn X G (i := 13) (d := d13) rfl rfl)
  cases e
  have b := FunD.bindsA (ps := ["_law_script"]) F fun _ _ _ _ _ _ us hl => match us, hl with | [_], _ => rfl
  exact ⟨fd, fun s v => b s [v] rfl, fun base kin ns => law_fn (g := g13) stz c kin ns (xi c kin ns) bn okcs rfl rfl ok13 rfl (by decide) hL F⟩
end Law
namespace Law
open PySem Dv
theorem S0 : Std Z.G := ⟨fun _ => rfl⟩
theorem hs0 : Sh2 Z.G 0 := fun _ => rfl
theorem tk : TakeOk Z.G 4 := take1 rfl
theorem of_ : OfOk Z.G 5 := of_ok S0 hs0 tk rfl
theorem pick : PickOk Z.G 7 := pick_ok S0 hs0 tk rfl
theorem words : WordsOk Z.G 6 := words_ok S0 hs0 tk of_ rfl
theorem bag : BagOk Z.G 3 := bag1 rfl
abbrev Cj (j : Nat) : Cfg := Z.C (run Z.G j)
theorem G_C (j : Nat) : Z.G.cfg (run Z.G j) = Cj j := rfl
theorem C_call (j : Nat) : (Cj j).call = run Z.G j := rfl
theorem C_s0 (j : Nat) : (Cj j).shp 0 = ⟨2, 0, [.a 0, .a 1]⟩ := rfl
theorem C_s1 (j : Nat) : (Cj j).shp 1 = ⟨1, 4, [.a 0, .a 1, .a 2, .a 3, .a 4]⟩ := rfl
theorem C_s2 (j : Nat) : (Cj j).shp 2 = ⟨1, 2, [.a 0, .d .non, .a 2, .a 1, .d (.bl false)]⟩ := rfl
theorem C_s3 (j : Nat) : (Cj j).shp 3 = ⟨1, 2, [.a 0, .a 2, .d (.str "equal"), .d .non, .a 1]⟩ := rfl
theorem C_s4 (j : Nat) : (Cj j).shp 4 = ⟨3, 0, [.a 0, .a 1, .a 2]⟩ := rfl
theorem C_s5 (j : Nat) : (Cj j).shp 5 = ⟨1, 0, [.a 0, .d .non, .d (.str "equal"), .d .non, .d (.bl false)]⟩ := rfl
theorem C_s6 (j : Nat) : (Cj j).shp 6 = ⟨4, 0, [.a 0, .a 1, .a 2, .a 3]⟩ := rfl
theorem C_s7 (j : Nat) : (Cj j).shp 7 = ⟨1, 0, [.a 0]⟩ := rfl
def res : List Str := ["alone", "carry", "class", "cls", "def", "else", "enter", "if", "is", "keep", "leave", "made", "marks", "none", "not", "refuse", "return", "save", "self", "super", "thing"]
theorem C_g0 (j : Nat) : (Cj j).glob 0 = some (.int 8) := rfl
theorem C_g1 (j : Nat) : (Cj j).glob 1 = some (.tup (res.map .str)) := rfl
theorem C_g2 (j : Nat) : (Cj j).glob 2 = some (.str abc) := rfl
theorem C_g3 (j : Nat) : (Cj j).glob 3 = some (.tup [.str "equal", .str "same"]) := rfl
/-! ### is_integer -/
def intB : D → Bool
  | .int _ => true
  | _ => false
def Pln (d : D) : Prop := d = .non ∨ (∃ i, d = .int i) ∨ (∃ b, d = .bl b) ∨ (∃ s, d = .str s) ∨ (∃ l, d = .tup l) ∨ ∃ l, d = .lst l
theorem isint (k : Nat) (M : Store) (d : D) (h : Pln d) : run Z.G (k + 1) 0 [d] M = .ok (.bl (intB d)) M := by
  rw [run_eq (G := Z.G) (f := 0) (F := ⟨1, 1, b0⟩) rfl ⟨rfl, (by decide : 1 ≤ 1)⟩]
  show fin M (sxs (Cj k) b0 [some d] M) = _
  unfold b0
  rcases h with rfl | ⟨i, rfl⟩ | ⟨b, rfl⟩ | ⟨s, rfl⟩ | ⟨l, rfl⟩ | ⟨l, rfl⟩ <;> simp -implicitDefEqProofs only [bind_ok, bind_ex, fl_ok, fl_ex, seq_nx, seq_rt, seq_ex, q_k, q_v, q_g, q_tup, q_lst, q_bin, q_neg, q_evT, q_not, q_and1, q_and, q_or1, q_or, q_cmp, q_cmp2, q_ite, q_ix, q_sl, q_o0, q_o1, q_call, q_mk, q_bi, q_bm, q_attr, q_isi, q_e0, q_e1, q_e2, k_v, k_of, k_tup, k_tupX, k_lst, k_lstX, k_b1, k_b1X, k_b2, k_b2X, k_neg, k_t, k_tX, k_not, k_notX, k_and, k_andX, k_andT, k_andF, k_or, k_orX, k_orT, k_orF, k_c1, k_c1X, k_c2, k_c2X, k_d1, k_d2, k_d3T, k_d3F, k_d4, k_iT, k_iF, k_iX, k_x1, k_x1X, k_x2, k_x2X, k_s1, k_s2, k_s3, k_o, k_a1, k_a1X, k_a2, k_a2X, k_m1, k_m1X, k_m2, k_m2X, k_bi, k_biX, k_bm1, k_bm1X, k_bm2, k_bm3, k_bm3X, k_at, k_atX, k_is, k_isX, k_e1, k_e1X, k_e2, k_e2X, k_f1, k_f2, q_ss0, q_ss1, k_sq, k_sqR, k_sqX, k_sqB, k_sqC, q_set, k_set, k_setX, k_set2, q_par, k_p1, k_p1X, k_p2, k_p2X, q_sub, k_u1, k_u1X, k_u2, k_u3, k_u4, q_fld, k_w1, k_w1X, k_w2, q_ex, k_ex, k_exX, q_ret, k_rF, k_rT, k_rX, k_rf, q_retN, q_if, k_ifT, k_ifF, k_ifX, q_raise, k_rs, q_aug, k_agA, k_agS, q_pass, q_brk, q_cont, fin_rt, fin_nx, fin_ex, cmpR.eq_def, clsD.eq_def, ixD.eq_def, seqOf.eq_def, bin.eq_def, binI_add, binI_sub, binI_mod, binI_fdiv, binI_mulL, binI_mulR, Bool.and_self, sm_a, sm_b, sm_c, sm_d, sm_e, sm_f, sm_g, sm_h, sm_i, sm_j, sm_k, lg64, lg4096, lg65536, cmp.eq_def, truth.eq_def, biD.eq_def, lenD.eq_def, absD.eq_def, intD.eq_def, minD.eq_def, maxD.eq_def, newL.eq_def, bindT.eq_1, bindT.eq_2, bindT.eq_3, setD.eq_def, isNone.eq_def, List.getElem?_cons_zero, List.getElem?_cons_succ, List.set_cons_zero, List.set_cons_succ, List.length_cons, List.length_nil, at0, at1, at2, at3, if_true, if_false, decide_true, decide_false, and_self, and_true, true_and, Bool.false_eq_true, Nat.reduceAdd, Nat.reduceLT, Nat.reduceLeDiff, Nat.reduceSub, Nat.reduceEqDiff, Int.reduceLT, Int.reduceLE, Int.reduceNeg, Int.reduceToNat, reduceIte, reduceCtorEq, ix3_0, ix3_1, ix3_2, big, Nat.zero_le, ne_eq, not_false_eq_true, not_true_eq_false, isiD.eq_1, isiD.eq_2, isiOne.eq_def, tyBlt.eq_def, Option.map_some, Bool.not_true, Bool.not_false, C_s0] <;> exact gc_ok0 gcOk_rfl rfl rfl
/-! ### is_spelled, is_word -/
def lower (cs : List Nat) : Prop := ∀ c ∈ cs, 97 ≤ c ∧ c ≤ 122
theorem occ_yes {c : Nat} (h : 97 ≤ c ∧ c ≤ 122) : (!(Builtin.Str.occurrences abc ⟨#[c]⟩ 0 abc.length 1).isEmpty) = true := by
  have : ∀ c ∈ (List.range 26).map (97 + ·), (!(Builtin.Str.occurrences abc ⟨#[c]⟩ 0 abc.length 1).isEmpty) = true := by decide +kernel
  refine this c (List.mem_map.mpr ⟨c - 97, List.mem_range.mpr (by omega), ?_⟩)
  show 97 + (c - 97) = c
  omega
theorem bools_map' : ∀ l : List Bool, bools (l.map D.bl) = some l
  | [] => rfl
  | b :: l => by simp [bools, bools_map' l]
/-- a text of letters -/
theorem spelled (k : Nat) (M : Store) (cs : List Nat) (h1 : 1 ≤ cs.length) (h8 : cs.length ≤ 8) (hl : lower cs) : run Z.G (k + 1) 1 [.str (sOf cs), .str abc] M = .ok (.bl true) M := by
  rw [run_eq (G := Z.G) (f := 1) (F := ⟨2, 3, b1⟩) rfl ⟨rfl, (by decide : 2 ≤ 3)⟩]
  show fin M (sxs (Cj k) b1 [some (.str (sOf cs)), some (.str abc), none] M) = _
  unfold b1
  have hb : cs.length ≤ 16777216 := by omega
  have hL := lcL_map (C := Cj k) (tg := .n 2) (f := lcF (Cj k) .nil (.cmp .isIn (.v 2) (.v 1))) (ρ := [some (.str (sOf cs)), some (.str abc), none]) (M := M) (fun _ => .bl true) (xs := cs.map fun c => .str ⟨#[c]⟩) (acc := []) fun x hx => by
    obtain ⟨c, hc, rfl⟩ := List.mem_map.mp hx
    refine ⟨_, rfl, ?_⟩
    rw [lcF_nil]
    show (ev _ _ [some (.str (sOf cs)), some (.str abc), some (.str ⟨#[c]⟩)] M).bind _ = _
    simp -implicitDefEqProofs only [bind_ok, bind_ex, fl_ok, fl_ex, seq_nx, seq_rt, seq_ex, q_k, q_v, q_g, q_tup, q_lst, q_bin, q_neg, q_evT, q_not, q_and1, q_and, q_or1, q_or, q_cmp, q_cmp2, q_ite, q_ix, q_sl, q_o0, q_o1, q_call, q_mk, q_bi, q_bm, q_attr, q_isi, q_e0, q_e1, q_e2, k_v, k_of, k_tup, k_tupX, k_lst, k_lstX, k_b1, k_b1X, k_b2, k_b2X, k_neg, k_t, k_tX, k_not, k_notX, k_and, k_andX, k_andT, k_andF, k_or, k_orX, k_orT, k_orF, k_c1, k_c1X, k_c2, k_c2X, k_d1, k_d2, k_d3T, k_d3F, k_d4, k_iT, k_iF, k_iX, k_x1, k_x1X, k_x2, k_x2X, k_s1, k_s2, k_s3, k_o, k_a1, k_a1X, k_a2, k_a2X, k_m1, k_m1X, k_m2, k_m2X, k_bi, k_biX, k_bm1, k_bm1X, k_bm2, k_bm3, k_bm3X, k_at, k_atX, k_is, k_isX, k_e1, k_e1X, k_e2, k_e2X, k_f1, k_f2, q_ss0, q_ss1, k_sq, k_sqR, k_sqX, k_sqB, k_sqC, q_set, k_set, k_setX, k_set2, q_par, k_p1, k_p1X, k_p2, k_p2X, q_sub, k_u1, k_u1X, k_u2, k_u3, k_u4, q_fld, k_w1, k_w1X, k_w2, q_ex, k_ex, k_exX, q_ret, k_rF, k_rT, k_rX, k_rf, q_retN, q_if, k_ifT, k_ifF, k_ifX, q_raise, k_rs, q_aug, k_agA, k_agS, q_pass, q_brk, q_cont, fin_rt, fin_nx, fin_ex, cmpR.eq_def, clsD.eq_def, ixD.eq_def, seqOf.eq_def, bin.eq_def, binI_add, binI_sub, binI_mod, binI_fdiv, binI_mulL, binI_mulR, Bool.and_self, sm_a, sm_b, sm_c, sm_d, sm_e, sm_f, sm_g, sm_h, sm_i, sm_j, sm_k, lg64, lg4096, lg65536, cmp.eq_def, truth.eq_def, biD.eq_def, lenD.eq_def, absD.eq_def, intD.eq_def, minD.eq_def, maxD.eq_def, newL.eq_def, bindT.eq_1, bindT.eq_2, bindT.eq_3, setD.eq_def, isNone.eq_def, List.getElem?_cons_zero, List.getElem?_cons_succ, List.set_cons_zero, List.set_cons_succ, List.length_cons, List.length_nil, at0, at1, at2, at3, if_true, if_false, decide_true, decide_false, and_self, and_true, true_and, Bool.false_eq_true, Nat.reduceAdd, Nat.reduceLT, Nat.reduceLeDiff, Nat.reduceSub, Nat.reduceEqDiff, Int.reduceLT, Int.reduceLE, Int.reduceNeg, Int.reduceToNat, reduceIte, reduceCtorEq, ix3_0, ix3_1, ix3_2, big, Nat.zero_le, ne_eq, not_false_eq_true, not_true_eq_false, isiD.eq_1, isiD.eq_2, isiOne.eq_def, tyBlt.eq_def, Option.map_some, Bool.not_true, Bool.not_false, inD.eq_def, occ_yes (hl c hc)]
  have e1 : ev (Cj k) (.lc false .seq (.cons (.v 0) .nil) (.n 2) .nil (.cmp .isIn (.v 2) (.v 1))) [some (.str (sOf cs)), some (.str abc), none] M = _ := lc_eq (ds := [.str (sOf cs)]) (M1 := M) (by simp -implicitDefEqProofs only [bind_ok, bind_ex, fl_ok, fl_ex, seq_nx, seq_rt, seq_ex, q_k, q_v, q_g, q_tup, q_lst, q_bin, q_neg, q_evT, q_not, q_and1, q_and, q_or1, q_or, q_cmp, q_cmp2, q_ite, q_ix, q_sl, q_o0, q_o1, q_call, q_mk, q_bi, q_bm, q_attr, q_isi, q_e0, q_e1, q_e2, k_v, k_of, k_tup, k_tupX, k_lst, k_lstX, k_b1, k_b1X, k_b2, k_b2X, k_neg, k_t, k_tX, k_not, k_notX, k_and, k_andX, k_andT, k_andF, k_or, k_orX, k_orT, k_orF, k_c1, k_c1X, k_c2, k_c2X, k_d1, k_d2, k_d3T, k_d3F, k_d4, k_iT, k_iF, k_iX, k_x1, k_x1X, k_x2, k_x2X, k_s1, k_s2, k_s3, k_o, k_a1, k_a1X, k_a2, k_a2X, k_m1, k_m1X, k_m2, k_m2X, k_bi, k_biX, k_bm1, k_bm1X, k_bm2, k_bm3, k_bm3X, k_at, k_atX, k_is, k_isX, k_e1, k_e1X, k_e2, k_e2X, k_f1, k_f2, q_ss0, q_ss1, k_sq, k_sqR, k_sqX, k_sqB, k_sqC, q_set, k_set, k_setX, k_set2, q_par, k_p1, k_p1X, k_p2, k_p2X, q_sub, k_u1, k_u1X, k_u2, k_u3, k_u4, q_fld, k_w1, k_w1X, k_w2, q_ex, k_ex, k_exX, q_ret, k_rF, k_rT, k_rX, k_rf, q_retN, q_if, k_ifT, k_ifF, k_ifX, q_raise, k_rs, q_aug, k_agA, k_agS, q_pass, q_brk, q_cont, fin_rt, fin_nx, fin_ex, cmpR.eq_def, clsD.eq_def, ixD.eq_def, seqOf.eq_def, bin.eq_def, binI_add, binI_sub, binI_mod, binI_fdiv, binI_mulL, binI_mulR, Bool.and_self, sm_a, sm_b, sm_c, sm_d, sm_e, sm_f, sm_g, sm_h, sm_i, sm_j, sm_k, lg64, lg4096, lg65536, cmp.eq_def, truth.eq_def, biD.eq_def, lenD.eq_def, absD.eq_def, intD.eq_def, minD.eq_def, maxD.eq_def, newL.eq_def, bindT.eq_1, bindT.eq_2, bindT.eq_3, setD.eq_def, isNone.eq_def, List.getElem?_cons_zero, List.getElem?_cons_succ, List.set_cons_zero, List.set_cons_succ, List.length_cons, List.length_nil, at0, at1, at2, at3, if_true, if_false, decide_true, decide_false, and_self, and_true, true_and, Bool.false_eq_true, Nat.reduceAdd, Nat.reduceLT, Nat.reduceLeDiff, Nat.reduceSub, Nat.reduceEqDiff, Int.reduceLT, Int.reduceLE, Int.reduceNeg, Int.reduceToNat, reduceIte, reduceCtorEq, ix3_0, ix3_1, ix3_2, big, Nat.zero_le, ne_eq, not_false_eq_true, not_true_eq_false, isiD.eq_1, isiD.eq_2, isiOne.eq_def, tyBlt.eq_def, Option.map_some, Bool.not_true, Bool.not_false]) (by rw [items_str (by rw [sOf_len]; unfold big; omega), sOf_list]) hL
  have e2 : (List.map (fun _ => D.bl true) (cs.map fun c => D.str ⟨#[c]⟩)) = (cs.map fun _ => true).map D.bl := by simp
  have e3 : (cs.map fun _ => true).all id = true := by simp
  have h1' : (1 : Int) ≤ (cs.length : Nat) := by omega
  have h8' : ((cs.length : Nat) : Int) ≤ 8 := by omega
  simp -implicitDefEqProofs only [bind_ok, bind_ex, fl_ok, fl_ex, seq_nx, seq_rt, seq_ex, q_k, q_v, q_g, q_tup, q_lst, q_bin, q_neg, q_evT, q_not, q_and1, q_and, q_or1, q_or, q_cmp, q_cmp2, q_ite, q_ix, q_sl, q_o0, q_o1, q_call, q_mk, q_bi, q_bm, q_attr, q_isi, q_e0, q_e1, q_e2, k_v, k_of, k_tup, k_tupX, k_lst, k_lstX, k_b1, k_b1X, k_b2, k_b2X, k_neg, k_t, k_tX, k_not, k_notX, k_and, k_andX, k_andT, k_andF, k_or, k_orX, k_orT, k_orF, k_c1, k_c1X, k_c2, k_c2X, k_d1, k_d2, k_d3T, k_d3F, k_d4, k_iT, k_iF, k_iX, k_x1, k_x1X, k_x2, k_x2X, k_s1, k_s2, k_s3, k_o, k_a1, k_a1X, k_a2, k_a2X, k_m1, k_m1X, k_m2, k_m2X, k_bi, k_biX, k_bm1, k_bm1X, k_bm2, k_bm3, k_bm3X, k_at, k_atX, k_is, k_isX, k_e1, k_e1X, k_e2, k_e2X, k_f1, k_f2, q_ss0, q_ss1, k_sq, k_sqR, k_sqX, k_sqB, k_sqC, q_set, k_set, k_setX, k_set2, q_par, k_p1, k_p1X, k_p2, k_p2X, q_sub, k_u1, k_u1X, k_u2, k_u3, k_u4, q_fld, k_w1, k_w1X, k_w2, q_ex, k_ex, k_exX, q_ret, k_rF, k_rT, k_rX, k_rf, q_retN, q_if, k_ifT, k_ifF, k_ifX, q_raise, k_rs, q_aug, k_agA, k_agS, q_pass, q_brk, q_cont, fin_rt, fin_nx, fin_ex, cmpR.eq_def, clsD.eq_def, ixD.eq_def, seqOf.eq_def, bin.eq_def, binI_add, binI_sub, binI_mod, binI_fdiv, binI_mulL, binI_mulR, Bool.and_self, sm_a, sm_b, sm_c, sm_d, sm_e, sm_f, sm_g, sm_h, sm_i, sm_j, sm_k, lg64, lg4096, lg65536, cmp.eq_def, truth.eq_def, biD.eq_def, lenD.eq_def, absD.eq_def, intD.eq_def, minD.eq_def, maxD.eq_def, newL.eq_def, bindT.eq_1, bindT.eq_2, bindT.eq_3, setD.eq_def, isNone.eq_def, List.getElem?_cons_zero, List.getElem?_cons_succ, List.set_cons_zero, List.set_cons_succ, List.length_cons, List.length_nil, at0, at1, at2, at3, if_true, if_false, decide_true, decide_false, and_self, and_true, true_and, Bool.false_eq_true, Nat.reduceAdd, Nat.reduceLT, Nat.reduceLeDiff, Nat.reduceSub, Nat.reduceEqDiff, Int.reduceLT, Int.reduceLE, Int.reduceNeg, Int.reduceToNat, reduceIte, reduceCtorEq, ix3_0, ix3_1, ix3_2, big, Nat.zero_le, ne_eq, not_false_eq_true, not_true_eq_false, isiD.eq_1, isiD.eq_2, isiOne.eq_def, tyBlt.eq_def, Option.map_some, Bool.not_true, Bool.not_false, sOf_len, hb, C_g0, h1', h8', ↓e1, List.nil_append, e2, allD.eq_def, bools_map', e3]
  exact gc_ok0 gcOk_rfl rfl rfl
theorem spelled_no (k : Nat) (M : Store) (d : D) (h : Pln d) (hn : ∀ s, d ≠ .str s) : run Z.G (k + 1) 1 [d, .str abc] M = .ok (.bl false) M := by
  rw [run_eq (G := Z.G) (f := 1) (F := ⟨2, 3, b1⟩) rfl ⟨rfl, (by decide : 2 ≤ 3)⟩]
  show fin M (sxs (Cj k) b1 [some d, some (.str abc), none] M) = _
  unfold b1
  rcases h with rfl | ⟨i, rfl⟩ | ⟨b, rfl⟩ | ⟨s, rfl⟩ | ⟨l, rfl⟩ | ⟨l, rfl⟩ <;> first | exact absurd rfl (hn s) | (simp -implicitDefEqProofs only [bind_ok, bind_ex, fl_ok, fl_ex, seq_nx, seq_rt, seq_ex, q_k, q_v, q_g, q_tup, q_lst, q_bin, q_neg, q_evT, q_not, q_and1, q_and, q_or1, q_or, q_cmp, q_cmp2, q_ite, q_ix, q_sl, q_o0, q_o1, q_call, q_mk, q_bi, q_bm, q_attr, q_isi, q_e0, q_e1, q_e2, k_v, k_of, k_tup, k_tupX, k_lst, k_lstX, k_b1, k_b1X, k_b2, k_b2X, k_neg, k_t, k_tX, k_not, k_notX, k_and, k_andX, k_andT, k_andF, k_or, k_orX, k_orT, k_orF, k_c1, k_c1X, k_c2, k_c2X, k_d1, k_d2, k_d3T, k_d3F, k_d4, k_iT, k_iF, k_iX, k_x1, k_x1X, k_x2, k_x2X, k_s1, k_s2, k_s3, k_o, k_a1, k_a1X, k_a2, k_a2X, k_m1, k_m1X, k_m2, k_m2X, k_bi, k_biX, k_bm1, k_bm1X, k_bm2, k_bm3, k_bm3X, k_at, k_atX, k_is, k_isX, k_e1, k_e1X, k_e2, k_e2X, k_f1, k_f2, q_ss0, q_ss1, k_sq, k_sqR, k_sqX, k_sqB, k_sqC, q_set, k_set, k_setX, k_set2, q_par, k_p1, k_p1X, k_p2, k_p2X, q_sub, k_u1, k_u1X, k_u2, k_u3, k_u4, q_fld, k_w1, k_w1X, k_w2, q_ex, k_ex, k_exX, q_ret, k_rF, k_rT, k_rX, k_rf, q_retN, q_if, k_ifT, k_ifF, k_ifX, q_raise, k_rs, q_aug, k_agA, k_agS, q_pass, q_brk, q_cont, fin_rt, fin_nx, fin_ex, cmpR.eq_def, clsD.eq_def, ixD.eq_def, seqOf.eq_def, bin.eq_def, binI_add, binI_sub, binI_mod, binI_fdiv, binI_mulL, binI_mulR, Bool.and_self, sm_a, sm_b, sm_c, sm_d, sm_e, sm_f, sm_g, sm_h, sm_i, sm_j, sm_k, lg64, lg4096, lg65536, cmp.eq_def, truth.eq_def, biD.eq_def, lenD.eq_def, absD.eq_def, intD.eq_def, minD.eq_def, maxD.eq_def, newL.eq_def, bindT.eq_1, bindT.eq_2, bindT.eq_3, setD.eq_def, isNone.eq_def, List.getElem?_cons_zero, List.getElem?_cons_succ, List.set_cons_zero, List.set_cons_succ, List.length_cons, List.length_nil, at0, at1, at2, at3, if_true, if_false, decide_true, decide_false, and_self, and_true, true_and, Bool.false_eq_true, Nat.reduceAdd, Nat.reduceLT, Nat.reduceLeDiff, Nat.reduceSub, Nat.reduceEqDiff, Int.reduceLT, Int.reduceLE, Int.reduceNeg, Int.reduceToNat, reduceIte, reduceCtorEq, ix3_0, ix3_1, ix3_2, big, Nat.zero_le, ne_eq, not_false_eq_true, not_true_eq_false, isiD.eq_1, isiD.eq_2, isiOne.eq_def, tyBlt.eq_def, Option.map_some, Bool.not_true, Bool.not_false, C_s0] <;> exact gc_ok0 gcOk_rfl rfl rfl)
theorem spelled_A (k : Nat) (M : Store) : run Z.G (k + 1) 1 [.str "A", .str abc] M = .ok (.bl false) M := by
  rw [run_eq (G := Z.G) (f := 1) (F := ⟨2, 3, b1⟩) rfl ⟨rfl, (by decide : 2 ≤ 3)⟩]
  show fin M (sxs (Cj k) b1 [some (.str "A"), some (.str abc), none] M) = _
  unfold b1
  have o : (!(Builtin.Str.occurrences abc ⟨#[65]⟩ 0 abc.length 1).isEmpty) = false := by decide +kernel
  have hL := lcL_map (C := Cj k) (tg := .n 2) (f := lcF (Cj k) .nil (.cmp .isIn (.v 2) (.v 1))) (ρ := [some (.str "A"), some (.str abc), none]) (M := M) (fun _ => .bl false) (xs := [.str ⟨#[65]⟩]) (acc := []) fun x hx => by
    rw [List.mem_singleton.mp hx]
    refine ⟨_, rfl, ?_⟩
    rw [lcF_nil]
    show (ev _ _ [some (.str "A"), some (.str abc), some (.str ⟨#[65]⟩)] M).bind _ = _
    simp -implicitDefEqProofs only [bind_ok, bind_ex, fl_ok, fl_ex, seq_nx, seq_rt, seq_ex, q_k, q_v, q_g, q_tup, q_lst, q_bin, q_neg, q_evT, q_not, q_and1, q_and, q_or1, q_or, q_cmp, q_cmp2, q_ite, q_ix, q_sl, q_o0, q_o1, q_call, q_mk, q_bi, q_bm, q_attr, q_isi, q_e0, q_e1, q_e2, k_v, k_of, k_tup, k_tupX, k_lst, k_lstX, k_b1, k_b1X, k_b2, k_b2X, k_neg, k_t, k_tX, k_not, k_notX, k_and, k_andX, k_andT, k_andF, k_or, k_orX, k_orT, k_orF, k_c1, k_c1X, k_c2, k_c2X, k_d1, k_d2, k_d3T, k_d3F, k_d4, k_iT, k_iF, k_iX, k_x1, k_x1X, k_x2, k_x2X, k_s1, k_s2, k_s3, k_o, k_a1, k_a1X, k_a2, k_a2X, k_m1, k_m1X, k_m2, k_m2X, k_bi, k_biX, k_bm1, k_bm1X, k_bm2, k_bm3, k_bm3X, k_at, k_atX, k_is, k_isX, k_e1, k_e1X, k_e2, k_e2X, k_f1, k_f2, q_ss0, q_ss1, k_sq, k_sqR, k_sqX, k_sqB, k_sqC, q_set, k_set, k_setX, k_set2, q_par, k_p1, k_p1X, k_p2, k_p2X, q_sub, k_u1, k_u1X, k_u2, k_u3, k_u4, q_fld, k_w1, k_w1X, k_w2, q_ex, k_ex, k_exX, q_ret, k_rF, k_rT, k_rX, k_rf, q_retN, q_if, k_ifT, k_ifF, k_ifX, q_raise, k_rs, q_aug, k_agA, k_agS, q_pass, q_brk, q_cont, fin_rt, fin_nx, fin_ex, cmpR.eq_def, clsD.eq_def, ixD.eq_def, seqOf.eq_def, bin.eq_def, binI_add, binI_sub, binI_mod, binI_fdiv, binI_mulL, binI_mulR, Bool.and_self, sm_a, sm_b, sm_c, sm_d, sm_e, sm_f, sm_g, sm_h, sm_i, sm_j, sm_k, lg64, lg4096, lg65536, cmp.eq_def, truth.eq_def, biD.eq_def, lenD.eq_def, absD.eq_def, intD.eq_def, minD.eq_def, maxD.eq_def, newL.eq_def, bindT.eq_1, bindT.eq_2, bindT.eq_3, setD.eq_def, isNone.eq_def, List.getElem?_cons_zero, List.getElem?_cons_succ, List.set_cons_zero, List.set_cons_succ, List.length_cons, List.length_nil, at0, at1, at2, at3, if_true, if_false, decide_true, decide_false, and_self, and_true, true_and, Bool.false_eq_true, Nat.reduceAdd, Nat.reduceLT, Nat.reduceLeDiff, Nat.reduceSub, Nat.reduceEqDiff, Int.reduceLT, Int.reduceLE, Int.reduceNeg, Int.reduceToNat, reduceIte, reduceCtorEq, ix3_0, ix3_1, ix3_2, big, Nat.zero_le, ne_eq, not_false_eq_true, not_true_eq_false, isiD.eq_1, isiD.eq_2, isiOne.eq_def, tyBlt.eq_def, Option.map_some, Bool.not_true, Bool.not_false, inD.eq_def, o]
  have eA : (Str.ofString "A").cps.toList = [65] := by decide +kernel
  have lA : (Str.ofString "A").length = 1 := by decide +kernel
  have e1 : ev (Cj k) (.lc false .seq (.cons (.v 0) .nil) (.n 2) .nil (.cmp .isIn (.v 2) (.v 1))) [some (.str "A"), some (.str abc), none] M = _ := lc_eq (ds := [.str "A"]) (M1 := M) (by simp -implicitDefEqProofs only [bind_ok, bind_ex, fl_ok, fl_ex, seq_nx, seq_rt, seq_ex, q_k, q_v, q_g, q_tup, q_lst, q_bin, q_neg, q_evT, q_not, q_and1, q_and, q_or1, q_or, q_cmp, q_cmp2, q_ite, q_ix, q_sl, q_o0, q_o1, q_call, q_mk, q_bi, q_bm, q_attr, q_isi, q_e0, q_e1, q_e2, k_v, k_of, k_tup, k_tupX, k_lst, k_lstX, k_b1, k_b1X, k_b2, k_b2X, k_neg, k_t, k_tX, k_not, k_notX, k_and, k_andX, k_andT, k_andF, k_or, k_orX, k_orT, k_orF, k_c1, k_c1X, k_c2, k_c2X, k_d1, k_d2, k_d3T, k_d3F, k_d4, k_iT, k_iF, k_iX, k_x1, k_x1X, k_x2, k_x2X, k_s1, k_s2, k_s3, k_o, k_a1, k_a1X, k_a2, k_a2X, k_m1, k_m1X, k_m2, k_m2X, k_bi, k_biX, k_bm1, k_bm1X, k_bm2, k_bm3, k_bm3X, k_at, k_atX, k_is, k_isX, k_e1, k_e1X, k_e2, k_e2X, k_f1, k_f2, q_ss0, q_ss1, k_sq, k_sqR, k_sqX, k_sqB, k_sqC, q_set, k_set, k_setX, k_set2, q_par, k_p1, k_p1X, k_p2, k_p2X, q_sub, k_u1, k_u1X, k_u2, k_u3, k_u4, q_fld, k_w1, k_w1X, k_w2, q_ex, k_ex, k_exX, q_ret, k_rF, k_rT, k_rX, k_rf, q_retN, q_if, k_ifT, k_ifF, k_ifX, q_raise, k_rs, q_aug, k_agA, k_agS, q_pass, q_brk, q_cont, fin_rt, fin_nx, fin_ex, cmpR.eq_def, clsD.eq_def, ixD.eq_def, seqOf.eq_def, bin.eq_def, binI_add, binI_sub, binI_mod, binI_fdiv, binI_mulL, binI_mulR, Bool.and_self, sm_a, sm_b, sm_c, sm_d, sm_e, sm_f, sm_g, sm_h, sm_i, sm_j, sm_k, lg64, lg4096, lg65536, cmp.eq_def, truth.eq_def, biD.eq_def, lenD.eq_def, absD.eq_def, intD.eq_def, minD.eq_def, maxD.eq_def, newL.eq_def, bindT.eq_1, bindT.eq_2, bindT.eq_3, setD.eq_def, isNone.eq_def, List.getElem?_cons_zero, List.getElem?_cons_succ, List.set_cons_zero, List.set_cons_succ, List.length_cons, List.length_nil, at0, at1, at2, at3, if_true, if_false, decide_true, decide_false, and_self, and_true, true_and, Bool.false_eq_true, Nat.reduceAdd, Nat.reduceLT, Nat.reduceLeDiff, Nat.reduceSub, Nat.reduceEqDiff, Int.reduceLT, Int.reduceLE, Int.reduceNeg, Int.reduceToNat, reduceIte, reduceCtorEq, ix3_0, ix3_1, ix3_2, big, Nat.zero_le, ne_eq, not_false_eq_true, not_true_eq_false, isiD.eq_1, isiD.eq_2, isiOne.eq_def, tyBlt.eq_def, Option.map_some, Bool.not_true, Bool.not_false]) (by rw [items_str (by rw [lA]; decide), eA]; rfl) hL
  have lA' : (((Str.ofString "A").length : Nat) : Int) = 1 := by decide +kernel
  have lB : (Str.ofString "A").length ≤ 16777216 := by decide +kernel
  simp -implicitDefEqProofs only [bind_ok, bind_ex, fl_ok, fl_ex, seq_nx, seq_rt, seq_ex, q_k, q_v, q_g, q_tup, q_lst, q_bin, q_neg, q_evT, q_not, q_and1, q_and, q_or1, q_or, q_cmp, q_cmp2, q_ite, q_ix, q_sl, q_o0, q_o1, q_call, q_mk, q_bi, q_bm, q_attr, q_isi, q_e0, q_e1, q_e2, k_v, k_of, k_tup, k_tupX, k_lst, k_lstX, k_b1, k_b1X, k_b2, k_b2X, k_neg, k_t, k_tX, k_not, k_notX, k_and, k_andX, k_andT, k_andF, k_or, k_orX, k_orT, k_orF, k_c1, k_c1X, k_c2, k_c2X, k_d1, k_d2, k_d3T, k_d3F, k_d4, k_iT, k_iF, k_iX, k_x1, k_x1X, k_x2, k_x2X, k_s1, k_s2, k_s3, k_o, k_a1, k_a1X, k_a2, k_a2X, k_m1, k_m1X, k_m2, k_m2X, k_bi, k_biX, k_bm1, k_bm1X, k_bm2, k_bm3, k_bm3X, k_at, k_atX, k_is, k_isX, k_e1, k_e1X, k_e2, k_e2X, k_f1, k_f2, q_ss0, q_ss1, k_sq, k_sqR, k_sqX, k_sqB, k_sqC, q_set, k_set, k_setX, k_set2, q_par, k_p1, k_p1X, k_p2, k_p2X, q_sub, k_u1, k_u1X, k_u2, k_u3, k_u4, q_fld, k_w1, k_w1X, k_w2, q_ex, k_ex, k_exX, q_ret, k_rF, k_rT, k_rX, k_rf, q_retN, q_if, k_ifT, k_ifF, k_ifX, q_raise, k_rs, q_aug, k_agA, k_agS, q_pass, q_brk, q_cont, fin_rt, fin_nx, fin_ex, cmpR.eq_def, clsD.eq_def, ixD.eq_def, seqOf.eq_def, bin.eq_def, binI_add, binI_sub, binI_mod, binI_fdiv, binI_mulL, binI_mulR, Bool.and_self, sm_a, sm_b, sm_c, sm_d, sm_e, sm_f, sm_g, sm_h, sm_i, sm_j, sm_k, lg64, lg4096, lg65536, cmp.eq_def, truth.eq_def, biD.eq_def, lenD.eq_def, absD.eq_def, intD.eq_def, minD.eq_def, maxD.eq_def, newL.eq_def, bindT.eq_1, bindT.eq_2, bindT.eq_3, setD.eq_def, isNone.eq_def, List.getElem?_cons_zero, List.getElem?_cons_succ, List.set_cons_zero, List.set_cons_succ, List.length_cons, List.length_nil, at0, at1, at2, at3, if_true, if_false, decide_true, decide_false, and_self, and_true, true_and, Bool.false_eq_true, Nat.reduceAdd, Nat.reduceLT, Nat.reduceLeDiff, Nat.reduceSub, Nat.reduceEqDiff, Int.reduceLT, Int.reduceLE, Int.reduceNeg, Int.reduceToNat, reduceIte, reduceCtorEq, ix3_0, ix3_1, ix3_2, big, Nat.zero_le, ne_eq, not_false_eq_true, not_true_eq_false, isiD.eq_1, isiD.eq_2, isiOne.eq_def, tyBlt.eq_def, Option.map_some, Bool.not_true, Bool.not_false, lA', lB, C_g0, ↓e1, List.nil_append, List.map_cons, List.map_nil, allD.eq_def, bools, List.all_cons, List.all_nil, id, Bool.false_and]
  exact gc_ok0 gcOk_rfl rfl rfl
/-! ### is_word -/
/-- a drawn word -/
def Wq (w : Str) : Prop := ∃ cs, w = sOf cs ∧ 1 ≤ cs.length ∧ cs.length ≤ 8 ∧ lower cs ∧ 113 ∈ cs
theorem Wq.sok {w : Str} (h : Wq w) : PyData.strOk w = true := by
  obtain ⟨cs, rfl, _, _, hl, _⟩ := h
  exact strOk_sOf fun c hc => by have := hl c hc; omega
theorem res_ok : ∀ s ∈ res, PyData.strOk s = true := by decide +kernel
theorem res_q : ∀ s ∈ res, 113 ∉ s.cps.toList := by decide +kernel
theorem Wq.notres {w : Str} (h : Wq w) : w ∉ res := fun hm => by
  obtain ⟨cs, rfl, _, _, _, hq⟩ := h
  have := res_q _ hm
  rw [sOf_list] at this
  exact this hq
theorem isword (k : Nat) (M : Store) {w : Str} (h : Wq w) : run Z.G (k + 2) 2 [.str w] M = .ok (.bl true) M := by
  have hr := h.notres
  have hs := h.sok
  obtain ⟨cs, rfl, h1, h8, hl, hq⟩ := h
  rw [run_eq (G := Z.G) (f := 2) (F := ⟨1, 1, b2⟩) rfl ⟨rfl, (by decide : 1 ≤ 1)⟩]
  show fin M (sxs (Cj (k + 1)) b2 [some (.str (sOf cs))] M) = _
  unfold b2
  have e := spelled k M cs h1 h8 hl
  have i1 : inD M (.str (sOf cs)) (.tup (res.map .str)) = some false := by
    rw [in_strs hs res_ok (.inl rfl)]
    simp [hr]
  simp -implicitDefEqProofs only [bind_ok, bind_ex, fl_ok, fl_ex, seq_nx, seq_rt, seq_ex, q_k, q_v, q_g, q_tup, q_lst, q_bin, q_neg, q_evT, q_not, q_and1, q_and, q_or1, q_or, q_cmp, q_cmp2, q_ite, q_ix, q_sl, q_o0, q_o1, q_call, q_mk, q_bi, q_bm, q_attr, q_isi, q_e0, q_e1, q_e2, k_v, k_of, k_tup, k_tupX, k_lst, k_lstX, k_b1, k_b1X, k_b2, k_b2X, k_neg, k_t, k_tX, k_not, k_notX, k_and, k_andX, k_andT, k_andF, k_or, k_orX, k_orT, k_orF, k_c1, k_c1X, k_c2, k_c2X, k_d1, k_d2, k_d3T, k_d3F, k_d4, k_iT, k_iF, k_iX, k_x1, k_x1X, k_x2, k_x2X, k_s1, k_s2, k_s3, k_o, k_a1, k_a1X, k_a2, k_a2X, k_m1, k_m1X, k_m2, k_m2X, k_bi, k_biX, k_bm1, k_bm1X, k_bm2, k_bm3, k_bm3X, k_at, k_atX, k_is, k_isX, k_e1, k_e1X, k_e2, k_e2X, k_f1, k_f2, q_ss0, q_ss1, k_sq, k_sqR, k_sqX, k_sqB, k_sqC, q_set, k_set, k_setX, k_set2, q_par, k_p1, k_p1X, k_p2, k_p2X, q_sub, k_u1, k_u1X, k_u2, k_u3, k_u4, q_fld, k_w1, k_w1X, k_w2, q_ex, k_ex, k_exX, q_ret, k_rF, k_rT, k_rX, k_rf, q_retN, q_if, k_ifT, k_ifF, k_ifX, q_raise, k_rs, q_aug, k_agA, k_agS, q_pass, q_brk, q_cont, fin_rt, fin_nx, fin_ex, cmpR.eq_def, clsD.eq_def, ixD.eq_def, seqOf.eq_def, bin.eq_def, binI_add, binI_sub, binI_mod, binI_fdiv, binI_mulL, binI_mulR, Bool.and_self, sm_a, sm_b, sm_c, sm_d, sm_e, sm_f, sm_g, sm_h, sm_i, sm_j, sm_k, lg64, lg4096, lg65536, cmp.eq_def, truth.eq_def, biD.eq_def, lenD.eq_def, absD.eq_def, intD.eq_def, minD.eq_def, maxD.eq_def, newL.eq_def, bindT.eq_1, bindT.eq_2, bindT.eq_3, setD.eq_def, isNone.eq_def, List.getElem?_cons_zero, List.getElem?_cons_succ, List.set_cons_zero, List.set_cons_succ, List.length_cons, List.length_nil, at0, at1, at2, at3, if_true, if_false, decide_true, decide_false, and_self, and_true, true_and, Bool.false_eq_true, Nat.reduceAdd, Nat.reduceLT, Nat.reduceLeDiff, Nat.reduceSub, Nat.reduceEqDiff, Int.reduceLT, Int.reduceLE, Int.reduceNeg, Int.reduceToNat, reduceIte, reduceCtorEq, ix3_0, ix3_1, ix3_2, big, Nat.zero_le, ne_eq, not_false_eq_true, not_true_eq_false, isiD.eq_1, isiD.eq_2, isiOne.eq_def, tyBlt.eq_def, Option.map_some, Bool.not_true, Bool.not_false, C_s0, C_g1, C_g2, callG.eq_def, sel.eq_1, sel.eq_2, sel.eq_3, sel.eq_4, C_call, List.append_nil, e, i1]
  exact gc_ok0 gcOk_rfl rfl rfl
theorem isword_no (k : Nat) (M : Store) (d : D) (h : Pln d) (hn : ∀ s, d ≠ .str s) : run Z.G (k + 2) 2 [d] M = .ok (.bl false) M := by
  rw [run_eq (G := Z.G) (f := 2) (F := ⟨1, 1, b2⟩) rfl ⟨rfl, (by decide : 1 ≤ 1)⟩]
  show fin M (sxs (Cj (k + 1)) b2 [some d] M) = _
  unfold b2
  simp -implicitDefEqProofs only [bind_ok, bind_ex, fl_ok, fl_ex, seq_nx, seq_rt, seq_ex, q_k, q_v, q_g, q_tup, q_lst, q_bin, q_neg, q_evT, q_not, q_and1, q_and, q_or1, q_or, q_cmp, q_cmp2, q_ite, q_ix, q_sl, q_o0, q_o1, q_call, q_mk, q_bi, q_bm, q_attr, q_isi, q_e0, q_e1, q_e2, k_v, k_of, k_tup, k_tupX, k_lst, k_lstX, k_b1, k_b1X, k_b2, k_b2X, k_neg, k_t, k_tX, k_not, k_notX, k_and, k_andX, k_andT, k_andF, k_or, k_orX, k_orT, k_orF, k_c1, k_c1X, k_c2, k_c2X, k_d1, k_d2, k_d3T, k_d3F, k_d4, k_iT, k_iF, k_iX, k_x1, k_x1X, k_x2, k_x2X, k_s1, k_s2, k_s3, k_o, k_a1, k_a1X, k_a2, k_a2X, k_m1, k_m1X, k_m2, k_m2X, k_bi, k_biX, k_bm1, k_bm1X, k_bm2, k_bm3, k_bm3X, k_at, k_atX, k_is, k_isX, k_e1, k_e1X, k_e2, k_e2X, k_f1, k_f2, q_ss0, q_ss1, k_sq, k_sqR, k_sqX, k_sqB, k_sqC, q_set, k_set, k_setX, k_set2, q_par, k_p1, k_p1X, k_p2, k_p2X, q_sub, k_u1, k_u1X, k_u2, k_u3, k_u4, q_fld, k_w1, k_w1X, k_w2, q_ex, k_ex, k_exX, q_ret, k_rF, k_rT, k_rX, k_rf, q_retN, q_if, k_ifT, k_ifF, k_ifX, q_raise, k_rs, q_aug, k_agA, k_agS, q_pass, q_brk, q_cont, fin_rt, fin_nx, fin_ex, cmpR.eq_def, clsD.eq_def, ixD.eq_def, seqOf.eq_def, bin.eq_def, binI_add, binI_sub, binI_mod, binI_fdiv, binI_mulL, binI_mulR, Bool.and_self, sm_a, sm_b, sm_c, sm_d, sm_e, sm_f, sm_g, sm_h, sm_i, sm_j, sm_k, lg64, lg4096, lg65536, cmp.eq_def, truth.eq_def, biD.eq_def, lenD.eq_def, absD.eq_def, intD.eq_def, minD.eq_def, maxD.eq_def, newL.eq_def, bindT.eq_1, bindT.eq_2, bindT.eq_3, setD.eq_def, isNone.eq_def, List.getElem?_cons_zero, List.getElem?_cons_succ, List.set_cons_zero, List.set_cons_succ, List.length_cons, List.length_nil, at0, at1, at2, at3, if_true, if_false, decide_true, decide_false, and_self, and_true, true_and, Bool.false_eq_true, Nat.reduceAdd, Nat.reduceLT, Nat.reduceLeDiff, Nat.reduceSub, Nat.reduceEqDiff, Int.reduceLT, Int.reduceLE, Int.reduceNeg, Int.reduceToNat, reduceIte, reduceCtorEq, ix3_0, ix3_1, ix3_2, big, Nat.zero_le, ne_eq, not_false_eq_true, not_true_eq_false, isiD.eq_1, isiD.eq_2, isiOne.eq_def, tyBlt.eq_def, Option.map_some, Bool.not_true, Bool.not_false, C_s0, C_g1, C_g2, callG.eq_def, sel.eq_1, sel.eq_2, sel.eq_3, sel.eq_4, C_call, List.append_nil, spelled_no k M d h hn]
  exact gc_ok0 gcOk_rfl rfl rfl
theorem isword_A (k : Nat) (M : Store) : run Z.G (k + 2) 2 [.str "A"] M = .ok (.bl false) M := by
  rw [run_eq (G := Z.G) (f := 2) (F := ⟨1, 1, b2⟩) rfl ⟨rfl, (by decide : 1 ≤ 1)⟩]
  show fin M (sxs (Cj (k + 1)) b2 [some (.str "A")] M) = _
  unfold b2
  simp -implicitDefEqProofs only [bind_ok, bind_ex, fl_ok, fl_ex, seq_nx, seq_rt, seq_ex, q_k, q_v, q_g, q_tup, q_lst, q_bin, q_neg, q_evT, q_not, q_and1, q_and, q_or1, q_or, q_cmp, q_cmp2, q_ite, q_ix, q_sl, q_o0, q_o1, q_call, q_mk, q_bi, q_bm, q_attr, q_isi, q_e0, q_e1, q_e2, k_v, k_of, k_tup, k_tupX, k_lst, k_lstX, k_b1, k_b1X, k_b2, k_b2X, k_neg, k_t, k_tX, k_not, k_notX, k_and, k_andX, k_andT, k_andF, k_or, k_orX, k_orT, k_orF, k_c1, k_c1X, k_c2, k_c2X, k_d1, k_d2, k_d3T, k_d3F, k_d4, k_iT, k_iF, k_iX, k_x1, k_x1X, k_x2, k_x2X, k_s1, k_s2, k_s3, k_o, k_a1, k_a1X, k_a2, k_a2X, k_m1, k_m1X, k_m2, k_m2X, k_bi, k_biX, k_bm1, k_bm1X, k_bm2, k_bm3, k_bm3X, k_at, k_atX, k_is, k_isX, k_e1, k_e1X, k_e2, k_e2X, k_f1, k_f2, q_ss0, q_ss1, k_sq, k_sqR, k_sqX, k_sqB, k_sqC, q_set, k_set, k_setX, k_set2, q_par, k_p1, k_p1X, k_p2, k_p2X, q_sub, k_u1, k_u1X, k_u2, k_u3, k_u4, q_fld, k_w1, k_w1X, k_w2, q_ex, k_ex, k_exX, q_ret, k_rF, k_rT, k_rX, k_rf, q_retN, q_if, k_ifT, k_ifF, k_ifX, q_raise, k_rs, q_aug, k_agA, k_agS, q_pass, q_brk, q_cont, fin_rt, fin_nx, fin_ex, cmpR.eq_def, clsD.eq_def, ixD.eq_def, seqOf.eq_def, bin.eq_def, binI_add, binI_sub, binI_mod, binI_fdiv, binI_mulL, binI_mulR, Bool.and_self, sm_a, sm_b, sm_c, sm_d, sm_e, sm_f, sm_g, sm_h, sm_i, sm_j, sm_k, lg64, lg4096, lg65536, cmp.eq_def, truth.eq_def, biD.eq_def, lenD.eq_def, absD.eq_def, intD.eq_def, minD.eq_def, maxD.eq_def, newL.eq_def, bindT.eq_1, bindT.eq_2, bindT.eq_3, setD.eq_def, isNone.eq_def, List.getElem?_cons_zero, List.getElem?_cons_succ, List.set_cons_zero, List.set_cons_succ, List.length_cons, List.length_nil, at0, at1, at2, at3, if_true, if_false, decide_true, decide_false, and_self, and_true, true_and, Bool.false_eq_true, Nat.reduceAdd, Nat.reduceLT, Nat.reduceLeDiff, Nat.reduceSub, Nat.reduceEqDiff, Int.reduceLT, Int.reduceLE, Int.reduceNeg, Int.reduceToNat, reduceIte, reduceCtorEq, ix3_0, ix3_1, ix3_2, big, Nat.zero_le, ne_eq, not_false_eq_true, not_true_eq_false, isiD.eq_1, isiD.eq_2, isiOne.eq_def, tyBlt.eq_def, Option.map_some, Bool.not_true, Bool.not_false, C_s0, C_g1, C_g2, callG.eq_def, sel.eq_1, sel.eq_2, sel.eq_3, sel.eq_4, C_call, List.append_nil, spelled_A k M]
  exact gc_ok0 gcOk_rfl rfl rfl
theorem isword_if (k : Nat) (M : Store) : run Z.G (k + 2) 2 [.str "if"] M = .ok (.bl false) M := by
  rw [run_eq (G := Z.G) (f := 2) (F := ⟨1, 1, b2⟩) rfl ⟨rfl, (by decide : 1 ≤ 1)⟩]
  show fin M (sxs (Cj (k + 1)) b2 [some (.str "if")] M) = _
  unfold b2
  have ei : Str.ofString "if" = sOf [105, 102] := by decide +kernel
  have e := spelled k M [105, 102] (by decide) (by decide) (by intro c hc; simp at hc; omega)
  rw [← ei] at e
  have i1 : inD M (.str "if") (.tup (res.map .str)) = some true := by
    rw [in_strs (by decide +kernel) res_ok (.inl rfl)]
    have : Str.ofString "if" ∈ res := by decide +kernel
    simp [this]
  simp -implicitDefEqProofs only [bind_ok, bind_ex, fl_ok, fl_ex, seq_nx, seq_rt, seq_ex, q_k, q_v, q_g, q_tup, q_lst, q_bin, q_neg, q_evT, q_not, q_and1, q_and, q_or1, q_or, q_cmp, q_cmp2, q_ite, q_ix, q_sl, q_o0, q_o1, q_call, q_mk, q_bi, q_bm, q_attr, q_isi, q_e0, q_e1, q_e2, k_v, k_of, k_tup, k_tupX, k_lst, k_lstX, k_b1, k_b1X, k_b2, k_b2X, k_neg, k_t, k_tX, k_not, k_notX, k_and, k_andX, k_andT, k_andF, k_or, k_orX, k_orT, k_orF, k_c1, k_c1X, k_c2, k_c2X, k_d1, k_d2, k_d3T, k_d3F, k_d4, k_iT, k_iF, k_iX, k_x1, k_x1X, k_x2, k_x2X, k_s1, k_s2, k_s3, k_o, k_a1, k_a1X, k_a2, k_a2X, k_m1, k_m1X, k_m2, k_m2X, k_bi, k_biX, k_bm1, k_bm1X, k_bm2, k_bm3, k_bm3X, k_at, k_atX, k_is, k_isX, k_e1, k_e1X, k_e2, k_e2X, k_f1, k_f2, q_ss0, q_ss1, k_sq, k_sqR, k_sqX, k_sqB, k_sqC, q_set, k_set, k_setX, k_set2, q_par, k_p1, k_p1X, k_p2, k_p2X, q_sub, k_u1, k_u1X, k_u2, k_u3, k_u4, q_fld, k_w1, k_w1X, k_w2, q_ex, k_ex, k_exX, q_ret, k_rF, k_rT, k_rX, k_rf, q_retN, q_if, k_ifT, k_ifF, k_ifX, q_raise, k_rs, q_aug, k_agA, k_agS, q_pass, q_brk, q_cont, fin_rt, fin_nx, fin_ex, cmpR.eq_def, clsD.eq_def, ixD.eq_def, seqOf.eq_def, bin.eq_def, binI_add, binI_sub, binI_mod, binI_fdiv, binI_mulL, binI_mulR, Bool.and_self, sm_a, sm_b, sm_c, sm_d, sm_e, sm_f, sm_g, sm_h, sm_i, sm_j, sm_k, lg64, lg4096, lg65536, cmp.eq_def, truth.eq_def, biD.eq_def, lenD.eq_def, absD.eq_def, intD.eq_def, minD.eq_def, maxD.eq_def, newL.eq_def, bindT.eq_1, bindT.eq_2, bindT.eq_3, setD.eq_def, isNone.eq_def, List.getElem?_cons_zero, List.getElem?_cons_succ, List.set_cons_zero, List.set_cons_succ, List.length_cons, List.length_nil, at0, at1, at2, at3, if_true, if_false, decide_true, decide_false, and_self, and_true, true_and, Bool.false_eq_true, Nat.reduceAdd, Nat.reduceLT, Nat.reduceLeDiff, Nat.reduceSub, Nat.reduceEqDiff, Int.reduceLT, Int.reduceLE, Int.reduceNeg, Int.reduceToNat, reduceIte, reduceCtorEq, ix3_0, ix3_1, ix3_2, big, Nat.zero_le, ne_eq, not_false_eq_true, not_true_eq_false, isiD.eq_1, isiD.eq_2, isiOne.eq_def, tyBlt.eq_def, Option.map_some, Bool.not_true, Bool.not_false, C_s0, C_g1, C_g2, callG.eq_def, sel.eq_1, sel.eq_2, sel.eq_3, sel.eq_4, C_call, List.append_nil, e, i1]
  exact gc_ok0 gcOk_rfl rfl rfl
/-- what stands in a drawn tuple of methods -/
def Elem (ws : List Str) (e : D) : Prop := (∃ w ∈ ws, e = .str w) ∨ e = .str "A" ∨ e = .str "if" ∨ e = .non ∨ (∃ l, e = .lst l) ∨ ∃ l, e = .tup l
def isW (ws : List Str) : D → Bool
  | .str w => decide (w ∈ ws)
  | _ => false
def WsOk (ws : List Str) : Prop := ∀ w ∈ ws, Wq w
theorem noA {ws : List Str} (h : WsOk ws) : Str.ofString "A" ∉ ws := fun hm => by
  obtain ⟨cs, e, _, _, hl, _⟩ := h _ hm
  have : Str.ofString "A" = sOf [65] := by decide +kernel
  rw [this] at e
  have := sOf_inj e
  subst this
  have := hl 65 (by simp)
  omega
theorem noif {ws : List Str} (h : WsOk ws) : Str.ofString "if" ∉ ws := fun hm => by
  obtain ⟨cs, e, _, _, _, hq⟩ := h _ hm
  have : Str.ofString "if" = sOf [105, 102] := by decide +kernel
  rw [this] at e
  have := sOf_inj e
  subst this
  simp at hq
theorem isword_el (k : Nat) (M : Store) {ws : List Str} {e : D} (hw : WsOk ws) (h : Elem ws e) : run Z.G (k + 2) 2 [e] M = .ok (.bl (isW ws e)) M := by
  rcases h with ⟨w, hm, rfl⟩ | rfl | rfl | rfl | ⟨l, rfl⟩ | ⟨l, rfl⟩
  · rw [isword k M (hw w hm)]
    simp [isW, hm]
  · rw [isword_A k M]
    simp [isW, noA hw]
  · rw [isword_if k M]
    simp [isW, noif hw]
  · exact isword_no k M _ (.inl rfl) fun s h => by cases h
  · exact isword_no k M _ (.inr (.inr (.inr (.inr (.inr ⟨l, rfl⟩))))) fun s h => by cases h
  · exact isword_no k M _ (.inr (.inr (.inr (.inr (.inl ⟨l, rfl⟩))))) fun s h => by cases h
/-! ### are_words -/
def badM (ws : List Str) : D → Bool
  | .non => false
  | .tup es => !(es.all (isW ws))
  | _ => true
def goodT (ws : List Str) : D → Bool
  | .tup es => es.all (isW ws)
  | _ => false
theorem arewords (k : Nat) (M : Store) {ws : List Str} {s : D} (hw : WsOk ws) (hp : Pln s) (hs : ∀ es, s = .tup es → ∀ e ∈ es, Elem ws e) : run Z.G (k + 1) 10 [s, .lst (ws.map .str)] M = .ok (.bl (goodT ws s)) M := by
  rw [run_eq (G := Z.G) (f := 10) (F := ⟨2, 3, b10⟩) rfl ⟨rfl, (by decide : 2 ≤ 3)⟩]
  show fin M (sxs (Cj k) b10 [some s, some (.lst (ws.map .str)), none] M) = _
  unfold b10
  by_cases ht : ∃ es, s = .tup es
  · obtain ⟨es, rfl⟩ := ht
    have hL := lcL_map (C := Cj k) (tg := .n 2) (f := lcF (Cj k) .nil (.and (.cons (.isi (.v 2) [.str]) (.cons (.cmp .isIn (.v 2) (.v 1)) .nil)))) (ρ := [some (.tup es), some (.lst (ws.map .str)), none]) (M := M) (fun e => .bl (isW ws e)) (xs := es) (acc := []) fun x hx => by
      refine ⟨_, rfl, ?_⟩
      rw [lcF_nil]
      show (ev _ _ [some (.tup es), some (.lst (ws.map .str)), some x] M).bind _ = _
      have hws : ∀ w ∈ ws, PyData.strOk w = true := fun w h => (hw w h).sok
      rcases hs es rfl x hx with ⟨w, hm, rfl⟩ | rfl | rfl | rfl | ⟨l, rfl⟩ | ⟨l, rfl⟩
      · simp -implicitDefEqProofs only [bind_ok, bind_ex, fl_ok, fl_ex, seq_nx, seq_rt, seq_ex, q_k, q_v, q_g, q_tup, q_lst, q_bin, q_neg, q_evT, q_not, q_and1, q_and, q_or1, q_or, q_cmp, q_cmp2, q_ite, q_ix, q_sl, q_o0, q_o1, q_call, q_mk, q_bi, q_bm, q_attr, q_isi, q_e0, q_e1, q_e2, k_v, k_of, k_tup, k_tupX, k_lst, k_lstX, k_b1, k_b1X, k_b2, k_b2X, k_neg, k_t, k_tX, k_not, k_notX, k_and, k_andX, k_andT, k_andF, k_or, k_orX, k_orT, k_orF, k_c1, k_c1X, k_c2, k_c2X, k_d1, k_d2, k_d3T, k_d3F, k_d4, k_iT, k_iF, k_iX, k_x1, k_x1X, k_x2, k_x2X, k_s1, k_s2, k_s3, k_o, k_a1, k_a1X, k_a2, k_a2X, k_m1, k_m1X, k_m2, k_m2X, k_bi, k_biX, k_bm1, k_bm1X, k_bm2, k_bm3, k_bm3X, k_at, k_atX, k_is, k_isX, k_e1, k_e1X, k_e2, k_e2X, k_f1, k_f2, q_ss0, q_ss1, k_sq, k_sqR, k_sqX, k_sqB, k_sqC, q_set, k_set, k_setX, k_set2, q_par, k_p1, k_p1X, k_p2, k_p2X, q_sub, k_u1, k_u1X, k_u2, k_u3, k_u4, q_fld, k_w1, k_w1X, k_w2, q_ex, k_ex, k_exX, q_ret, k_rF, k_rT, k_rX, k_rf, q_retN, q_if, k_ifT, k_ifF, k_ifX, q_raise, k_rs, q_aug, k_agA, k_agS, q_pass, q_brk, q_cont, fin_rt, fin_nx, fin_ex, cmpR.eq_def, clsD.eq_def, ixD.eq_def, seqOf.eq_def, bin.eq_def, binI_add, binI_sub, binI_mod, binI_fdiv, binI_mulL, binI_mulR, Bool.and_self, sm_a, sm_b, sm_c, sm_d, sm_e, sm_f, sm_g, sm_h, sm_i, sm_j, sm_k, lg64, lg4096, lg65536, cmp.eq_def, truth.eq_def, biD.eq_def, lenD.eq_def, absD.eq_def, intD.eq_def, minD.eq_def, maxD.eq_def, newL.eq_def, bindT.eq_1, bindT.eq_2, bindT.eq_3, setD.eq_def, isNone.eq_def, List.getElem?_cons_zero, List.getElem?_cons_succ, List.set_cons_zero, List.set_cons_succ, List.length_cons, List.length_nil, at0, at1, at2, at3, if_true, if_false, decide_true, decide_false, and_self, and_true, true_and, Bool.false_eq_true, Nat.reduceAdd, Nat.reduceLT, Nat.reduceLeDiff, Nat.reduceSub, Nat.reduceEqDiff, Int.reduceLT, Int.reduceLE, Int.reduceNeg, Int.reduceToNat, reduceIte, reduceCtorEq, ix3_0, ix3_1, ix3_2, big, Nat.zero_le, ne_eq, not_false_eq_true, not_true_eq_false, isiD.eq_1, isiD.eq_2, isiOne.eq_def, tyBlt.eq_def, Option.map_some, Bool.not_true, Bool.not_false, in_strs (hws w hm) hws (.inr rfl)]
        rfl
      · simp -implicitDefEqProofs only [bind_ok, bind_ex, fl_ok, fl_ex, seq_nx, seq_rt, seq_ex, q_k, q_v, q_g, q_tup, q_lst, q_bin, q_neg, q_evT, q_not, q_and1, q_and, q_or1, q_or, q_cmp, q_cmp2, q_ite, q_ix, q_sl, q_o0, q_o1, q_call, q_mk, q_bi, q_bm, q_attr, q_isi, q_e0, q_e1, q_e2, k_v, k_of, k_tup, k_tupX, k_lst, k_lstX, k_b1, k_b1X, k_b2, k_b2X, k_neg, k_t, k_tX, k_not, k_notX, k_and, k_andX, k_andT, k_andF, k_or, k_orX, k_orT, k_orF, k_c1, k_c1X, k_c2, k_c2X, k_d1, k_d2, k_d3T, k_d3F, k_d4, k_iT, k_iF, k_iX, k_x1, k_x1X, k_x2, k_x2X, k_s1, k_s2, k_s3, k_o, k_a1, k_a1X, k_a2, k_a2X, k_m1, k_m1X, k_m2, k_m2X, k_bi, k_biX, k_bm1, k_bm1X, k_bm2, k_bm3, k_bm3X, k_at, k_atX, k_is, k_isX, k_e1, k_e1X, k_e2, k_e2X, k_f1, k_f2, q_ss0, q_ss1, k_sq, k_sqR, k_sqX, k_sqB, k_sqC, q_set, k_set, k_setX, k_set2, q_par, k_p1, k_p1X, k_p2, k_p2X, q_sub, k_u1, k_u1X, k_u2, k_u3, k_u4, q_fld, k_w1, k_w1X, k_w2, q_ex, k_ex, k_exX, q_ret, k_rF, k_rT, k_rX, k_rf, q_retN, q_if, k_ifT, k_ifF, k_ifX, q_raise, k_rs, q_aug, k_agA, k_agS, q_pass, q_brk, q_cont, fin_rt, fin_nx, fin_ex, cmpR.eq_def, clsD.eq_def, ixD.eq_def, seqOf.eq_def, bin.eq_def, binI_add, binI_sub, binI_mod, binI_fdiv, binI_mulL, binI_mulR, Bool.and_self, sm_a, sm_b, sm_c, sm_d, sm_e, sm_f, sm_g, sm_h, sm_i, sm_j, sm_k, lg64, lg4096, lg65536, cmp.eq_def, truth.eq_def, biD.eq_def, lenD.eq_def, absD.eq_def, intD.eq_def, minD.eq_def, maxD.eq_def, newL.eq_def, bindT.eq_1, bindT.eq_2, bindT.eq_3, setD.eq_def, isNone.eq_def, List.getElem?_cons_zero, List.getElem?_cons_succ, List.set_cons_zero, List.set_cons_succ, List.length_cons, List.length_nil, at0, at1, at2, at3, if_true, if_false, decide_true, decide_false, and_self, and_true, true_and, Bool.false_eq_true, Nat.reduceAdd, Nat.reduceLT, Nat.reduceLeDiff, Nat.reduceSub, Nat.reduceEqDiff, Int.reduceLT, Int.reduceLE, Int.reduceNeg, Int.reduceToNat, reduceIte, reduceCtorEq, ix3_0, ix3_1, ix3_2, big, Nat.zero_le, ne_eq, not_false_eq_true, not_true_eq_false, isiD.eq_1, isiD.eq_2, isiOne.eq_def, tyBlt.eq_def, Option.map_some, Bool.not_true, Bool.not_false, in_strs (w := "A") (by decide +kernel) hws (.inr rfl)]
        rfl
      · simp -implicitDefEqProofs only [bind_ok, bind_ex, fl_ok, fl_ex, seq_nx, seq_rt, seq_ex, q_k, q_v, q_g, q_tup, q_lst, q_bin, q_neg, q_evT, q_not, q_and1, q_and, q_or1, q_or, q_cmp, q_cmp2, q_ite, q_ix, q_sl, q_o0, q_o1, q_call, q_mk, q_bi, q_bm, q_attr, q_isi, q_e0, q_e1, q_e2, k_v, k_of, k_tup, k_tupX, k_lst, k_lstX, k_b1, k_b1X, k_b2, k_b2X, k_neg, k_t, k_tX, k_not, k_notX, k_and, k_andX, k_andT, k_andF, k_or, k_orX, k_orT, k_orF, k_c1, k_c1X, k_c2, k_c2X, k_d1, k_d2, k_d3T, k_d3F, k_d4, k_iT, k_iF, k_iX, k_x1, k_x1X, k_x2, k_x2X, k_s1, k_s2, k_s3, k_o, k_a1, k_a1X, k_a2, k_a2X, k_m1, k_m1X, k_m2, k_m2X, k_bi, k_biX, k_bm1, k_bm1X, k_bm2, k_bm3, k_bm3X, k_at, k_atX, k_is, k_isX, k_e1, k_e1X, k_e2, k_e2X, k_f1, k_f2, q_ss0, q_ss1, k_sq, k_sqR, k_sqX, k_sqB, k_sqC, q_set, k_set, k_setX, k_set2, q_par, k_p1, k_p1X, k_p2, k_p2X, q_sub, k_u1, k_u1X, k_u2, k_u3, k_u4, q_fld, k_w1, k_w1X, k_w2, q_ex, k_ex, k_exX, q_ret, k_rF, k_rT, k_rX, k_rf, q_retN, q_if, k_ifT, k_ifF, k_ifX, q_raise, k_rs, q_aug, k_agA, k_agS, q_pass, q_brk, q_cont, fin_rt, fin_nx, fin_ex, cmpR.eq_def, clsD.eq_def, ixD.eq_def, seqOf.eq_def, bin.eq_def, binI_add, binI_sub, binI_mod, binI_fdiv, binI_mulL, binI_mulR, Bool.and_self, sm_a, sm_b, sm_c, sm_d, sm_e, sm_f, sm_g, sm_h, sm_i, sm_j, sm_k, lg64, lg4096, lg65536, cmp.eq_def, truth.eq_def, biD.eq_def, lenD.eq_def, absD.eq_def, intD.eq_def, minD.eq_def, maxD.eq_def, newL.eq_def, bindT.eq_1, bindT.eq_2, bindT.eq_3, setD.eq_def, isNone.eq_def, List.getElem?_cons_zero, List.getElem?_cons_succ, List.set_cons_zero, List.set_cons_succ, List.length_cons, List.length_nil, at0, at1, at2, at3, if_true, if_false, decide_true, decide_false, and_self, and_true, true_and, Bool.false_eq_true, Nat.reduceAdd, Nat.reduceLT, Nat.reduceLeDiff, Nat.reduceSub, Nat.reduceEqDiff, Int.reduceLT, Int.reduceLE, Int.reduceNeg, Int.reduceToNat, reduceIte, reduceCtorEq, ix3_0, ix3_1, ix3_2, big, Nat.zero_le, ne_eq, not_false_eq_true, not_true_eq_false, isiD.eq_1, isiD.eq_2, isiOne.eq_def, tyBlt.eq_def, Option.map_some, Bool.not_true, Bool.not_false, in_strs (w := "if") (by decide +kernel) hws (.inr rfl)]
        rfl
      · simp -implicitDefEqProofs only [bind_ok, bind_ex, fl_ok, fl_ex, seq_nx, seq_rt, seq_ex, q_k, q_v, q_g, q_tup, q_lst, q_bin, q_neg, q_evT, q_not, q_and1, q_and, q_or1, q_or, q_cmp, q_cmp2, q_ite, q_ix, q_sl, q_o0, q_o1, q_call, q_mk, q_bi, q_bm, q_attr, q_isi, q_e0, q_e1, q_e2, k_v, k_of, k_tup, k_tupX, k_lst, k_lstX, k_b1, k_b1X, k_b2, k_b2X, k_neg, k_t, k_tX, k_not, k_notX, k_and, k_andX, k_andT, k_andF, k_or, k_orX, k_orT, k_orF, k_c1, k_c1X, k_c2, k_c2X, k_d1, k_d2, k_d3T, k_d3F, k_d4, k_iT, k_iF, k_iX, k_x1, k_x1X, k_x2, k_x2X, k_s1, k_s2, k_s3, k_o, k_a1, k_a1X, k_a2, k_a2X, k_m1, k_m1X, k_m2, k_m2X, k_bi, k_biX, k_bm1, k_bm1X, k_bm2, k_bm3, k_bm3X, k_at, k_atX, k_is, k_isX, k_e1, k_e1X, k_e2, k_e2X, k_f1, k_f2, q_ss0, q_ss1, k_sq, k_sqR, k_sqX, k_sqB, k_sqC, q_set, k_set, k_setX, k_set2, q_par, k_p1, k_p1X, k_p2, k_p2X, q_sub, k_u1, k_u1X, k_u2, k_u3, k_u4, q_fld, k_w1, k_w1X, k_w2, q_ex, k_ex, k_exX, q_ret, k_rF, k_rT, k_rX, k_rf, q_retN, q_if, k_ifT, k_ifF, k_ifX, q_raise, k_rs, q_aug, k_agA, k_agS, q_pass, q_brk, q_cont, fin_rt, fin_nx, fin_ex, cmpR.eq_def, clsD.eq_def, ixD.eq_def, seqOf.eq_def, bin.eq_def, binI_add, binI_sub, binI_mod, binI_fdiv, binI_mulL, binI_mulR, Bool.and_self, sm_a, sm_b, sm_c, sm_d, sm_e, sm_f, sm_g, sm_h, sm_i, sm_j, sm_k, lg64, lg4096, lg65536, cmp.eq_def, truth.eq_def, biD.eq_def, lenD.eq_def, absD.eq_def, intD.eq_def, minD.eq_def, maxD.eq_def, newL.eq_def, bindT.eq_1, bindT.eq_2, bindT.eq_3, setD.eq_def, isNone.eq_def, List.getElem?_cons_zero, List.getElem?_cons_succ, List.set_cons_zero, List.set_cons_succ, List.length_cons, List.length_nil, at0, at1, at2, at3, if_true, if_false, decide_true, decide_false, and_self, and_true, true_and, Bool.false_eq_true, Nat.reduceAdd, Nat.reduceLT, Nat.reduceLeDiff, Nat.reduceSub, Nat.reduceEqDiff, Int.reduceLT, Int.reduceLE, Int.reduceNeg, Int.reduceToNat, reduceIte, reduceCtorEq, ix3_0, ix3_1, ix3_2, big, Nat.zero_le, ne_eq, not_false_eq_true, not_true_eq_false, isiD.eq_1, isiD.eq_2, isiOne.eq_def, tyBlt.eq_def, Option.map_some, Bool.not_true, Bool.not_false]
        rfl
      · simp -implicitDefEqProofs only [bind_ok, bind_ex, fl_ok, fl_ex, seq_nx, seq_rt, seq_ex, q_k, q_v, q_g, q_tup, q_lst, q_bin, q_neg, q_evT, q_not, q_and1, q_and, q_or1, q_or, q_cmp, q_cmp2, q_ite, q_ix, q_sl, q_o0, q_o1, q_call, q_mk, q_bi, q_bm, q_attr, q_isi, q_e0, q_e1, q_e2, k_v, k_of, k_tup, k_tupX, k_lst, k_lstX, k_b1, k_b1X, k_b2, k_b2X, k_neg, k_t, k_tX, k_not, k_notX, k_and, k_andX, k_andT, k_andF, k_or, k_orX, k_orT, k_orF, k_c1, k_c1X, k_c2, k_c2X, k_d1, k_d2, k_d3T, k_d3F, k_d4, k_iT, k_iF, k_iX, k_x1, k_x1X, k_x2, k_x2X, k_s1, k_s2, k_s3, k_o, k_a1, k_a1X, k_a2, k_a2X, k_m1, k_m1X, k_m2, k_m2X, k_bi, k_biX, k_bm1, k_bm1X, k_bm2, k_bm3, k_bm3X, k_at, k_atX, k_is, k_isX, k_e1, k_e1X, k_e2, k_e2X, k_f1, k_f2, q_ss0, q_ss1, k_sq, k_sqR, k_sqX, k_sqB, k_sqC, q_set, k_set, k_setX, k_set2, q_par, k_p1, k_p1X, k_p2, k_p2X, q_sub, k_u1, k_u1X, k_u2, k_u3, k_u4, q_fld, k_w1, k_w1X, k_w2, q_ex, k_ex, k_exX, q_ret, k_rF, k_rT, k_rX, k_rf, q_retN, q_if, k_ifT, k_ifF, k_ifX, q_raise, k_rs, q_aug, k_agA, k_agS, q_pass, q_brk, q_cont, fin_rt, fin_nx, fin_ex, cmpR.eq_def, clsD.eq_def, ixD.eq_def, seqOf.eq_def, bin.eq_def, binI_add, binI_sub, binI_mod, binI_fdiv, binI_mulL, binI_mulR, Bool.and_self, sm_a, sm_b, sm_c, sm_d, sm_e, sm_f, sm_g, sm_h, sm_i, sm_j, sm_k, lg64, lg4096, lg65536, cmp.eq_def, truth.eq_def, biD.eq_def, lenD.eq_def, absD.eq_def, intD.eq_def, minD.eq_def, maxD.eq_def, newL.eq_def, bindT.eq_1, bindT.eq_2, bindT.eq_3, setD.eq_def, isNone.eq_def, List.getElem?_cons_zero, List.getElem?_cons_succ, List.set_cons_zero, List.set_cons_succ, List.length_cons, List.length_nil, at0, at1, at2, at3, if_true, if_false, decide_true, decide_false, and_self, and_true, true_and, Bool.false_eq_true, Nat.reduceAdd, Nat.reduceLT, Nat.reduceLeDiff, Nat.reduceSub, Nat.reduceEqDiff, Int.reduceLT, Int.reduceLE, Int.reduceNeg, Int.reduceToNat, reduceIte, reduceCtorEq, ix3_0, ix3_1, ix3_2, big, Nat.zero_le, ne_eq, not_false_eq_true, not_true_eq_false, isiD.eq_1, isiD.eq_2, isiOne.eq_def, tyBlt.eq_def, Option.map_some, Bool.not_true, Bool.not_false]
        rfl
      · simp -implicitDefEqProofs only [bind_ok, bind_ex, fl_ok, fl_ex, seq_nx, seq_rt, seq_ex, q_k, q_v, q_g, q_tup, q_lst, q_bin, q_neg, q_evT, q_not, q_and1, q_and, q_or1, q_or, q_cmp, q_cmp2, q_ite, q_ix, q_sl, q_o0, q_o1, q_call, q_mk, q_bi, q_bm, q_attr, q_isi, q_e0, q_e1, q_e2, k_v, k_of, k_tup, k_tupX, k_lst, k_lstX, k_b1, k_b1X, k_b2, k_b2X, k_neg, k_t, k_tX, k_not, k_notX, k_and, k_andX, k_andT, k_andF, k_or, k_orX, k_orT, k_orF, k_c1, k_c1X, k_c2, k_c2X, k_d1, k_d2, k_d3T, k_d3F, k_d4, k_iT, k_iF, k_iX, k_x1, k_x1X, k_x2, k_x2X, k_s1, k_s2, k_s3, k_o, k_a1, k_a1X, k_a2, k_a2X, k_m1, k_m1X, k_m2, k_m2X, k_bi, k_biX, k_bm1, k_bm1X, k_bm2, k_bm3, k_bm3X, k_at, k_atX, k_is, k_isX, k_e1, k_e1X, k_e2, k_e2X, k_f1, k_f2, q_ss0, q_ss1, k_sq, k_sqR, k_sqX, k_sqB, k_sqC, q_set, k_set, k_setX, k_set2, q_par, k_p1, k_p1X, k_p2, k_p2X, q_sub, k_u1, k_u1X, k_u2, k_u3, k_u4, q_fld, k_w1, k_w1X, k_w2, q_ex, k_ex, k_exX, q_ret, k_rF, k_rT, k_rX, k_rf, q_retN, q_if, k_ifT, k_ifF, k_ifX, q_raise, k_rs, q_aug, k_agA, k_agS, q_pass, q_brk, q_cont, fin_rt, fin_nx, fin_ex, cmpR.eq_def, clsD.eq_def, ixD.eq_def, seqOf.eq_def, bin.eq_def, binI_add, binI_sub, binI_mod, binI_fdiv, binI_mulL, binI_mulR, Bool.and_self, sm_a, sm_b, sm_c, sm_d, sm_e, sm_f, sm_g, sm_h, sm_i, sm_j, sm_k, lg64, lg4096, lg65536, cmp.eq_def, truth.eq_def, biD.eq_def, lenD.eq_def, absD.eq_def, intD.eq_def, minD.eq_def, maxD.eq_def, newL.eq_def, bindT.eq_1, bindT.eq_2, bindT.eq_3, setD.eq_def, isNone.eq_def, List.getElem?_cons_zero, List.getElem?_cons_succ, List.set_cons_zero, List.set_cons_succ, List.length_cons, List.length_nil, at0, at1, at2, at3, if_true, if_false, decide_true, decide_false, and_self, and_true, true_and, Bool.false_eq_true, Nat.reduceAdd, Nat.reduceLT, Nat.reduceLeDiff, Nat.reduceSub, Nat.reduceEqDiff, Int.reduceLT, Int.reduceLE, Int.reduceNeg, Int.reduceToNat, reduceIte, reduceCtorEq, ix3_0, ix3_1, ix3_2, big, Nat.zero_le, ne_eq, not_false_eq_true, not_true_eq_false, isiD.eq_1, isiD.eq_2, isiOne.eq_def, tyBlt.eq_def, Option.map_some, Bool.not_true, Bool.not_false]
        rfl
    have e1 : ev (Cj k) (.lc false .seq (.cons (.v 0) .nil) (.n 2) .nil (.and (.cons (.isi (.v 2) [.str]) (.cons (.cmp .isIn (.v 2) (.v 1)) .nil)))) [some (.tup es), some (.lst (ws.map .str)), none] M = _ := lc_eq (ds := [.tup es]) (M1 := M) (by simp -implicitDefEqProofs only [bind_ok, bind_ex, fl_ok, fl_ex, seq_nx, seq_rt, seq_ex, q_k, q_v, q_g, q_tup, q_lst, q_bin, q_neg, q_evT, q_not, q_and1, q_and, q_or1, q_or, q_cmp, q_cmp2, q_ite, q_ix, q_sl, q_o0, q_o1, q_call, q_mk, q_bi, q_bm, q_attr, q_isi, q_e0, q_e1, q_e2, k_v, k_of, k_tup, k_tupX, k_lst, k_lstX, k_b1, k_b1X, k_b2, k_b2X, k_neg, k_t, k_tX, k_not, k_notX, k_and, k_andX, k_andT, k_andF, k_or, k_orX, k_orT, k_orF, k_c1, k_c1X, k_c2, k_c2X, k_d1, k_d2, k_d3T, k_d3F, k_d4, k_iT, k_iF, k_iX, k_x1, k_x1X, k_x2, k_x2X, k_s1, k_s2, k_s3, k_o, k_a1, k_a1X, k_a2, k_a2X, k_m1, k_m1X, k_m2, k_m2X, k_bi, k_biX, k_bm1, k_bm1X, k_bm2, k_bm3, k_bm3X, k_at, k_atX, k_is, k_isX, k_e1, k_e1X, k_e2, k_e2X, k_f1, k_f2, q_ss0, q_ss1, k_sq, k_sqR, k_sqX, k_sqB, k_sqC, q_set, k_set, k_setX, k_set2, q_par, k_p1, k_p1X, k_p2, k_p2X, q_sub, k_u1, k_u1X, k_u2, k_u3, k_u4, q_fld, k_w1, k_w1X, k_w2, q_ex, k_ex, k_exX, q_ret, k_rF, k_rT, k_rX, k_rf, q_retN, q_if, k_ifT, k_ifF, k_ifX, q_raise, k_rs, q_aug, k_agA, k_agS, q_pass, q_brk, q_cont, fin_rt, fin_nx, fin_ex, cmpR.eq_def, clsD.eq_def, ixD.eq_def, seqOf.eq_def, bin.eq_def, binI_add, binI_sub, binI_mod, binI_fdiv, binI_mulL, binI_mulR, Bool.and_self, sm_a, sm_b, sm_c, sm_d, sm_e, sm_f, sm_g, sm_h, sm_i, sm_j, sm_k, lg64, lg4096, lg65536, cmp.eq_def, truth.eq_def, biD.eq_def, lenD.eq_def, absD.eq_def, intD.eq_def, minD.eq_def, maxD.eq_def, newL.eq_def, bindT.eq_1, bindT.eq_2, bindT.eq_3, setD.eq_def, isNone.eq_def, List.getElem?_cons_zero, List.getElem?_cons_succ, List.set_cons_zero, List.set_cons_succ, List.length_cons, List.length_nil, at0, at1, at2, at3, if_true, if_false, decide_true, decide_false, and_self, and_true, true_and, Bool.false_eq_true, Nat.reduceAdd, Nat.reduceLT, Nat.reduceLeDiff, Nat.reduceSub, Nat.reduceEqDiff, Int.reduceLT, Int.reduceLE, Int.reduceNeg, Int.reduceToNat, reduceIte, reduceCtorEq, ix3_0, ix3_1, ix3_2, big, Nat.zero_le, ne_eq, not_false_eq_true, not_true_eq_false, isiD.eq_1, isiD.eq_2, isiOne.eq_def, tyBlt.eq_def, Option.map_some, Bool.not_true, Bool.not_false]) items_tup hL
    have e2 : es.map (fun e => D.bl (isW ws e)) = (es.map (isW ws)).map D.bl := by simp
    have e3 : (es.map (isW ws)).all id = es.all (isW ws) := by simp [List.all_map]
    simp -implicitDefEqProofs only [bind_ok, bind_ex, fl_ok, fl_ex, seq_nx, seq_rt, seq_ex, q_k, q_v, q_g, q_tup, q_lst, q_bin, q_neg, q_evT, q_not, q_and1, q_and, q_or1, q_or, q_cmp, q_cmp2, q_ite, q_ix, q_sl, q_o0, q_o1, q_call, q_mk, q_bi, q_bm, q_attr, q_isi, q_e0, q_e1, q_e2, k_v, k_of, k_tup, k_tupX, k_lst, k_lstX, k_b1, k_b1X, k_b2, k_b2X, k_neg, k_t, k_tX, k_not, k_notX, k_and, k_andX, k_andT, k_andF, k_or, k_orX, k_orT, k_orF, k_c1, k_c1X, k_c2, k_c2X, k_d1, k_d2, k_d3T, k_d3F, k_d4, k_iT, k_iF, k_iX, k_x1, k_x1X, k_x2, k_x2X, k_s1, k_s2, k_s3, k_o, k_a1, k_a1X, k_a2, k_a2X, k_m1, k_m1X, k_m2, k_m2X, k_bi, k_biX, k_bm1, k_bm1X, k_bm2, k_bm3, k_bm3X, k_at, k_atX, k_is, k_isX, k_e1, k_e1X, k_e2, k_e2X, k_f1, k_f2, q_ss0, q_ss1, k_sq, k_sqR, k_sqX, k_sqB, k_sqC, q_set, k_set, k_setX, k_set2, q_par, k_p1, k_p1X, k_p2, k_p2X, q_sub, k_u1, k_u1X, k_u2, k_u3, k_u4, q_fld, k_w1, k_w1X, k_w2, q_ex, k_ex, k_exX, q_ret, k_rF, k_rT, k_rX, k_rf, q_retN, q_if, k_ifT, k_ifF, k_ifX, q_raise, k_rs, q_aug, k_agA, k_agS, q_pass, q_brk, q_cont, fin_rt, fin_nx, fin_ex, cmpR.eq_def, clsD.eq_def, ixD.eq_def, seqOf.eq_def, bin.eq_def, binI_add, binI_sub, binI_mod, binI_fdiv, binI_mulL, binI_mulR, Bool.and_self, sm_a, sm_b, sm_c, sm_d, sm_e, sm_f, sm_g, sm_h, sm_i, sm_j, sm_k, lg64, lg4096, lg65536, cmp.eq_def, truth.eq_def, biD.eq_def, lenD.eq_def, absD.eq_def, intD.eq_def, minD.eq_def, maxD.eq_def, newL.eq_def, bindT.eq_1, bindT.eq_2, bindT.eq_3, setD.eq_def, isNone.eq_def, List.getElem?_cons_zero, List.getElem?_cons_succ, List.set_cons_zero, List.set_cons_succ, List.length_cons, List.length_nil, at0, at1, at2, at3, if_true, if_false, decide_true, decide_false, and_self, and_true, true_and, Bool.false_eq_true, Nat.reduceAdd, Nat.reduceLT, Nat.reduceLeDiff, Nat.reduceSub, Nat.reduceEqDiff, Int.reduceLT, Int.reduceLE, Int.reduceNeg, Int.reduceToNat, reduceIte, reduceCtorEq, ix3_0, ix3_1, ix3_2, big, Nat.zero_le, ne_eq, not_false_eq_true, not_true_eq_false, isiD.eq_1, isiD.eq_2, isiOne.eq_def, tyBlt.eq_def, Option.map_some, Bool.not_true, Bool.not_false, ↓e1, List.nil_append, e2, allD.eq_def, bools_map', e3]
    exact gc_ok0 gcOk_rfl rfl rfl
  · rcases hp with rfl | ⟨i, rfl⟩ | ⟨b, rfl⟩ | ⟨s, rfl⟩ | ⟨l, rfl⟩ | ⟨l, rfl⟩ <;> first | exact absurd ⟨_, rfl⟩ ht | (simp -implicitDefEqProofs only [bind_ok, bind_ex, fl_ok, fl_ex, seq_nx, seq_rt, seq_ex, q_k, q_v, q_g, q_tup, q_lst, q_bin, q_neg, q_evT, q_not, q_and1, q_and, q_or1, q_or, q_cmp, q_cmp2, q_ite, q_ix, q_sl, q_o0, q_o1, q_call, q_mk, q_bi, q_bm, q_attr, q_isi, q_e0, q_e1, q_e2, k_v, k_of, k_tup, k_tupX, k_lst, k_lstX, k_b1, k_b1X, k_b2, k_b2X, k_neg, k_t, k_tX, k_not, k_notX, k_and, k_andX, k_andT, k_andF, k_or, k_orX, k_orT, k_orF, k_c1, k_c1X, k_c2, k_c2X, k_d1, k_d2, k_d3T, k_d3F, k_d4, k_iT, k_iF, k_iX, k_x1, k_x1X, k_x2, k_x2X, k_s1, k_s2, k_s3, k_o, k_a1, k_a1X, k_a2, k_a2X, k_m1, k_m1X, k_m2, k_m2X, k_bi, k_biX, k_bm1, k_bm1X, k_bm2, k_bm3, k_bm3X, k_at, k_atX, k_is, k_isX, k_e1, k_e1X, k_e2, k_e2X, k_f1, k_f2, q_ss0, q_ss1, k_sq, k_sqR, k_sqX, k_sqB, k_sqC, q_set, k_set, k_setX, k_set2, q_par, k_p1, k_p1X, k_p2, k_p2X, q_sub, k_u1, k_u1X, k_u2, k_u3, k_u4, q_fld, k_w1, k_w1X, k_w2, q_ex, k_ex, k_exX, q_ret, k_rF, k_rT, k_rX, k_rf, q_retN, q_if, k_ifT, k_ifF, k_ifX, q_raise, k_rs, q_aug, k_agA, k_agS, q_pass, q_brk, q_cont, fin_rt, fin_nx, fin_ex, cmpR.eq_def, clsD.eq_def, ixD.eq_def, seqOf.eq_def, bin.eq_def, binI_add, binI_sub, binI_mod, binI_fdiv, binI_mulL, binI_mulR, Bool.and_self, sm_a, sm_b, sm_c, sm_d, sm_e, sm_f, sm_g, sm_h, sm_i, sm_j, sm_k, lg64, lg4096, lg65536, cmp.eq_def, truth.eq_def, biD.eq_def, lenD.eq_def, absD.eq_def, intD.eq_def, minD.eq_def, maxD.eq_def, newL.eq_def, bindT.eq_1, bindT.eq_2, bindT.eq_3, setD.eq_def, isNone.eq_def, List.getElem?_cons_zero, List.getElem?_cons_succ, List.set_cons_zero, List.set_cons_succ, List.length_cons, List.length_nil, at0, at1, at2, at3, if_true, if_false, decide_true, decide_false, and_self, and_true, true_and, Bool.false_eq_true, Nat.reduceAdd, Nat.reduceLT, Nat.reduceLeDiff, Nat.reduceSub, Nat.reduceEqDiff, Int.reduceLT, Int.reduceLE, Int.reduceNeg, Int.reduceToNat, reduceIte, reduceCtorEq, ix3_0, ix3_1, ix3_2, big, Nat.zero_le, ne_eq, not_false_eq_true, not_true_eq_false, isiD.eq_1, isiD.eq_2, isiOne.eq_def, tyBlt.eq_def, Option.map_some, Bool.not_true, Bool.not_false] <;> exact gc_ok0 gcOk_rfl rfl rfl)
end Law
namespace Law
open PySem Dv
/-! ### strict -/
theorem str_at (k : Nat) (M : Store) (d : D) (h : d = .non ∨ (∃ i, d = .int i) ∨ (∃ b, d = .bl b) ∨ ∃ s, d = .str s ∧ PyData.strOk s = true) : run Z.G (k + 1) 8 [d, d] M = .ok (.bl true) M := by
  rw [run_eq (G := Z.G) (f := 8) (F := ⟨2, 3, b8⟩) rfl ⟨rfl, (by decide : 2 ≤ 3)⟩]
  show fin M (sxs (Cj k) b8 [some d, some d, none] M) = _
  unfold b8
  have q : ∀ a b : Bool, eqD (.bl a) (.bl b) = some (eqDD (.bl a) (.bl b)) := fun a b => eqD_ok rfl rfl (Nat.zero_le _) (Nat.zero_le _)
  have q1 : eqDD (.bl true) (.bl true) = true := rfl
  have q2 : eqDD (.bl false) (.bl false) = true := rfl
  have see : ∀ b : Bool, D.see M 1 (.bl b) = .bl b := fun _ => rfl
  rcases h with rfl | ⟨i, rfl⟩ | ⟨b, rfl⟩ | ⟨s, rfl, hs⟩
  · have e : eqD .non .non = some true := rfl
    simp -implicitDefEqProofs only [bind_ok, bind_ex, fl_ok, fl_ex, seq_nx, seq_rt, seq_ex, q_k, q_v, q_g, q_tup, q_lst, q_bin, q_neg, q_evT, q_not, q_and1, q_and, q_or1, q_or, q_cmp, q_cmp2, q_ite, q_ix, q_sl, q_o0, q_o1, q_call, q_mk, q_bi, q_bm, q_attr, q_isi, q_e0, q_e1, q_e2, k_v, k_of, k_tup, k_tupX, k_lst, k_lstX, k_b1, k_b1X, k_b2, k_b2X, k_neg, k_t, k_tX, k_not, k_notX, k_and, k_andX, k_andT, k_andF, k_or, k_orX, k_orT, k_orF, k_c1, k_c1X, k_c2, k_c2X, k_d1, k_d2, k_d3T, k_d3F, k_d4, k_iT, k_iF, k_iX, k_x1, k_x1X, k_x2, k_x2X, k_s1, k_s2, k_s3, k_o, k_a1, k_a1X, k_a2, k_a2X, k_m1, k_m1X, k_m2, k_m2X, k_bi, k_biX, k_bm1, k_bm1X, k_bm2, k_bm3, k_bm3X, k_at, k_atX, k_is, k_isX, k_e1, k_e1X, k_e2, k_e2X, k_f1, k_f2, q_ss0, q_ss1, k_sq, k_sqR, k_sqX, k_sqB, k_sqC, q_set, k_set, k_setX, k_set2, q_par, k_p1, k_p1X, k_p2, k_p2X, q_sub, k_u1, k_u1X, k_u2, k_u3, k_u4, q_fld, k_w1, k_w1X, k_w2, q_ex, k_ex, k_exX, q_ret, k_rF, k_rT, k_rX, k_rf, q_retN, q_if, k_ifT, k_ifF, k_ifX, q_raise, k_rs, q_aug, k_agA, k_agS, q_pass, q_brk, q_cont, fin_rt, fin_nx, fin_ex, cmpR.eq_def, clsD.eq_def, ixD.eq_def, seqOf.eq_def, bin.eq_def, binI_add, binI_sub, binI_mod, binI_fdiv, binI_mulL, binI_mulR, Bool.and_self, sm_a, sm_b, sm_c, sm_d, sm_e, sm_f, sm_g, sm_h, sm_i, sm_j, sm_k, lg64, lg4096, lg65536, cmp.eq_def, truth.eq_def, biD.eq_def, lenD.eq_def, absD.eq_def, intD.eq_def, minD.eq_def, maxD.eq_def, newL.eq_def, bindT.eq_1, bindT.eq_2, bindT.eq_3, setD.eq_def, isNone.eq_def, List.getElem?_cons_zero, List.getElem?_cons_succ, List.set_cons_zero, List.set_cons_succ, List.length_cons, List.length_nil, at0, at1, at2, at3, if_true, if_false, decide_true, decide_false, and_self, and_true, true_and, Bool.false_eq_true, Nat.reduceAdd, Nat.reduceLT, Nat.reduceLeDiff, Nat.reduceSub, Nat.reduceEqDiff, Int.reduceLT, Int.reduceLE, Int.reduceNeg, Int.reduceToNat, reduceIte, reduceCtorEq, ix3_0, ix3_1, ix3_2, big, Nat.zero_le, ne_eq, not_false_eq_true, not_true_eq_false, isiD.eq_1, isiD.eq_2, isiOne.eq_def, tyBlt.eq_def, Option.map_some, Bool.not_true, Bool.not_false, see, q, q1, q2, e, D.see]
    exact gc_ok0 gcOk_rfl rfl rfl
  · have e : eqD (.int i) (.int i) = some true := by rw [eqD_ok rfl rfl (Nat.zero_le _) (Nat.zero_le _), eqDD_refl rfl]
    simp -implicitDefEqProofs only [bind_ok, bind_ex, fl_ok, fl_ex, seq_nx, seq_rt, seq_ex, q_k, q_v, q_g, q_tup, q_lst, q_bin, q_neg, q_evT, q_not, q_and1, q_and, q_or1, q_or, q_cmp, q_cmp2, q_ite, q_ix, q_sl, q_o0, q_o1, q_call, q_mk, q_bi, q_bm, q_attr, q_isi, q_e0, q_e1, q_e2, k_v, k_of, k_tup, k_tupX, k_lst, k_lstX, k_b1, k_b1X, k_b2, k_b2X, k_neg, k_t, k_tX, k_not, k_notX, k_and, k_andX, k_andT, k_andF, k_or, k_orX, k_orT, k_orF, k_c1, k_c1X, k_c2, k_c2X, k_d1, k_d2, k_d3T, k_d3F, k_d4, k_iT, k_iF, k_iX, k_x1, k_x1X, k_x2, k_x2X, k_s1, k_s2, k_s3, k_o, k_a1, k_a1X, k_a2, k_a2X, k_m1, k_m1X, k_m2, k_m2X, k_bi, k_biX, k_bm1, k_bm1X, k_bm2, k_bm3, k_bm3X, k_at, k_atX, k_is, k_isX, k_e1, k_e1X, k_e2, k_e2X, k_f1, k_f2, q_ss0, q_ss1, k_sq, k_sqR, k_sqX, k_sqB, k_sqC, q_set, k_set, k_setX, k_set2, q_par, k_p1, k_p1X, k_p2, k_p2X, q_sub, k_u1, k_u1X, k_u2, k_u3, k_u4, q_fld, k_w1, k_w1X, k_w2, q_ex, k_ex, k_exX, q_ret, k_rF, k_rT, k_rX, k_rf, q_retN, q_if, k_ifT, k_ifF, k_ifX, q_raise, k_rs, q_aug, k_agA, k_agS, q_pass, q_brk, q_cont, fin_rt, fin_nx, fin_ex, cmpR.eq_def, clsD.eq_def, ixD.eq_def, seqOf.eq_def, bin.eq_def, binI_add, binI_sub, binI_mod, binI_fdiv, binI_mulL, binI_mulR, Bool.and_self, sm_a, sm_b, sm_c, sm_d, sm_e, sm_f, sm_g, sm_h, sm_i, sm_j, sm_k, lg64, lg4096, lg65536, cmp.eq_def, truth.eq_def, biD.eq_def, lenD.eq_def, absD.eq_def, intD.eq_def, minD.eq_def, maxD.eq_def, newL.eq_def, bindT.eq_1, bindT.eq_2, bindT.eq_3, setD.eq_def, isNone.eq_def, List.getElem?_cons_zero, List.getElem?_cons_succ, List.set_cons_zero, List.set_cons_succ, List.length_cons, List.length_nil, at0, at1, at2, at3, if_true, if_false, decide_true, decide_false, and_self, and_true, true_and, Bool.false_eq_true, Nat.reduceAdd, Nat.reduceLT, Nat.reduceLeDiff, Nat.reduceSub, Nat.reduceEqDiff, Int.reduceLT, Int.reduceLE, Int.reduceNeg, Int.reduceToNat, reduceIte, reduceCtorEq, ix3_0, ix3_1, ix3_2, big, Nat.zero_le, ne_eq, not_false_eq_true, not_true_eq_false, isiD.eq_1, isiD.eq_2, isiOne.eq_def, tyBlt.eq_def, Option.map_some, Bool.not_true, Bool.not_false, see, q, q1, q2, e, D.see]
    exact gc_ok0 gcOk_rfl rfl rfl
  · have e : eqD (.bl b) (.bl b) = some true := by rw [eqD_ok rfl rfl (Nat.zero_le _) (Nat.zero_le _), eqDD_refl rfl]
    simp -implicitDefEqProofs only [bind_ok, bind_ex, fl_ok, fl_ex, seq_nx, seq_rt, seq_ex, q_k, q_v, q_g, q_tup, q_lst, q_bin, q_neg, q_evT, q_not, q_and1, q_and, q_or1, q_or, q_cmp, q_cmp2, q_ite, q_ix, q_sl, q_o0, q_o1, q_call, q_mk, q_bi, q_bm, q_attr, q_isi, q_e0, q_e1, q_e2, k_v, k_of, k_tup, k_tupX, k_lst, k_lstX, k_b1, k_b1X, k_b2, k_b2X, k_neg, k_t, k_tX, k_not, k_notX, k_and, k_andX, k_andT, k_andF, k_or, k_orX, k_orT, k_orF, k_c1, k_c1X, k_c2, k_c2X, k_d1, k_d2, k_d3T, k_d3F, k_d4, k_iT, k_iF, k_iX, k_x1, k_x1X, k_x2, k_x2X, k_s1, k_s2, k_s3, k_o, k_a1, k_a1X, k_a2, k_a2X, k_m1, k_m1X, k_m2, k_m2X, k_bi, k_biX, k_bm1, k_bm1X, k_bm2, k_bm3, k_bm3X, k_at, k_atX, k_is, k_isX, k_e1, k_e1X, k_e2, k_e2X, k_f1, k_f2, q_ss0, q_ss1, k_sq, k_sqR, k_sqX, k_sqB, k_sqC, q_set, k_set, k_setX, k_set2, q_par, k_p1, k_p1X, k_p2, k_p2X, q_sub, k_u1, k_u1X, k_u2, k_u3, k_u4, q_fld, k_w1, k_w1X, k_w2, q_ex, k_ex, k_exX, q_ret, k_rF, k_rT, k_rX, k_rf, q_retN, q_if, k_ifT, k_ifF, k_ifX, q_raise, k_rs, q_aug, k_agA, k_agS, q_pass, q_brk, q_cont, fin_rt, fin_nx, fin_ex, cmpR.eq_def, clsD.eq_def, ixD.eq_def, seqOf.eq_def, bin.eq_def, binI_add, binI_sub, binI_mod, binI_fdiv, binI_mulL, binI_mulR, Bool.and_self, sm_a, sm_b, sm_c, sm_d, sm_e, sm_f, sm_g, sm_h, sm_i, sm_j, sm_k, lg64, lg4096, lg65536, cmp.eq_def, truth.eq_def, biD.eq_def, lenD.eq_def, absD.eq_def, intD.eq_def, minD.eq_def, maxD.eq_def, newL.eq_def, bindT.eq_1, bindT.eq_2, bindT.eq_3, setD.eq_def, isNone.eq_def, List.getElem?_cons_zero, List.getElem?_cons_succ, List.set_cons_zero, List.set_cons_succ, List.length_cons, List.length_nil, at0, at1, at2, at3, if_true, if_false, decide_true, decide_false, and_self, and_true, true_and, Bool.false_eq_true, Nat.reduceAdd, Nat.reduceLT, Nat.reduceLeDiff, Nat.reduceSub, Nat.reduceEqDiff, Int.reduceLT, Int.reduceLE, Int.reduceNeg, Int.reduceToNat, reduceIte, reduceCtorEq, ix3_0, ix3_1, ix3_2, big, Nat.zero_le, ne_eq, not_false_eq_true, not_true_eq_false, isiD.eq_1, isiD.eq_2, isiOne.eq_def, tyBlt.eq_def, Option.map_some, Bool.not_true, Bool.not_false, see, e, q, q1, q2, D.see]
    exact gc_ok0 gcOk_rfl rfl rfl
  · have e : eqD (.str s) (.str s) = some true := by rw [eqD_ok (a := .str s) (b := .str s) hs hs (Nat.zero_le _) (Nat.zero_le _), eqDD_refl (a := .str s) hs]
    simp -implicitDefEqProofs only [bind_ok, bind_ex, fl_ok, fl_ex, seq_nx, seq_rt, seq_ex, q_k, q_v, q_g, q_tup, q_lst, q_bin, q_neg, q_evT, q_not, q_and1, q_and, q_or1, q_or, q_cmp, q_cmp2, q_ite, q_ix, q_sl, q_o0, q_o1, q_call, q_mk, q_bi, q_bm, q_attr, q_isi, q_e0, q_e1, q_e2, k_v, k_of, k_tup, k_tupX, k_lst, k_lstX, k_b1, k_b1X, k_b2, k_b2X, k_neg, k_t, k_tX, k_not, k_notX, k_and, k_andX, k_andT, k_andF, k_or, k_orX, k_orT, k_orF, k_c1, k_c1X, k_c2, k_c2X, k_d1, k_d2, k_d3T, k_d3F, k_d4, k_iT, k_iF, k_iX, k_x1, k_x1X, k_x2, k_x2X, k_s1, k_s2, k_s3, k_o, k_a1, k_a1X, k_a2, k_a2X, k_m1, k_m1X, k_m2, k_m2X, k_bi, k_biX, k_bm1, k_bm1X, k_bm2, k_bm3, k_bm3X, k_at, k_atX, k_is, k_isX, k_e1, k_e1X, k_e2, k_e2X, k_f1, k_f2, q_ss0, q_ss1, k_sq, k_sqR, k_sqX, k_sqB, k_sqC, q_set, k_set, k_setX, k_set2, q_par, k_p1, k_p1X, k_p2, k_p2X, q_sub, k_u1, k_u1X, k_u2, k_u3, k_u4, q_fld, k_w1, k_w1X, k_w2, q_ex, k_ex, k_exX, q_ret, k_rF, k_rT, k_rX, k_rf, q_retN, q_if, k_ifT, k_ifF, k_ifX, q_raise, k_rs, q_aug, k_agA, k_agS, q_pass, q_brk, q_cont, fin_rt, fin_nx, fin_ex, cmpR.eq_def, clsD.eq_def, ixD.eq_def, seqOf.eq_def, bin.eq_def, binI_add, binI_sub, binI_mod, binI_fdiv, binI_mulL, binI_mulR, Bool.and_self, sm_a, sm_b, sm_c, sm_d, sm_e, sm_f, sm_g, sm_h, sm_i, sm_j, sm_k, lg64, lg4096, lg65536, cmp.eq_def, truth.eq_def, biD.eq_def, lenD.eq_def, absD.eq_def, intD.eq_def, minD.eq_def, maxD.eq_def, newL.eq_def, bindT.eq_1, bindT.eq_2, bindT.eq_3, setD.eq_def, isNone.eq_def, List.getElem?_cons_zero, List.getElem?_cons_succ, List.set_cons_zero, List.set_cons_succ, List.length_cons, List.length_nil, at0, at1, at2, at3, if_true, if_false, decide_true, decide_false, and_self, and_true, true_and, Bool.false_eq_true, Nat.reduceAdd, Nat.reduceLT, Nat.reduceLeDiff, Nat.reduceSub, Nat.reduceEqDiff, Int.reduceLT, Int.reduceLE, Int.reduceNeg, Int.reduceToNat, reduceIte, reduceCtorEq, ix3_0, ix3_1, ix3_2, big, Nat.zero_le, ne_eq, not_false_eq_true, not_true_eq_false, isiD.eq_1, isiD.eq_2, isiOne.eq_def, tyBlt.eq_def, Option.map_some, Bool.not_true, Bool.not_false, see, q, q1, q2, e, D.see]
    exact gc_ok0 gcOk_rfl rfl rfl
theorem str_tup (k : Nat) (M : Store) (xs : List D) (hl : xs.length < 1000) (h : ∀ x ∈ xs, run Z.G (k + 1) 8 [x, x] M = .ok (.bl true) M) : run Z.G (k + 2) 8 [.tup xs, .tup xs] M = .ok (.bl true) M := by
  rw [run_eq (G := Z.G) (f := 8) (F := ⟨2, 3, b8⟩) rfl ⟨rfl, (by decide : 2 ≤ 3)⟩]
  show fin M (sxs (Cj (k + 1)) b8 [some (.tup xs), some (.tup xs), none] M) = _
  unfold b8
  have hL := lcL_map (C := Cj (k + 1)) (tg := .n 2) (f := lcF (Cj (k + 1)) .nil (.call 8 0 (.cons (.ix (.v 0) (.v 2)) (.cons (.ix (.v 1) (.v 2)) .nil)) .nil)) (ρ := [some (.tup xs), some (.tup xs), none]) (M := M) (fun _ => .bl true) (xs := (List.range xs.length).map fun i => .int (i : Nat)) (acc := []) fun x hx => by
    obtain ⟨i, hi, rfl⟩ := List.mem_map.mp hx
    have hi' := List.mem_range.mp hi
    refine ⟨_, rfl, ?_⟩
    rw [lcF_nil]
    show (ev _ _ [some (.tup xs), some (.tup xs), some (.int (i : Nat))] M).bind _ = _
    have ea : L2.atI xs ((i : Nat) : Int) = some xs[i] := by
      rw [atN _ _ (by omega) (by omega), Int.toNat_natCast]
      exact List.getElem?_eq_getElem _
    simp -implicitDefEqProofs only [bind_ok, bind_ex, fl_ok, fl_ex, seq_nx, seq_rt, seq_ex, q_k, q_v, q_g, q_tup, q_lst, q_bin, q_neg, q_evT, q_not, q_and1, q_and, q_or1, q_or, q_cmp, q_cmp2, q_ite, q_ix, q_sl, q_o0, q_o1, q_call, q_mk, q_bi, q_bm, q_attr, q_isi, q_e0, q_e1, q_e2, k_v, k_of, k_tup, k_tupX, k_lst, k_lstX, k_b1, k_b1X, k_b2, k_b2X, k_neg, k_t, k_tX, k_not, k_notX, k_and, k_andX, k_andT, k_andF, k_or, k_orX, k_orT, k_orF, k_c1, k_c1X, k_c2, k_c2X, k_d1, k_d2, k_d3T, k_d3F, k_d4, k_iT, k_iF, k_iX, k_x1, k_x1X, k_x2, k_x2X, k_s1, k_s2, k_s3, k_o, k_a1, k_a1X, k_a2, k_a2X, k_m1, k_m1X, k_m2, k_m2X, k_bi, k_biX, k_bm1, k_bm1X, k_bm2, k_bm3, k_bm3X, k_at, k_atX, k_is, k_isX, k_e1, k_e1X, k_e2, k_e2X, k_f1, k_f2, q_ss0, q_ss1, k_sq, k_sqR, k_sqX, k_sqB, k_sqC, q_set, k_set, k_setX, k_set2, q_par, k_p1, k_p1X, k_p2, k_p2X, q_sub, k_u1, k_u1X, k_u2, k_u3, k_u4, q_fld, k_w1, k_w1X, k_w2, q_ex, k_ex, k_exX, q_ret, k_rF, k_rT, k_rX, k_rf, q_retN, q_if, k_ifT, k_ifF, k_ifX, q_raise, k_rs, q_aug, k_agA, k_agS, q_pass, q_brk, q_cont, fin_rt, fin_nx, fin_ex, cmpR.eq_def, clsD.eq_def, ixD.eq_def, seqOf.eq_def, bin.eq_def, binI_add, binI_sub, binI_mod, binI_fdiv, binI_mulL, binI_mulR, Bool.and_self, sm_a, sm_b, sm_c, sm_d, sm_e, sm_f, sm_g, sm_h, sm_i, sm_j, sm_k, lg64, lg4096, lg65536, cmp.eq_def, truth.eq_def, biD.eq_def, lenD.eq_def, absD.eq_def, intD.eq_def, minD.eq_def, maxD.eq_def, newL.eq_def, bindT.eq_1, bindT.eq_2, bindT.eq_3, setD.eq_def, isNone.eq_def, List.getElem?_cons_zero, List.getElem?_cons_succ, List.set_cons_zero, List.set_cons_succ, List.length_cons, List.length_nil, at0, at1, at2, at3, if_true, if_false, decide_true, decide_false, and_self, and_true, true_and, Bool.false_eq_true, Nat.reduceAdd, Nat.reduceLT, Nat.reduceLeDiff, Nat.reduceSub, Nat.reduceEqDiff, Int.reduceLT, Int.reduceLE, Int.reduceNeg, Int.reduceToNat, reduceIte, reduceCtorEq, ix3_0, ix3_1, ix3_2, big, Nat.zero_le, ne_eq, not_false_eq_true, not_true_eq_false, isiD.eq_1, isiD.eq_2, isiOne.eq_def, tyBlt.eq_def, Option.map_some, Bool.not_true, Bool.not_false, C_s0, callG.eq_def, sel.eq_1, sel.eq_2, sel.eq_3, sel.eq_4, C_call, List.append_nil, ea, h _ (List.getElem_mem hi')]
  have e1 : ev (Cj (k + 1)) (.lc false .rng (.cons (.bi .len (.cons (.v 1) .nil)) .nil) (.n 2) .nil (.call 8 0 (.cons (.ix (.v 0) (.v 2)) (.cons (.ix (.v 1) (.v 2)) .nil)) .nil)) [some (.tup xs), some (.tup xs), none] M = _ := lc_eq (ds := [.int (xs.length : Nat)]) (M1 := M) (by simp -implicitDefEqProofs only [bind_ok, bind_ex, fl_ok, fl_ex, seq_nx, seq_rt, seq_ex, q_k, q_v, q_g, q_tup, q_lst, q_bin, q_neg, q_evT, q_not, q_and1, q_and, q_or1, q_or, q_cmp, q_cmp2, q_ite, q_ix, q_sl, q_o0, q_o1, q_call, q_mk, q_bi, q_bm, q_attr, q_isi, q_e0, q_e1, q_e2, k_v, k_of, k_tup, k_tupX, k_lst, k_lstX, k_b1, k_b1X, k_b2, k_b2X, k_neg, k_t, k_tX, k_not, k_notX, k_and, k_andX, k_andT, k_andF, k_or, k_orX, k_orT, k_orF, k_c1, k_c1X, k_c2, k_c2X, k_d1, k_d2, k_d3T, k_d3F, k_d4, k_iT, k_iF, k_iX, k_x1, k_x1X, k_x2, k_x2X, k_s1, k_s2, k_s3, k_o, k_a1, k_a1X, k_a2, k_a2X, k_m1, k_m1X, k_m2, k_m2X, k_bi, k_biX, k_bm1, k_bm1X, k_bm2, k_bm3, k_bm3X, k_at, k_atX, k_is, k_isX, k_e1, k_e1X, k_e2, k_e2X, k_f1, k_f2, q_ss0, q_ss1, k_sq, k_sqR, k_sqX, k_sqB, k_sqC, q_set, k_set, k_setX, k_set2, q_par, k_p1, k_p1X, k_p2, k_p2X, q_sub, k_u1, k_u1X, k_u2, k_u3, k_u4, q_fld, k_w1, k_w1X, k_w2, q_ex, k_ex, k_exX, q_ret, k_rF, k_rT, k_rX, k_rf, q_retN, q_if, k_ifT, k_ifF, k_ifX, q_raise, k_rs, q_aug, k_agA, k_agS, q_pass, q_brk, q_cont, fin_rt, fin_nx, fin_ex, cmpR.eq_def, clsD.eq_def, ixD.eq_def, seqOf.eq_def, bin.eq_def, binI_add, binI_sub, binI_mod, binI_fdiv, binI_mulL, binI_mulR, Bool.and_self, sm_a, sm_b, sm_c, sm_d, sm_e, sm_f, sm_g, sm_h, sm_i, sm_j, sm_k, lg64, lg4096, lg65536, cmp.eq_def, truth.eq_def, biD.eq_def, lenD.eq_def, absD.eq_def, intD.eq_def, minD.eq_def, maxD.eq_def, newL.eq_def, bindT.eq_1, bindT.eq_2, bindT.eq_3, setD.eq_def, isNone.eq_def, List.getElem?_cons_zero, List.getElem?_cons_succ, List.set_cons_zero, List.set_cons_succ, List.length_cons, List.length_nil, at0, at1, at2, at3, if_true, if_false, decide_true, decide_false, and_self, and_true, true_and, Bool.false_eq_true, Nat.reduceAdd, Nat.reduceLT, Nat.reduceLeDiff, Nat.reduceSub, Nat.reduceEqDiff, Int.reduceLT, Int.reduceLE, Int.reduceNeg, Int.reduceToNat, reduceIte, reduceCtorEq, ix3_0, ix3_1, ix3_2, big, Nat.zero_le, ne_eq, not_false_eq_true, not_true_eq_false, isiD.eq_1, isiD.eq_2, isiOne.eq_def, tyBlt.eq_def, Option.map_some, Bool.not_true, Bool.not_false]) (by rw [items_rng (by omega) (by omega), Int.toNat_natCast]) hL
  have e2 : List.map (fun _ => D.bl true) ((List.range xs.length).map fun i => D.int (i : Nat)) = ((List.range xs.length).map fun _ => true).map D.bl := by simp
  have e3 : ((List.range xs.length).map fun _ => true).all id = true := by simp
  have e : eqD (.int (xs.length : Nat)) (.int (xs.length : Nat)) = some true := by rw [eqD_ok rfl rfl (Nat.zero_le _) (Nat.zero_le _), eqDD_refl rfl]
  simp -implicitDefEqProofs only [bind_ok, bind_ex, fl_ok, fl_ex, seq_nx, seq_rt, seq_ex, q_k, q_v, q_g, q_tup, q_lst, q_bin, q_neg, q_evT, q_not, q_and1, q_and, q_or1, q_or, q_cmp, q_cmp2, q_ite, q_ix, q_sl, q_o0, q_o1, q_call, q_mk, q_bi, q_bm, q_attr, q_isi, q_e0, q_e1, q_e2, k_v, k_of, k_tup, k_tupX, k_lst, k_lstX, k_b1, k_b1X, k_b2, k_b2X, k_neg, k_t, k_tX, k_not, k_notX, k_and, k_andX, k_andT, k_andF, k_or, k_orX, k_orT, k_orF, k_c1, k_c1X, k_c2, k_c2X, k_d1, k_d2, k_d3T, k_d3F, k_d4, k_iT, k_iF, k_iX, k_x1, k_x1X, k_x2, k_x2X, k_s1, k_s2, k_s3, k_o, k_a1, k_a1X, k_a2, k_a2X, k_m1, k_m1X, k_m2, k_m2X, k_bi, k_biX, k_bm1, k_bm1X, k_bm2, k_bm3, k_bm3X, k_at, k_atX, k_is, k_isX, k_e1, k_e1X, k_e2, k_e2X, k_f1, k_f2, q_ss0, q_ss1, k_sq, k_sqR, k_sqX, k_sqB, k_sqC, q_set, k_set, k_setX, k_set2, q_par, k_p1, k_p1X, k_p2, k_p2X, q_sub, k_u1, k_u1X, k_u2, k_u3, k_u4, q_fld, k_w1, k_w1X, k_w2, q_ex, k_ex, k_exX, q_ret, k_rF, k_rT, k_rX, k_rf, q_retN, q_if, k_ifT, k_ifF, k_ifX, q_raise, k_rs, q_aug, k_agA, k_agS, q_pass, q_brk, q_cont, fin_rt, fin_nx, fin_ex, cmpR.eq_def, clsD.eq_def, ixD.eq_def, seqOf.eq_def, bin.eq_def, binI_add, binI_sub, binI_mod, binI_fdiv, binI_mulL, binI_mulR, Bool.and_self, sm_a, sm_b, sm_c, sm_d, sm_e, sm_f, sm_g, sm_h, sm_i, sm_j, sm_k, lg64, lg4096, lg65536, cmp.eq_def, truth.eq_def, biD.eq_def, lenD.eq_def, absD.eq_def, intD.eq_def, minD.eq_def, maxD.eq_def, newL.eq_def, bindT.eq_1, bindT.eq_2, bindT.eq_3, setD.eq_def, isNone.eq_def, List.getElem?_cons_zero, List.getElem?_cons_succ, List.set_cons_zero, List.set_cons_succ, List.length_cons, List.length_nil, at0, at1, at2, at3, if_true, if_false, decide_true, decide_false, and_self, and_true, true_and, Bool.false_eq_true, Nat.reduceAdd, Nat.reduceLT, Nat.reduceLeDiff, Nat.reduceSub, Nat.reduceEqDiff, Int.reduceLT, Int.reduceLE, Int.reduceNeg, Int.reduceToNat, reduceIte, reduceCtorEq, ix3_0, ix3_1, ix3_2, big, Nat.zero_le, ne_eq, not_false_eq_true, not_true_eq_false, isiD.eq_1, isiD.eq_2, isiOne.eq_def, tyBlt.eq_def, Option.map_some, Bool.not_true, Bool.not_false, e, D.see, ↓e1, List.nil_append, e2, allD.eq_def, bools_map', e3]
  exact gc_ok0 gcOk_rfl rfl rfl
/-! ### Callers.__init__ -/
def badT : D → Bool
  | .non => false
  | .int i => decide (i < 0)
  | _ => true
def badL : D → Bool
  | .str s => !decide (s ∈ ([("equal" : Str), "same"] : List Str))
  | _ => true
def badF : D → Bool
  | .bl _ => false
  | _ => true
def PGz (d : D) : Prop := (∃ s, d = .str s ∧ PyData.strOk s = true) ∨ d = .non ∨ (∃ b, d = .bl b) ∨ d = .lst [.str "same"]
structure Vals4 (ws : List Str) (p g s f : D) : Prop where
  wk : WsOk ws
  hp : Pln p
  hg : PGz g
  hs : Pln s
  hse : ∀ es, s = .tup es → ∀ e ∈ es, Elem ws e
  hf : Pln f
def part (ws : List Str) (p g s f : D) : Option Str := if badT p then some "times" else if badL g then some "look" else if badM ws s then some "methods" else if badF f then some "fresh" else none
theorem cT (k : Nat) (M : Store) {n : Nat} {p g s f x : D} (h : Pln p) {r : Dv.Env} : evT (Cj (k + 1)) (.and (.cons (.cmp .isNot (.v 1) (.k (.non))) (.cons (.not (.and (.cons (.call 0 7 (.cons (.v 1) .nil) .nil) (.cons (.cmp .ge (.v 1) (.k (.int 0))) .nil)))) .nil))) (some x :: some p :: r) M = .ok (badT p) M := by
  have hi := isint k M p h
  rcases h with rfl | ⟨i, rfl⟩ | ⟨b, rfl⟩ | ⟨s, rfl⟩ | ⟨l, rfl⟩ | ⟨l, rfl⟩ <;> simp -implicitDefEqProofs only [bind_ok, bind_ex, fl_ok, fl_ex, seq_nx, seq_rt, seq_ex, q_k, q_v, q_g, q_tup, q_lst, q_bin, q_neg, q_evT, q_not, q_and1, q_and, q_or1, q_or, q_cmp, q_cmp2, q_ite, q_ix, q_sl, q_o0, q_o1, q_call, q_mk, q_bi, q_bm, q_attr, q_isi, q_e0, q_e1, q_e2, k_v, k_of, k_tup, k_tupX, k_lst, k_lstX, k_b1, k_b1X, k_b2, k_b2X, k_neg, k_t, k_tX, k_not, k_notX, k_and, k_andX, k_andT, k_andF, k_or, k_orX, k_orT, k_orF, k_c1, k_c1X, k_c2, k_c2X, k_d1, k_d2, k_d3T, k_d3F, k_d4, k_iT, k_iF, k_iX, k_x1, k_x1X, k_x2, k_x2X, k_s1, k_s2, k_s3, k_o, k_a1, k_a1X, k_a2, k_a2X, k_m1, k_m1X, k_m2, k_m2X, k_bi, k_biX, k_bm1, k_bm1X, k_bm2, k_bm3, k_bm3X, k_at, k_atX, k_is, k_isX, k_e1, k_e1X, k_e2, k_e2X, k_f1, k_f2, q_ss0, q_ss1, k_sq, k_sqR, k_sqX, k_sqB, k_sqC, q_set, k_set, k_setX, k_set2, q_par, k_p1, k_p1X, k_p2, k_p2X, q_sub, k_u1, k_u1X, k_u2, k_u3, k_u4, q_fld, k_w1, k_w1X, k_w2, q_ex, k_ex, k_exX, q_ret, k_rF, k_rT, k_rX, k_rf, q_retN, q_if, k_ifT, k_ifF, k_ifX, q_raise, k_rs, q_aug, k_agA, k_agS, q_pass, q_brk, q_cont, fin_rt, fin_nx, fin_ex, cmpR.eq_def, clsD.eq_def, ixD.eq_def, seqOf.eq_def, bin.eq_def, binI_add, binI_sub, binI_mod, binI_fdiv, binI_mulL, binI_mulR, Bool.and_self, sm_a, sm_b, sm_c, sm_d, sm_e, sm_f, sm_g, sm_h, sm_i, sm_j, sm_k, lg64, lg4096, lg65536, cmp.eq_def, truth.eq_def, biD.eq_def, lenD.eq_def, absD.eq_def, intD.eq_def, minD.eq_def, maxD.eq_def, newL.eq_def, bindT.eq_1, bindT.eq_2, bindT.eq_3, setD.eq_def, isNone.eq_def, List.getElem?_cons_zero, List.getElem?_cons_succ, List.set_cons_zero, List.set_cons_succ, List.length_cons, List.length_nil, at0, at1, at2, at3, if_true, if_false, decide_true, decide_false, and_self, and_true, true_and, Bool.false_eq_true, Nat.reduceAdd, Nat.reduceLT, Nat.reduceLeDiff, Nat.reduceSub, Nat.reduceEqDiff, Int.reduceLT, Int.reduceLE, Int.reduceNeg, Int.reduceToNat, reduceIte, reduceCtorEq, ix3_0, ix3_1, ix3_2, big, Nat.zero_le, ne_eq, not_false_eq_true, not_true_eq_false, isiD.eq_1, isiD.eq_2, isiOne.eq_def, tyBlt.eq_def, Option.map_some, Bool.not_true, Bool.not_false, C_s7, callG.eq_def, sel.eq_1, sel.eq_2, sel.eq_3, sel.eq_4, C_call, List.append_nil, hi, intB] <;> first | rfl | skip
  simp only [badT]
  by_cases h : i < 0
  · have : ¬ 0 ≤ i := by omega
    simp [h, this]
  · have : 0 ≤ i := by omega
    simp [h, this]
theorem cL (k : Nat) (M : Store) {g x p : D} (h : PGz g) {r : Dv.Env} : evT (Cj k) (.cmp .notIn (.v 2) (.g 3)) (some x :: some p :: some g :: r) M = .ok (badL g) M := by
  have e : ∀ g, PGz g → inD M g (.tup [.str "equal", .str "same"]) = some (!badL g) := fun g h => by
    rcases h with ⟨s, rfl, hs⟩ | rfl | ⟨b, rfl⟩ | rfl
    · show inD M (.str s) (.tup (List.map D.str ["equal", "same"])) = _
      rw [in_strs (ws := ["equal", "same"]) hs (by decide +kernel) (.inl rfl)]
      simp only [badL, Bool.not_not]
    · rw [inD_ok (ys := [.str "equal", .str "same"]) rfl (by decide +kernel) (Nat.zero_le _) (by decide) rfl (by intro s h; cases h)]
      rfl
    · rw [inD_ok (ys := [.str "equal", .str "same"]) rfl (by decide +kernel) (Nat.zero_le _) (by decide) rfl (by intro s h; cases h)]
      rfl
    · rw [inD_ok (x := .lst [.str "same"]) (ys := [.str "equal", .str "same"]) (by decide +kernel) (by decide +kernel) (by decide) (by decide) rfl (by intro s h; cases h)]
      rfl
  simp -implicitDefEqProofs only [bind_ok, bind_ex, fl_ok, fl_ex, seq_nx, seq_rt, seq_ex, q_k, q_v, q_g, q_tup, q_lst, q_bin, q_neg, q_evT, q_not, q_and1, q_and, q_or1, q_or, q_cmp, q_cmp2, q_ite, q_ix, q_sl, q_o0, q_o1, q_call, q_mk, q_bi, q_bm, q_attr, q_isi, q_e0, q_e1, q_e2, k_v, k_of, k_tup, k_tupX, k_lst, k_lstX, k_b1, k_b1X, k_b2, k_b2X, k_neg, k_t, k_tX, k_not, k_notX, k_and, k_andX, k_andT, k_andF, k_or, k_orX, k_orT, k_orF, k_c1, k_c1X, k_c2, k_c2X, k_d1, k_d2, k_d3T, k_d3F, k_d4, k_iT, k_iF, k_iX, k_x1, k_x1X, k_x2, k_x2X, k_s1, k_s2, k_s3, k_o, k_a1, k_a1X, k_a2, k_a2X, k_m1, k_m1X, k_m2, k_m2X, k_bi, k_biX, k_bm1, k_bm1X, k_bm2, k_bm3, k_bm3X, k_at, k_atX, k_is, k_isX, k_e1, k_e1X, k_e2, k_e2X, k_f1, k_f2, q_ss0, q_ss1, k_sq, k_sqR, k_sqX, k_sqB, k_sqC, q_set, k_set, k_setX, k_set2, q_par, k_p1, k_p1X, k_p2, k_p2X, q_sub, k_u1, k_u1X, k_u2, k_u3, k_u4, q_fld, k_w1, k_w1X, k_w2, q_ex, k_ex, k_exX, q_ret, k_rF, k_rT, k_rX, k_rf, q_retN, q_if, k_ifT, k_ifF, k_ifX, q_raise, k_rs, q_aug, k_agA, k_agS, q_pass, q_brk, q_cont, fin_rt, fin_nx, fin_ex, cmpR.eq_def, clsD.eq_def, ixD.eq_def, seqOf.eq_def, bin.eq_def, binI_add, binI_sub, binI_mod, binI_fdiv, binI_mulL, binI_mulR, Bool.and_self, sm_a, sm_b, sm_c, sm_d, sm_e, sm_f, sm_g, sm_h, sm_i, sm_j, sm_k, lg64, lg4096, lg65536, cmp.eq_def, truth.eq_def, biD.eq_def, lenD.eq_def, absD.eq_def, intD.eq_def, minD.eq_def, maxD.eq_def, newL.eq_def, bindT.eq_1, bindT.eq_2, bindT.eq_3, setD.eq_def, isNone.eq_def, List.getElem?_cons_zero, List.getElem?_cons_succ, List.set_cons_zero, List.set_cons_succ, List.length_cons, List.length_nil, at0, at1, at2, at3, if_true, if_false, decide_true, decide_false, and_self, and_true, true_and, Bool.false_eq_true, Nat.reduceAdd, Nat.reduceLT, Nat.reduceLeDiff, Nat.reduceSub, Nat.reduceEqDiff, Int.reduceLT, Int.reduceLE, Int.reduceNeg, Int.reduceToNat, reduceIte, reduceCtorEq, ix3_0, ix3_1, ix3_2, big, Nat.zero_le, ne_eq, not_false_eq_true, not_true_eq_false, isiD.eq_1, isiD.eq_2, isiOne.eq_def, tyBlt.eq_def, Option.map_some, Bool.not_true, Bool.not_false, C_g3]
  rcases h with ⟨s, rfl, hs⟩ | rfl | ⟨b, rfl⟩ | rfl
  · simp -implicitDefEqProofs only [bind_ok, bind_ex, fl_ok, fl_ex, seq_nx, seq_rt, seq_ex, q_k, q_v, q_g, q_tup, q_lst, q_bin, q_neg, q_evT, q_not, q_and1, q_and, q_or1, q_or, q_cmp, q_cmp2, q_ite, q_ix, q_sl, q_o0, q_o1, q_call, q_mk, q_bi, q_bm, q_attr, q_isi, q_e0, q_e1, q_e2, k_v, k_of, k_tup, k_tupX, k_lst, k_lstX, k_b1, k_b1X, k_b2, k_b2X, k_neg, k_t, k_tX, k_not, k_notX, k_and, k_andX, k_andT, k_andF, k_or, k_orX, k_orT, k_orF, k_c1, k_c1X, k_c2, k_c2X, k_d1, k_d2, k_d3T, k_d3F, k_d4, k_iT, k_iF, k_iX, k_x1, k_x1X, k_x2, k_x2X, k_s1, k_s2, k_s3, k_o, k_a1, k_a1X, k_a2, k_a2X, k_m1, k_m1X, k_m2, k_m2X, k_bi, k_biX, k_bm1, k_bm1X, k_bm2, k_bm3, k_bm3X, k_at, k_atX, k_is, k_isX, k_e1, k_e1X, k_e2, k_e2X, k_f1, k_f2, q_ss0, q_ss1, k_sq, k_sqR, k_sqX, k_sqB, k_sqC, q_set, k_set, k_setX, k_set2, q_par, k_p1, k_p1X, k_p2, k_p2X, q_sub, k_u1, k_u1X, k_u2, k_u3, k_u4, q_fld, k_w1, k_w1X, k_w2, q_ex, k_ex, k_exX, q_ret, k_rF, k_rT, k_rX, k_rf, q_retN, q_if, k_ifT, k_ifF, k_ifX, q_raise, k_rs, q_aug, k_agA, k_agS, q_pass, q_brk, q_cont, fin_rt, fin_nx, fin_ex, cmpR.eq_def, clsD.eq_def, ixD.eq_def, seqOf.eq_def, bin.eq_def, binI_add, binI_sub, binI_mod, binI_fdiv, binI_mulL, binI_mulR, Bool.and_self, sm_a, sm_b, sm_c, sm_d, sm_e, sm_f, sm_g, sm_h, sm_i, sm_j, sm_k, lg64, lg4096, lg65536, cmp.eq_def, truth.eq_def, biD.eq_def, lenD.eq_def, absD.eq_def, intD.eq_def, minD.eq_def, maxD.eq_def, newL.eq_def, bindT.eq_1, bindT.eq_2, bindT.eq_3, setD.eq_def, isNone.eq_def, List.getElem?_cons_zero, List.getElem?_cons_succ, List.set_cons_zero, List.set_cons_succ, List.length_cons, List.length_nil, at0, at1, at2, at3, if_true, if_false, decide_true, decide_false, and_self, and_true, true_and, Bool.false_eq_true, Nat.reduceAdd, Nat.reduceLT, Nat.reduceLeDiff, Nat.reduceSub, Nat.reduceEqDiff, Int.reduceLT, Int.reduceLE, Int.reduceNeg, Int.reduceToNat, reduceIte, reduceCtorEq, ix3_0, ix3_1, ix3_2, big, Nat.zero_le, ne_eq, not_false_eq_true, not_true_eq_false, isiD.eq_1, isiD.eq_2, isiOne.eq_def, tyBlt.eq_def, Option.map_some, Bool.not_true, Bool.not_false, e _ (.inl ⟨s, rfl, hs⟩), Bool.not_not]
  · simp -implicitDefEqProofs only [bind_ok, bind_ex, fl_ok, fl_ex, seq_nx, seq_rt, seq_ex, q_k, q_v, q_g, q_tup, q_lst, q_bin, q_neg, q_evT, q_not, q_and1, q_and, q_or1, q_or, q_cmp, q_cmp2, q_ite, q_ix, q_sl, q_o0, q_o1, q_call, q_mk, q_bi, q_bm, q_attr, q_isi, q_e0, q_e1, q_e2, k_v, k_of, k_tup, k_tupX, k_lst, k_lstX, k_b1, k_b1X, k_b2, k_b2X, k_neg, k_t, k_tX, k_not, k_notX, k_and, k_andX, k_andT, k_andF, k_or, k_orX, k_orT, k_orF, k_c1, k_c1X, k_c2, k_c2X, k_d1, k_d2, k_d3T, k_d3F, k_d4, k_iT, k_iF, k_iX, k_x1, k_x1X, k_x2, k_x2X, k_s1, k_s2, k_s3, k_o, k_a1, k_a1X, k_a2, k_a2X, k_m1, k_m1X, k_m2, k_m2X, k_bi, k_biX, k_bm1, k_bm1X, k_bm2, k_bm3, k_bm3X, k_at, k_atX, k_is, k_isX, k_e1, k_e1X, k_e2, k_e2X, k_f1, k_f2, q_ss0, q_ss1, k_sq, k_sqR, k_sqX, k_sqB, k_sqC, q_set, k_set, k_setX, k_set2, q_par, k_p1, k_p1X, k_p2, k_p2X, q_sub, k_u1, k_u1X, k_u2, k_u3, k_u4, q_fld, k_w1, k_w1X, k_w2, q_ex, k_ex, k_exX, q_ret, k_rF, k_rT, k_rX, k_rf, q_retN, q_if, k_ifT, k_ifF, k_ifX, q_raise, k_rs, q_aug, k_agA, k_agS, q_pass, q_brk, q_cont, fin_rt, fin_nx, fin_ex, cmpR.eq_def, clsD.eq_def, ixD.eq_def, seqOf.eq_def, bin.eq_def, binI_add, binI_sub, binI_mod, binI_fdiv, binI_mulL, binI_mulR, Bool.and_self, sm_a, sm_b, sm_c, sm_d, sm_e, sm_f, sm_g, sm_h, sm_i, sm_j, sm_k, lg64, lg4096, lg65536, cmp.eq_def, truth.eq_def, biD.eq_def, lenD.eq_def, absD.eq_def, intD.eq_def, minD.eq_def, maxD.eq_def, newL.eq_def, bindT.eq_1, bindT.eq_2, bindT.eq_3, setD.eq_def, isNone.eq_def, List.getElem?_cons_zero, List.getElem?_cons_succ, List.set_cons_zero, List.set_cons_succ, List.length_cons, List.length_nil, at0, at1, at2, at3, if_true, if_false, decide_true, decide_false, and_self, and_true, true_and, Bool.false_eq_true, Nat.reduceAdd, Nat.reduceLT, Nat.reduceLeDiff, Nat.reduceSub, Nat.reduceEqDiff, Int.reduceLT, Int.reduceLE, Int.reduceNeg, Int.reduceToNat, reduceIte, reduceCtorEq, ix3_0, ix3_1, ix3_2, big, Nat.zero_le, ne_eq, not_false_eq_true, not_true_eq_false, isiD.eq_1, isiD.eq_2, isiOne.eq_def, tyBlt.eq_def, Option.map_some, Bool.not_true, Bool.not_false, e _ (.inr (.inl rfl)), Bool.not_not]
  · simp -implicitDefEqProofs only [bind_ok, bind_ex, fl_ok, fl_ex, seq_nx, seq_rt, seq_ex, q_k, q_v, q_g, q_tup, q_lst, q_bin, q_neg, q_evT, q_not, q_and1, q_and, q_or1, q_or, q_cmp, q_cmp2, q_ite, q_ix, q_sl, q_o0, q_o1, q_call, q_mk, q_bi, q_bm, q_attr, q_isi, q_e0, q_e1, q_e2, k_v, k_of, k_tup, k_tupX, k_lst, k_lstX, k_b1, k_b1X, k_b2, k_b2X, k_neg, k_t, k_tX, k_not, k_notX, k_and, k_andX, k_andT, k_andF, k_or, k_orX, k_orT, k_orF, k_c1, k_c1X, k_c2, k_c2X, k_d1, k_d2, k_d3T, k_d3F, k_d4, k_iT, k_iF, k_iX, k_x1, k_x1X, k_x2, k_x2X, k_s1, k_s2, k_s3, k_o, k_a1, k_a1X, k_a2, k_a2X, k_m1, k_m1X, k_m2, k_m2X, k_bi, k_biX, k_bm1, k_bm1X, k_bm2, k_bm3, k_bm3X, k_at, k_atX, k_is, k_isX, k_e1, k_e1X, k_e2, k_e2X, k_f1, k_f2, q_ss0, q_ss1, k_sq, k_sqR, k_sqX, k_sqB, k_sqC, q_set, k_set, k_setX, k_set2, q_par, k_p1, k_p1X, k_p2, k_p2X, q_sub, k_u1, k_u1X, k_u2, k_u3, k_u4, q_fld, k_w1, k_w1X, k_w2, q_ex, k_ex, k_exX, q_ret, k_rF, k_rT, k_rX, k_rf, q_retN, q_if, k_ifT, k_ifF, k_ifX, q_raise, k_rs, q_aug, k_agA, k_agS, q_pass, q_brk, q_cont, fin_rt, fin_nx, fin_ex, cmpR.eq_def, clsD.eq_def, ixD.eq_def, seqOf.eq_def, bin.eq_def, binI_add, binI_sub, binI_mod, binI_fdiv, binI_mulL, binI_mulR, Bool.and_self, sm_a, sm_b, sm_c, sm_d, sm_e, sm_f, sm_g, sm_h, sm_i, sm_j, sm_k, lg64, lg4096, lg65536, cmp.eq_def, truth.eq_def, biD.eq_def, lenD.eq_def, absD.eq_def, intD.eq_def, minD.eq_def, maxD.eq_def, newL.eq_def, bindT.eq_1, bindT.eq_2, bindT.eq_3, setD.eq_def, isNone.eq_def, List.getElem?_cons_zero, List.getElem?_cons_succ, List.set_cons_zero, List.set_cons_succ, List.length_cons, List.length_nil, at0, at1, at2, at3, if_true, if_false, decide_true, decide_false, and_self, and_true, true_and, Bool.false_eq_true, Nat.reduceAdd, Nat.reduceLT, Nat.reduceLeDiff, Nat.reduceSub, Nat.reduceEqDiff, Int.reduceLT, Int.reduceLE, Int.reduceNeg, Int.reduceToNat, reduceIte, reduceCtorEq, ix3_0, ix3_1, ix3_2, big, Nat.zero_le, ne_eq, not_false_eq_true, not_true_eq_false, isiD.eq_1, isiD.eq_2, isiOne.eq_def, tyBlt.eq_def, Option.map_some, Bool.not_true, Bool.not_false, e _ (.inr (.inr (.inl ⟨b, rfl⟩))), Bool.not_not]
  · simp -implicitDefEqProofs only [bind_ok, bind_ex, fl_ok, fl_ex, seq_nx, seq_rt, seq_ex, q_k, q_v, q_g, q_tup, q_lst, q_bin, q_neg, q_evT, q_not, q_and1, q_and, q_or1, q_or, q_cmp, q_cmp2, q_ite, q_ix, q_sl, q_o0, q_o1, q_call, q_mk, q_bi, q_bm, q_attr, q_isi, q_e0, q_e1, q_e2, k_v, k_of, k_tup, k_tupX, k_lst, k_lstX, k_b1, k_b1X, k_b2, k_b2X, k_neg, k_t, k_tX, k_not, k_notX, k_and, k_andX, k_andT, k_andF, k_or, k_orX, k_orT, k_orF, k_c1, k_c1X, k_c2, k_c2X, k_d1, k_d2, k_d3T, k_d3F, k_d4, k_iT, k_iF, k_iX, k_x1, k_x1X, k_x2, k_x2X, k_s1, k_s2, k_s3, k_o, k_a1, k_a1X, k_a2, k_a2X, k_m1, k_m1X, k_m2, k_m2X, k_bi, k_biX, k_bm1, k_bm1X, k_bm2, k_bm3, k_bm3X, k_at, k_atX, k_is, k_isX, k_e1, k_e1X, k_e2, k_e2X, k_f1, k_f2, q_ss0, q_ss1, k_sq, k_sqR, k_sqX, k_sqB, k_sqC, q_set, k_set, k_setX, k_set2, q_par, k_p1, k_p1X, k_p2, k_p2X, q_sub, k_u1, k_u1X, k_u2, k_u3, k_u4, q_fld, k_w1, k_w1X, k_w2, q_ex, k_ex, k_exX, q_ret, k_rF, k_rT, k_rX, k_rf, q_retN, q_if, k_ifT, k_ifF, k_ifX, q_raise, k_rs, q_aug, k_agA, k_agS, q_pass, q_brk, q_cont, fin_rt, fin_nx, fin_ex, cmpR.eq_def, clsD.eq_def, ixD.eq_def, seqOf.eq_def, bin.eq_def, binI_add, binI_sub, binI_mod, binI_fdiv, binI_mulL, binI_mulR, Bool.and_self, sm_a, sm_b, sm_c, sm_d, sm_e, sm_f, sm_g, sm_h, sm_i, sm_j, sm_k, lg64, lg4096, lg65536, cmp.eq_def, truth.eq_def, biD.eq_def, lenD.eq_def, absD.eq_def, intD.eq_def, minD.eq_def, maxD.eq_def, newL.eq_def, bindT.eq_1, bindT.eq_2, bindT.eq_3, setD.eq_def, isNone.eq_def, List.getElem?_cons_zero, List.getElem?_cons_succ, List.set_cons_zero, List.set_cons_succ, List.length_cons, List.length_nil, at0, at1, at2, at3, if_true, if_false, decide_true, decide_false, and_self, and_true, true_and, Bool.false_eq_true, Nat.reduceAdd, Nat.reduceLT, Nat.reduceLeDiff, Nat.reduceSub, Nat.reduceEqDiff, Int.reduceLT, Int.reduceLE, Int.reduceNeg, Int.reduceToNat, reduceIte, reduceCtorEq, ix3_0, ix3_1, ix3_2, big, Nat.zero_le, ne_eq, not_false_eq_true, not_true_eq_false, isiD.eq_1, isiD.eq_2, isiOne.eq_def, tyBlt.eq_def, Option.map_some, Bool.not_true, Bool.not_false, e _ (.inr (.inr (.inr rfl))), Bool.not_not]
theorem cM (k : Nat) (M : Store) {ws : List Str} {s x p g f z : D} {o : Option D} (hw : WsOk ws) (hp : Pln s) (hs : ∀ es, s = .tup es → ∀ e ∈ es, Elem ws e) : evT (Cj (k + 2)) (.and (.cons (.cmp .isNot (.v 3) (.k (.non))) (.cons (.not (.and (.cons (.isi (.v 3) [.tuple]) (.cons (.bi .all (.cons (.lc false .seq (.cons (.v 3) .nil) (.n 5) .nil (.call 2 7 (.cons (.v 5) .nil) .nil)) .nil)) .nil)))) .nil))) [some x, some p, some g, some s, some f, o] M = .ok (badM ws s) M := by
  by_cases ht : ∃ es, s = .tup es
  · obtain ⟨es, rfl⟩ := ht
    have hL := lcL_map (C := Cj (k + 2)) (tg := .n 5) (f := lcF (Cj (k + 2)) .nil (.call 2 7 (.cons (.v 5) .nil) .nil)) (ρ := [some x, some p, some g, some (.tup es), some f, o]) (M := M) (fun e => .bl (isW ws e)) (xs := es) (acc := []) fun y hy => by
      refine ⟨_, rfl, ?_⟩
      rw [lcF_nil]
      show (ev _ _ [some x, some p, some g, some (.tup es), some f, some y] M).bind _ = _
      simp -implicitDefEqProofs only [bind_ok, bind_ex, fl_ok, fl_ex, seq_nx, seq_rt, seq_ex, q_k, q_v, q_g, q_tup, q_lst, q_bin, q_neg, q_evT, q_not, q_and1, q_and, q_or1, q_or, q_cmp, q_cmp2, q_ite, q_ix, q_sl, q_o0, q_o1, q_call, q_mk, q_bi, q_bm, q_attr, q_isi, q_e0, q_e1, q_e2, k_v, k_of, k_tup, k_tupX, k_lst, k_lstX, k_b1, k_b1X, k_b2, k_b2X, k_neg, k_t, k_tX, k_not, k_notX, k_and, k_andX, k_andT, k_andF, k_or, k_orX, k_orT, k_orF, k_c1, k_c1X, k_c2, k_c2X, k_d1, k_d2, k_d3T, k_d3F, k_d4, k_iT, k_iF, k_iX, k_x1, k_x1X, k_x2, k_x2X, k_s1, k_s2, k_s3, k_o, k_a1, k_a1X, k_a2, k_a2X, k_m1, k_m1X, k_m2, k_m2X, k_bi, k_biX, k_bm1, k_bm1X, k_bm2, k_bm3, k_bm3X, k_at, k_atX, k_is, k_isX, k_e1, k_e1X, k_e2, k_e2X, k_f1, k_f2, q_ss0, q_ss1, k_sq, k_sqR, k_sqX, k_sqB, k_sqC, q_set, k_set, k_setX, k_set2, q_par, k_p1, k_p1X, k_p2, k_p2X, q_sub, k_u1, k_u1X, k_u2, k_u3, k_u4, q_fld, k_w1, k_w1X, k_w2, q_ex, k_ex, k_exX, q_ret, k_rF, k_rT, k_rX, k_rf, q_retN, q_if, k_ifT, k_ifF, k_ifX, q_raise, k_rs, q_aug, k_agA, k_agS, q_pass, q_brk, q_cont, fin_rt, fin_nx, fin_ex, cmpR.eq_def, clsD.eq_def, ixD.eq_def, seqOf.eq_def, bin.eq_def, binI_add, binI_sub, binI_mod, binI_fdiv, binI_mulL, binI_mulR, Bool.and_self, sm_a, sm_b, sm_c, sm_d, sm_e, sm_f, sm_g, sm_h, sm_i, sm_j, sm_k, lg64, lg4096, lg65536, cmp.eq_def, truth.eq_def, biD.eq_def, lenD.eq_def, absD.eq_def, intD.eq_def, minD.eq_def, maxD.eq_def, newL.eq_def, bindT.eq_1, bindT.eq_2, bindT.eq_3, setD.eq_def, isNone.eq_def, List.getElem?_cons_zero, List.getElem?_cons_succ, List.set_cons_zero, List.set_cons_succ, List.length_cons, List.length_nil, at0, at1, at2, at3, if_true, if_false, decide_true, decide_false, and_self, and_true, true_and, Bool.false_eq_true, Nat.reduceAdd, Nat.reduceLT, Nat.reduceLeDiff, Nat.reduceSub, Nat.reduceEqDiff, Int.reduceLT, Int.reduceLE, Int.reduceNeg, Int.reduceToNat, reduceIte, reduceCtorEq, ix3_0, ix3_1, ix3_2, big, Nat.zero_le, ne_eq, not_false_eq_true, not_true_eq_false, isiD.eq_1, isiD.eq_2, isiOne.eq_def, tyBlt.eq_def, Option.map_some, Bool.not_true, Bool.not_false, C_s7, callG.eq_def, sel.eq_1, sel.eq_2, sel.eq_3, sel.eq_4, C_call, List.append_nil, isword_el k M hw (hs es rfl y hy)]
    have e1 : ev (Cj (k + 2)) (.lc false .seq (.cons (.v 3) .nil) (.n 5) .nil (.call 2 7 (.cons (.v 5) .nil) .nil)) [some x, some p, some g, some (.tup es), some f, o] M = _ := lc_eq (ds := [.tup es]) (M1 := M) (by simp -implicitDefEqProofs only [bind_ok, bind_ex, fl_ok, fl_ex, seq_nx, seq_rt, seq_ex, q_k, q_v, q_g, q_tup, q_lst, q_bin, q_neg, q_evT, q_not, q_and1, q_and, q_or1, q_or, q_cmp, q_cmp2, q_ite, q_ix, q_sl, q_o0, q_o1, q_call, q_mk, q_bi, q_bm, q_attr, q_isi, q_e0, q_e1, q_e2, k_v, k_of, k_tup, k_tupX, k_lst, k_lstX, k_b1, k_b1X, k_b2, k_b2X, k_neg, k_t, k_tX, k_not, k_notX, k_and, k_andX, k_andT, k_andF, k_or, k_orX, k_orT, k_orF, k_c1, k_c1X, k_c2, k_c2X, k_d1, k_d2, k_d3T, k_d3F, k_d4, k_iT, k_iF, k_iX, k_x1, k_x1X, k_x2, k_x2X, k_s1, k_s2, k_s3, k_o, k_a1, k_a1X, k_a2, k_a2X, k_m1, k_m1X, k_m2, k_m2X, k_bi, k_biX, k_bm1, k_bm1X, k_bm2, k_bm3, k_bm3X, k_at, k_atX, k_is, k_isX, k_e1, k_e1X, k_e2, k_e2X, k_f1, k_f2, q_ss0, q_ss1, k_sq, k_sqR, k_sqX, k_sqB, k_sqC, q_set, k_set, k_setX, k_set2, q_par, k_p1, k_p1X, k_p2, k_p2X, q_sub, k_u1, k_u1X, k_u2, k_u3, k_u4, q_fld, k_w1, k_w1X, k_w2, q_ex, k_ex, k_exX, q_ret, k_rF, k_rT, k_rX, k_rf, q_retN, q_if, k_ifT, k_ifF, k_ifX, q_raise, k_rs, q_aug, k_agA, k_agS, q_pass, q_brk, q_cont, fin_rt, fin_nx, fin_ex, cmpR.eq_def, clsD.eq_def, ixD.eq_def, seqOf.eq_def, bin.eq_def, binI_add, binI_sub, binI_mod, binI_fdiv, binI_mulL, binI_mulR, Bool.and_self, sm_a, sm_b, sm_c, sm_d, sm_e, sm_f, sm_g, sm_h, sm_i, sm_j, sm_k, lg64, lg4096, lg65536, cmp.eq_def, truth.eq_def, biD.eq_def, lenD.eq_def, absD.eq_def, intD.eq_def, minD.eq_def, maxD.eq_def, newL.eq_def, bindT.eq_1, bindT.eq_2, bindT.eq_3, setD.eq_def, isNone.eq_def, List.getElem?_cons_zero, List.getElem?_cons_succ, List.set_cons_zero, List.set_cons_succ, List.length_cons, List.length_nil, at0, at1, at2, at3, if_true, if_false, decide_true, decide_false, and_self, and_true, true_and, Bool.false_eq_true, Nat.reduceAdd, Nat.reduceLT, Nat.reduceLeDiff, Nat.reduceSub, Nat.reduceEqDiff, Int.reduceLT, Int.reduceLE, Int.reduceNeg, Int.reduceToNat, reduceIte, reduceCtorEq, ix3_0, ix3_1, ix3_2, big, Nat.zero_le, ne_eq, not_false_eq_true, not_true_eq_false, isiD.eq_1, isiD.eq_2, isiOne.eq_def, tyBlt.eq_def, Option.map_some, Bool.not_true, Bool.not_false]) items_tup hL
    have e2 : es.map (fun e => D.bl (isW ws e)) = (es.map (isW ws)).map D.bl := by simp
    have e3 : (es.map (isW ws)).all id = es.all (isW ws) := by simp [List.all_map]
    simp -implicitDefEqProofs only [bind_ok, bind_ex, fl_ok, fl_ex, seq_nx, seq_rt, seq_ex, q_k, q_v, q_g, q_tup, q_lst, q_bin, q_neg, q_evT, q_not, q_and1, q_and, q_or1, q_or, q_cmp, q_cmp2, q_ite, q_ix, q_sl, q_o0, q_o1, q_call, q_mk, q_bi, q_bm, q_attr, q_isi, q_e0, q_e1, q_e2, k_v, k_of, k_tup, k_tupX, k_lst, k_lstX, k_b1, k_b1X, k_b2, k_b2X, k_neg, k_t, k_tX, k_not, k_notX, k_and, k_andX, k_andT, k_andF, k_or, k_orX, k_orT, k_orF, k_c1, k_c1X, k_c2, k_c2X, k_d1, k_d2, k_d3T, k_d3F, k_d4, k_iT, k_iF, k_iX, k_x1, k_x1X, k_x2, k_x2X, k_s1, k_s2, k_s3, k_o, k_a1, k_a1X, k_a2, k_a2X, k_m1, k_m1X, k_m2, k_m2X, k_bi, k_biX, k_bm1, k_bm1X, k_bm2, k_bm3, k_bm3X, k_at, k_atX, k_is, k_isX, k_e1, k_e1X, k_e2, k_e2X, k_f1, k_f2, q_ss0, q_ss1, k_sq, k_sqR, k_sqX, k_sqB, k_sqC, q_set, k_set, k_setX, k_set2, q_par, k_p1, k_p1X, k_p2, k_p2X, q_sub, k_u1, k_u1X, k_u2, k_u3, k_u4, q_fld, k_w1, k_w1X, k_w2, q_ex, k_ex, k_exX, q_ret, k_rF, k_rT, k_rX, k_rf, q_retN, q_if, k_ifT, k_ifF, k_ifX, q_raise, k_rs, q_aug, k_agA, k_agS, q_pass, q_brk, q_cont, fin_rt, fin_nx, fin_ex, cmpR.eq_def, clsD.eq_def, ixD.eq_def, seqOf.eq_def, bin.eq_def, binI_add, binI_sub, binI_mod, binI_fdiv, binI_mulL, binI_mulR, Bool.and_self, sm_a, sm_b, sm_c, sm_d, sm_e, sm_f, sm_g, sm_h, sm_i, sm_j, sm_k, lg64, lg4096, lg65536, cmp.eq_def, truth.eq_def, biD.eq_def, lenD.eq_def, absD.eq_def, intD.eq_def, minD.eq_def, maxD.eq_def, newL.eq_def, bindT.eq_1, bindT.eq_2, bindT.eq_3, setD.eq_def, isNone.eq_def, List.getElem?_cons_zero, List.getElem?_cons_succ, List.set_cons_zero, List.set_cons_succ, List.length_cons, List.length_nil, at0, at1, at2, at3, if_true, if_false, decide_true, decide_false, and_self, and_true, true_and, Bool.false_eq_true, Nat.reduceAdd, Nat.reduceLT, Nat.reduceLeDiff, Nat.reduceSub, Nat.reduceEqDiff, Int.reduceLT, Int.reduceLE, Int.reduceNeg, Int.reduceToNat, reduceIte, reduceCtorEq, ix3_0, ix3_1, ix3_2, big, Nat.zero_le, ne_eq, not_false_eq_true, not_true_eq_false, isiD.eq_1, isiD.eq_2, isiOne.eq_def, tyBlt.eq_def, Option.map_some, Bool.not_true, Bool.not_false, ↓e1, List.nil_append, e2, allD.eq_def, bools_map', e3]
    rfl
  · rcases hp with rfl | ⟨i, rfl⟩ | ⟨b, rfl⟩ | ⟨s, rfl⟩ | ⟨l, rfl⟩ | ⟨l, rfl⟩ <;> first | exact absurd ⟨_, rfl⟩ ht | (simp -implicitDefEqProofs only [bind_ok, bind_ex, fl_ok, fl_ex, seq_nx, seq_rt, seq_ex, q_k, q_v, q_g, q_tup, q_lst, q_bin, q_neg, q_evT, q_not, q_and1, q_and, q_or1, q_or, q_cmp, q_cmp2, q_ite, q_ix, q_sl, q_o0, q_o1, q_call, q_mk, q_bi, q_bm, q_attr, q_isi, q_e0, q_e1, q_e2, k_v, k_of, k_tup, k_tupX, k_lst, k_lstX, k_b1, k_b1X, k_b2, k_b2X, k_neg, k_t, k_tX, k_not, k_notX, k_and, k_andX, k_andT, k_andF, k_or, k_orX, k_orT, k_orF, k_c1, k_c1X, k_c2, k_c2X, k_d1, k_d2, k_d3T, k_d3F, k_d4, k_iT, k_iF, k_iX, k_x1, k_x1X, k_x2, k_x2X, k_s1, k_s2, k_s3, k_o, k_a1, k_a1X, k_a2, k_a2X, k_m1, k_m1X, k_m2, k_m2X, k_bi, k_biX, k_bm1, k_bm1X, k_bm2, k_bm3, k_bm3X, k_at, k_atX, k_is, k_isX, k_e1, k_e1X, k_e2, k_e2X, k_f1, k_f2, q_ss0, q_ss1, k_sq, k_sqR, k_sqX, k_sqB, k_sqC, q_set, k_set, k_setX, k_set2, q_par, k_p1, k_p1X, k_p2, k_p2X, q_sub, k_u1, k_u1X, k_u2, k_u3, k_u4, q_fld, k_w1, k_w1X, k_w2, q_ex, k_ex, k_exX, q_ret, k_rF, k_rT, k_rX, k_rf, q_retN, q_if, k_ifT, k_ifF, k_ifX, q_raise, k_rs, q_aug, k_agA, k_agS, q_pass, q_brk, q_cont, fin_rt, fin_nx, fin_ex, cmpR.eq_def, clsD.eq_def, ixD.eq_def, seqOf.eq_def, bin.eq_def, binI_add, binI_sub, binI_mod, binI_fdiv, binI_mulL, binI_mulR, Bool.and_self, sm_a, sm_b, sm_c, sm_d, sm_e, sm_f, sm_g, sm_h, sm_i, sm_j, sm_k, lg64, lg4096, lg65536, cmp.eq_def, truth.eq_def, biD.eq_def, lenD.eq_def, absD.eq_def, intD.eq_def, minD.eq_def, maxD.eq_def, newL.eq_def, bindT.eq_1, bindT.eq_2, bindT.eq_3, setD.eq_def, isNone.eq_def, List.getElem?_cons_zero, List.getElem?_cons_succ, List.set_cons_zero, List.set_cons_succ, List.length_cons, List.length_nil, at0, at1, at2, at3, if_true, if_false, decide_true, decide_false, and_self, and_true, true_and, Bool.false_eq_true, Nat.reduceAdd, Nat.reduceLT, Nat.reduceLeDiff, Nat.reduceSub, Nat.reduceEqDiff, Int.reduceLT, Int.reduceLE, Int.reduceNeg, Int.reduceToNat, reduceIte, reduceCtorEq, ix3_0, ix3_1, ix3_2, big, Nat.zero_le, ne_eq, not_false_eq_true, not_true_eq_false, isiD.eq_1, isiD.eq_2, isiOne.eq_def, tyBlt.eq_def, Option.map_some, Bool.not_true, Bool.not_false] <;> rfl)
theorem cF (k : Nat) (M : Store) {x p g s f : D} (h : Pln f) {r : Dv.Env} : evT (Cj k) (.not (.isi (.v 4) [.bool])) (some x :: some p :: some g :: some s :: some f :: r) M = .ok (badF f) M := by
  rcases h with rfl | ⟨i, rfl⟩ | ⟨b, rfl⟩ | ⟨s, rfl⟩ | ⟨l, rfl⟩ | ⟨l, rfl⟩ <;> simp -implicitDefEqProofs only [bind_ok, bind_ex, fl_ok, fl_ex, seq_nx, seq_rt, seq_ex, q_k, q_v, q_g, q_tup, q_lst, q_bin, q_neg, q_evT, q_not, q_and1, q_and, q_or1, q_or, q_cmp, q_cmp2, q_ite, q_ix, q_sl, q_o0, q_o1, q_call, q_mk, q_bi, q_bm, q_attr, q_isi, q_e0, q_e1, q_e2, k_v, k_of, k_tup, k_tupX, k_lst, k_lstX, k_b1, k_b1X, k_b2, k_b2X, k_neg, k_t, k_tX, k_not, k_notX, k_and, k_andX, k_andT, k_andF, k_or, k_orX, k_orT, k_orF, k_c1, k_c1X, k_c2, k_c2X, k_d1, k_d2, k_d3T, k_d3F, k_d4, k_iT, k_iF, k_iX, k_x1, k_x1X, k_x2, k_x2X, k_s1, k_s2, k_s3, k_o, k_a1, k_a1X, k_a2, k_a2X, k_m1, k_m1X, k_m2, k_m2X, k_bi, k_biX, k_bm1, k_bm1X, k_bm2, k_bm3, k_bm3X, k_at, k_atX, k_is, k_isX, k_e1, k_e1X, k_e2, k_e2X, k_f1, k_f2, q_ss0, q_ss1, k_sq, k_sqR, k_sqX, k_sqB, k_sqC, q_set, k_set, k_setX, k_set2, q_par, k_p1, k_p1X, k_p2, k_p2X, q_sub, k_u1, k_u1X, k_u2, k_u3, k_u4, q_fld, k_w1, k_w1X, k_w2, q_ex, k_ex, k_exX, q_ret, k_rF, k_rT, k_rX, k_rf, q_retN, q_if, k_ifT, k_ifF, k_ifX, q_raise, k_rs, q_aug, k_agA, k_agS, q_pass, q_brk, q_cont, fin_rt, fin_nx, fin_ex, cmpR.eq_def, clsD.eq_def, ixD.eq_def, seqOf.eq_def, bin.eq_def, binI_add, binI_sub, binI_mod, binI_fdiv, binI_mulL, binI_mulR, Bool.and_self, sm_a, sm_b, sm_c, sm_d, sm_e, sm_f, sm_g, sm_h, sm_i, sm_j, sm_k, lg64, lg4096, lg65536, cmp.eq_def, truth.eq_def, biD.eq_def, lenD.eq_def, absD.eq_def, intD.eq_def, minD.eq_def, maxD.eq_def, newL.eq_def, bindT.eq_1, bindT.eq_2, bindT.eq_3, setD.eq_def, isNone.eq_def, List.getElem?_cons_zero, List.getElem?_cons_succ, List.set_cons_zero, List.set_cons_succ, List.length_cons, List.length_nil, at0, at1, at2, at3, if_true, if_false, decide_true, decide_false, and_self, and_true, true_and, Bool.false_eq_true, Nat.reduceAdd, Nat.reduceLT, Nat.reduceLeDiff, Nat.reduceSub, Nat.reduceEqDiff, Int.reduceLT, Int.reduceLE, Int.reduceNeg, Int.reduceToNat, reduceIte, reduceCtorEq, ix3_0, ix3_1, ix3_2, big, Nat.zero_le, ne_eq, not_false_eq_true, not_true_eq_false, isiD.eq_1, isiD.eq_2, isiOne.eq_def, tyBlt.eq_def, Option.map_some, Bool.not_true, Bool.not_false] <;> rfl
end Law
namespace Law
open PySem Dv
theorem gc_same {M M' : Store} {d : D} (h : M'.length = M.length) : gc M (.ok d M') = .ok d M' := by
  unfold gc
  simp only
  split
  · rw [← h, List.take_length]
  · rfl
theorem gc_sameX {M M' : Store} {x : Exn} (h : M'.length = M.length) : gc M (.ex x M') = .ex x M' := by
  unfold gc
  simp only
  split
  · rw [← h, List.take_length]
  · rfl
theorem C_f4 (j : Nat) : (Cj j).fok 0 4 = true := rfl
theorem C_f1 (j : Nat) : (Cj j).fok 0 1 = true := rfl
theorem C_f3 (j : Nat) : (Cj j).fok 0 3 = true := rfl
theorem C_f2 (j : Nat) : (Cj j).fok 0 2 = true := rfl
theorem C_x2 (j : Nat) : (Cj j).exf 2 = [0] := rfl
def obj (p g s f : D) : D := .obj 0 [4, 1, 3, 2] [p, g, s, f]
theorem init_ok (k : Nat) (M : Store) {ws : List Str} {p g s f : D} (V : Vals4 ws p g s f) : run Z.G (k + 3) 14 [.ref M.length, p, g, s, f] (M ++ [.ins 0 [] []]) = match part ws p g s f with
    | none => .ok .non (M ++ [.ins 0 [4, 1, 3, 2] [p, g, s, f]])
    | some q => .ex ⟨2, [0], [.str q]⟩ (M ++ [.ins 0 [] []]) := by
  rw [run_eq (G := Z.G) (f := 14) (F := ⟨5, 6, b14⟩) rfl ⟨rfl, (by decide : 5 ≤ 6)⟩]
  show fin _ (sxs (Cj (k + 2)) b14 [some (.ref M.length), some p, some g, some s, some f, none] _) = _
  unfold b14 part
  have c1 := cT (k + 1) (M ++ [.ins 0 [] []]) (n := 0) (g := g) (s := s) (f := f) (x := .ref M.length) V.hp (r := [some g, some s, some f, none])
  have c2 := cL (k + 2) (M ++ [.ins 0 [] []]) (x := .ref M.length) (p := p) V.hg (r := [some s, some f, none])
  have c3 := cM k (M ++ [.ins 0 [] []]) (x := .ref M.length) (p := p) (g := g) (f := f) (z := f) (o := none) V.wk V.hs V.hse
  have c4 := cF (k + 2) (M ++ [.ins 0 [] []]) (x := .ref M.length) (p := p) (g := g) (s := s) V.hf (r := [none])
  have g0 : ∀ c, (M ++ [c])[M.length]? = some c := fun c => g1a
  have s0 : ∀ c d, (M ++ [c]).set M.length d = M ++ [d] := fun c d => s1a
  cases h1 : badT p with
  | true =>
    rw [h1] at c1
    simp -implicitDefEqProofs only [bind_ok, bind_ex, fl_ok, fl_ex, seq_nx, seq_rt, seq_ex, q_k, q_v, q_g, q_tup, q_lst, q_bin, q_neg, q_evT, q_not, q_and1, q_and, q_or1, q_or, q_cmp, q_cmp2, q_ite, q_ix, q_sl, q_o0, q_o1, q_call, q_mk, q_bi, q_bm, q_attr, q_isi, q_e0, q_e1, q_e2, k_v, k_of, k_tup, k_tupX, k_lst, k_lstX, k_b1, k_b1X, k_b2, k_b2X, k_neg, k_t, k_tX, k_not, k_notX, k_and, k_andX, k_andT, k_andF, k_or, k_orX, k_orT, k_orF, k_c1, k_c1X, k_c2, k_c2X, k_d1, k_d2, k_d3T, k_d3F, k_d4, k_iT, k_iF, k_iX, k_x1, k_x1X, k_x2, k_x2X, k_s1, k_s2, k_s3, k_o, k_a1, k_a1X, k_a2, k_a2X, k_m1, k_m1X, k_m2, k_m2X, k_bi, k_biX, k_bm1, k_bm1X, k_bm2, k_bm3, k_bm3X, k_at, k_atX, k_is, k_isX, k_e1, k_e1X, k_e2, k_e2X, k_f1, k_f2, q_ss0, q_ss1, k_sq, k_sqR, k_sqX, k_sqB, k_sqC, q_set, k_set, k_setX, k_set2, q_par, k_p1, k_p1X, k_p2, k_p2X, q_sub, k_u1, k_u1X, k_u2, k_u3, k_u4, q_fld, k_w1, k_w1X, k_w2, q_ex, k_ex, k_exX, q_ret, k_rF, k_rT, k_rX, k_rf, q_retN, q_if, k_ifT, k_ifF, k_ifX, q_raise, k_rs, q_aug, k_agA, k_agS, q_pass, q_brk, q_cont, fin_rt, fin_nx, fin_ex, cmpR.eq_def, clsD.eq_def, ixD.eq_def, seqOf.eq_def, bin.eq_def, binI_add, binI_sub, binI_mod, binI_fdiv, binI_mulL, binI_mulR, Bool.and_self, sm_a, sm_b, sm_c, sm_d, sm_e, sm_f, sm_g, sm_h, sm_i, sm_j, sm_k, lg64, lg4096, lg65536, cmp.eq_def, truth.eq_def, biD.eq_def, lenD.eq_def, absD.eq_def, intD.eq_def, minD.eq_def, maxD.eq_def, newL.eq_def, bindT.eq_1, bindT.eq_2, bindT.eq_3, setD.eq_def, isNone.eq_def, List.getElem?_cons_zero, List.getElem?_cons_succ, List.set_cons_zero, List.set_cons_succ, List.length_cons, List.length_nil, at0, at1, at2, at3, if_true, if_false, decide_true, decide_false, and_self, and_true, true_and, Bool.false_eq_true, Nat.reduceAdd, Nat.reduceLT, Nat.reduceLeDiff, Nat.reduceSub, Nat.reduceEqDiff, Int.reduceLT, Int.reduceLE, Int.reduceNeg, Int.reduceToNat, reduceIte, reduceCtorEq, ix3_0, ix3_1, ix3_2, big, Nat.zero_le, ne_eq, not_false_eq_true, not_true_eq_false, isiD.eq_1, isiD.eq_2, isiOne.eq_def, tyBlt.eq_def, Option.map_some, Bool.not_true, Bool.not_false, ↓c1, C_x2]
    exact gc_sameX rfl
  | false =>
    rw [h1] at c1
    cases h2 : badL g with
    | true =>
      rw [h2] at c2
      simp -implicitDefEqProofs only [bind_ok, bind_ex, fl_ok, fl_ex, seq_nx, seq_rt, seq_ex, q_k, q_v, q_g, q_tup, q_lst, q_bin, q_neg, q_evT, q_not, q_and1, q_and, q_or1, q_or, q_cmp, q_cmp2, q_ite, q_ix, q_sl, q_o0, q_o1, q_call, q_mk, q_bi, q_bm, q_attr, q_isi, q_e0, q_e1, q_e2, k_v, k_of, k_tup, k_tupX, k_lst, k_lstX, k_b1, k_b1X, k_b2, k_b2X, k_neg, k_t, k_tX, k_not, k_notX, k_and, k_andX, k_andT, k_andF, k_or, k_orX, k_orT, k_orF, k_c1, k_c1X, k_c2, k_c2X, k_d1, k_d2, k_d3T, k_d3F, k_d4, k_iT, k_iF, k_iX, k_x1, k_x1X, k_x2, k_x2X, k_s1, k_s2, k_s3, k_o, k_a1, k_a1X, k_a2, k_a2X, k_m1, k_m1X, k_m2, k_m2X, k_bi, k_biX, k_bm1, k_bm1X, k_bm2, k_bm3, k_bm3X, k_at, k_atX, k_is, k_isX, k_e1, k_e1X, k_e2, k_e2X, k_f1, k_f2, q_ss0, q_ss1, k_sq, k_sqR, k_sqX, k_sqB, k_sqC, q_set, k_set, k_setX, k_set2, q_par, k_p1, k_p1X, k_p2, k_p2X, q_sub, k_u1, k_u1X, k_u2, k_u3, k_u4, q_fld, k_w1, k_w1X, k_w2, q_ex, k_ex, k_exX, q_ret, k_rF, k_rT, k_rX, k_rf, q_retN, q_if, k_ifT, k_ifF, k_ifX, q_raise, k_rs, q_aug, k_agA, k_agS, q_pass, q_brk, q_cont, fin_rt, fin_nx, fin_ex, cmpR.eq_def, clsD.eq_def, ixD.eq_def, seqOf.eq_def, bin.eq_def, binI_add, binI_sub, binI_mod, binI_fdiv, binI_mulL, binI_mulR, Bool.and_self, sm_a, sm_b, sm_c, sm_d, sm_e, sm_f, sm_g, sm_h, sm_i, sm_j, sm_k, lg64, lg4096, lg65536, cmp.eq_def, truth.eq_def, biD.eq_def, lenD.eq_def, absD.eq_def, intD.eq_def, minD.eq_def, maxD.eq_def, newL.eq_def, bindT.eq_1, bindT.eq_2, bindT.eq_3, setD.eq_def, isNone.eq_def, List.getElem?_cons_zero, List.getElem?_cons_succ, List.set_cons_zero, List.set_cons_succ, List.length_cons, List.length_nil, at0, at1, at2, at3, if_true, if_false, decide_true, decide_false, and_self, and_true, true_and, Bool.false_eq_true, Nat.reduceAdd, Nat.reduceLT, Nat.reduceLeDiff, Nat.reduceSub, Nat.reduceEqDiff, Int.reduceLT, Int.reduceLE, Int.reduceNeg, Int.reduceToNat, reduceIte, reduceCtorEq, ix3_0, ix3_1, ix3_2, big, Nat.zero_le, ne_eq, not_false_eq_true, not_true_eq_false, isiD.eq_1, isiD.eq_2, isiOne.eq_def, tyBlt.eq_def, Option.map_some, Bool.not_true, Bool.not_false, ↓c1, ↓c2, C_x2]
      exact gc_sameX rfl
    | false =>
      rw [h2] at c2
      cases h3 : badM ws s with
      | true =>
        rw [h3] at c3
        simp -implicitDefEqProofs only [bind_ok, bind_ex, fl_ok, fl_ex, seq_nx, seq_rt, seq_ex, q_k, q_v, q_g, q_tup, q_lst, q_bin, q_neg, q_evT, q_not, q_and1, q_and, q_or1, q_or, q_cmp, q_cmp2, q_ite, q_ix, q_sl, q_o0, q_o1, q_call, q_mk, q_bi, q_bm, q_attr, q_isi, q_e0, q_e1, q_e2, k_v, k_of, k_tup, k_tupX, k_lst, k_lstX, k_b1, k_b1X, k_b2, k_b2X, k_neg, k_t, k_tX, k_not, k_notX, k_and, k_andX, k_andT, k_andF, k_or, k_orX, k_orT, k_orF, k_c1, k_c1X, k_c2, k_c2X, k_d1, k_d2, k_d3T, k_d3F, k_d4, k_iT, k_iF, k_iX, k_x1, k_x1X, k_x2, k_x2X, k_s1, k_s2, k_s3, k_o, k_a1, k_a1X, k_a2, k_a2X, k_m1, k_m1X, k_m2, k_m2X, k_bi, k_biX, k_bm1, k_bm1X, k_bm2, k_bm3, k_bm3X, k_at, k_atX, k_is, k_isX, k_e1, k_e1X, k_e2, k_e2X, k_f1, k_f2, q_ss0, q_ss1, k_sq, k_sqR, k_sqX, k_sqB, k_sqC, q_set, k_set, k_setX, k_set2, q_par, k_p1, k_p1X, k_p2, k_p2X, q_sub, k_u1, k_u1X, k_u2, k_u3, k_u4, q_fld, k_w1, k_w1X, k_w2, q_ex, k_ex, k_exX, q_ret, k_rF, k_rT, k_rX, k_rf, q_retN, q_if, k_ifT, k_ifF, k_ifX, q_raise, k_rs, q_aug, k_agA, k_agS, q_pass, q_brk, q_cont, fin_rt, fin_nx, fin_ex, cmpR.eq_def, clsD.eq_def, ixD.eq_def, seqOf.eq_def, bin.eq_def, binI_add, binI_sub, binI_mod, binI_fdiv, binI_mulL, binI_mulR, Bool.and_self, sm_a, sm_b, sm_c, sm_d, sm_e, sm_f, sm_g, sm_h, sm_i, sm_j, sm_k, lg64, lg4096, lg65536, cmp.eq_def, truth.eq_def, biD.eq_def, lenD.eq_def, absD.eq_def, intD.eq_def, minD.eq_def, maxD.eq_def, newL.eq_def, bindT.eq_1, bindT.eq_2, bindT.eq_3, setD.eq_def, isNone.eq_def, List.getElem?_cons_zero, List.getElem?_cons_succ, List.set_cons_zero, List.set_cons_succ, List.length_cons, List.length_nil, at0, at1, at2, at3, if_true, if_false, decide_true, decide_false, and_self, and_true, true_and, Bool.false_eq_true, Nat.reduceAdd, Nat.reduceLT, Nat.reduceLeDiff, Nat.reduceSub, Nat.reduceEqDiff, Int.reduceLT, Int.reduceLE, Int.reduceNeg, Int.reduceToNat, reduceIte, reduceCtorEq, ix3_0, ix3_1, ix3_2, big, Nat.zero_le, ne_eq, not_false_eq_true, not_true_eq_false, isiD.eq_1, isiD.eq_2, isiOne.eq_def, tyBlt.eq_def, Option.map_some, Bool.not_true, Bool.not_false, ↓c1, ↓c2, ↓c3, C_x2]
        exact gc_sameX rfl
      | false =>
        rw [h3] at c3
        cases h4 : badF f with
        | true =>
          rw [h4] at c4
          simp -implicitDefEqProofs only [bind_ok, bind_ex, fl_ok, fl_ex, seq_nx, seq_rt, seq_ex, q_k, q_v, q_g, q_tup, q_lst, q_bin, q_neg, q_evT, q_not, q_and1, q_and, q_or1, q_or, q_cmp, q_cmp2, q_ite, q_ix, q_sl, q_o0, q_o1, q_call, q_mk, q_bi, q_bm, q_attr, q_isi, q_e0, q_e1, q_e2, k_v, k_of, k_tup, k_tupX, k_lst, k_lstX, k_b1, k_b1X, k_b2, k_b2X, k_neg, k_t, k_tX, k_not, k_notX, k_and, k_andX, k_andT, k_andF, k_or, k_orX, k_orT, k_orF, k_c1, k_c1X, k_c2, k_c2X, k_d1, k_d2, k_d3T, k_d3F, k_d4, k_iT, k_iF, k_iX, k_x1, k_x1X, k_x2, k_x2X, k_s1, k_s2, k_s3, k_o, k_a1, k_a1X, k_a2, k_a2X, k_m1, k_m1X, k_m2, k_m2X, k_bi, k_biX, k_bm1, k_bm1X, k_bm2, k_bm3, k_bm3X, k_at, k_atX, k_is, k_isX, k_e1, k_e1X, k_e2, k_e2X, k_f1, k_f2, q_ss0, q_ss1, k_sq, k_sqR, k_sqX, k_sqB, k_sqC, q_set, k_set, k_setX, k_set2, q_par, k_p1, k_p1X, k_p2, k_p2X, q_sub, k_u1, k_u1X, k_u2, k_u3, k_u4, q_fld, k_w1, k_w1X, k_w2, q_ex, k_ex, k_exX, q_ret, k_rF, k_rT, k_rX, k_rf, q_retN, q_if, k_ifT, k_ifF, k_ifX, q_raise, k_rs, q_aug, k_agA, k_agS, q_pass, q_brk, q_cont, fin_rt, fin_nx, fin_ex, cmpR.eq_def, clsD.eq_def, ixD.eq_def, seqOf.eq_def, bin.eq_def, binI_add, binI_sub, binI_mod, binI_fdiv, binI_mulL, binI_mulR, Bool.and_self, sm_a, sm_b, sm_c, sm_d, sm_e, sm_f, sm_g, sm_h, sm_i, sm_j, sm_k, lg64, lg4096, lg65536, cmp.eq_def, truth.eq_def, biD.eq_def, lenD.eq_def, absD.eq_def, intD.eq_def, minD.eq_def, maxD.eq_def, newL.eq_def, bindT.eq_1, bindT.eq_2, bindT.eq_3, setD.eq_def, isNone.eq_def, List.getElem?_cons_zero, List.getElem?_cons_succ, List.set_cons_zero, List.set_cons_succ, List.length_cons, List.length_nil, at0, at1, at2, at3, if_true, if_false, decide_true, decide_false, and_self, and_true, true_and, Bool.false_eq_true, Nat.reduceAdd, Nat.reduceLT, Nat.reduceLeDiff, Nat.reduceSub, Nat.reduceEqDiff, Int.reduceLT, Int.reduceLE, Int.reduceNeg, Int.reduceToNat, reduceIte, reduceCtorEq, ix3_0, ix3_1, ix3_2, big, Nat.zero_le, ne_eq, not_false_eq_true, not_true_eq_false, isiD.eq_1, isiD.eq_2, isiOne.eq_def, tyBlt.eq_def, Option.map_some, Bool.not_true, Bool.not_false, ↓c1, ↓c2, ↓c3, ↓c4, C_x2]
          exact gc_sameX rfl
        | false =>
          rw [h4] at c4
          simp -implicitDefEqProofs only [bind_ok, bind_ex, fl_ok, fl_ex, seq_nx, seq_rt, seq_ex, q_k, q_v, q_g, q_tup, q_lst, q_bin, q_neg, q_evT, q_not, q_and1, q_and, q_or1, q_or, q_cmp, q_cmp2, q_ite, q_ix, q_sl, q_o0, q_o1, q_call, q_mk, q_bi, q_bm, q_attr, q_isi, q_e0, q_e1, q_e2, k_v, k_of, k_tup, k_tupX, k_lst, k_lstX, k_b1, k_b1X, k_b2, k_b2X, k_neg, k_t, k_tX, k_not, k_notX, k_and, k_andX, k_andT, k_andF, k_or, k_orX, k_orT, k_orF, k_c1, k_c1X, k_c2, k_c2X, k_d1, k_d2, k_d3T, k_d3F, k_d4, k_iT, k_iF, k_iX, k_x1, k_x1X, k_x2, k_x2X, k_s1, k_s2, k_s3, k_o, k_a1, k_a1X, k_a2, k_a2X, k_m1, k_m1X, k_m2, k_m2X, k_bi, k_biX, k_bm1, k_bm1X, k_bm2, k_bm3, k_bm3X, k_at, k_atX, k_is, k_isX, k_e1, k_e1X, k_e2, k_e2X, k_f1, k_f2, q_ss0, q_ss1, k_sq, k_sqR, k_sqX, k_sqB, k_sqC, q_set, k_set, k_setX, k_set2, q_par, k_p1, k_p1X, k_p2, k_p2X, q_sub, k_u1, k_u1X, k_u2, k_u3, k_u4, q_fld, k_w1, k_w1X, k_w2, q_ex, k_ex, k_exX, q_ret, k_rF, k_rT, k_rX, k_rf, q_retN, q_if, k_ifT, k_ifF, k_ifX, q_raise, k_rs, q_aug, k_agA, k_agS, q_pass, q_brk, q_cont, fin_rt, fin_nx, fin_ex, cmpR.eq_def, clsD.eq_def, ixD.eq_def, seqOf.eq_def, bin.eq_def, binI_add, binI_sub, binI_mod, binI_fdiv, binI_mulL, binI_mulR, Bool.and_self, sm_a, sm_b, sm_c, sm_d, sm_e, sm_f, sm_g, sm_h, sm_i, sm_j, sm_k, lg64, lg4096, lg65536, cmp.eq_def, truth.eq_def, biD.eq_def, lenD.eq_def, absD.eq_def, intD.eq_def, minD.eq_def, maxD.eq_def, newL.eq_def, bindT.eq_1, bindT.eq_2, bindT.eq_3, setD.eq_def, isNone.eq_def, List.getElem?_cons_zero, List.getElem?_cons_succ, List.set_cons_zero, List.set_cons_succ, List.length_cons, List.length_nil, at0, at1, at2, at3, if_true, if_false, decide_true, decide_false, and_self, and_true, true_and, Bool.false_eq_true, Nat.reduceAdd, Nat.reduceLT, Nat.reduceLeDiff, Nat.reduceSub, Nat.reduceEqDiff, Int.reduceLT, Int.reduceLE, Int.reduceNeg, Int.reduceToNat, reduceIte, reduceCtorEq, ix3_0, ix3_1, ix3_2, big, Nat.zero_le, ne_eq, not_false_eq_true, not_true_eq_false, isiD.eq_1, isiD.eq_2, isiOne.eq_def, tyBlt.eq_def, Option.map_some, Bool.not_true, Bool.not_false, ↓c1, ↓c2, ↓c3, ↓c4, fldD.eq_def, g0, s0, C_f4, C_f1, C_f3, C_f2, put.eq_1, put.eq_2]
          exact gc_same (by simp)
/-! ### made -/
theorem C_ini (j : Nat) : (Cj j).ini 0 = some 14 := rfl
theorem C_frz (j : Nat) : (Cj j).frz 0 = true := rfl
def VPu (p g s f : D) : Prop := D.pures [p, g, s, f] = true
theorem mk_ok (k : Nat) (M : Store) {ws : List Str} {p g s f : D} (V : Vals4 ws p g s f) (u : VPu p g s f) {ds vs : List D} {sh : Nat} (hsel : sel (.ref M.length :: ds) ((Cj (k + 3)).shp sh).sl = some [.ref M.length, p, g, s, f]) : make (Cj (k + 3)) 0 sh ds M = match part ws p g s f with
    | none => .ok (obj p g s f) M
    | some q => .ex ⟨2, [0], [.str q]⟩ M := by
  unfold make
  rw [C_ini]
  simp only [callG, hsel, C_call, init_ok k M V]
  cases part ws p g s f with
  | none =>
    simp only [C_frz, if_true]
    have g0 : ∀ c, (M ++ [c])[M.length]? = some c := fun c => g1a
    have s0 : ∀ c d, (M ++ [c]).set M.length d = M ++ [d] := fun c d => s1a
    simp only [freeze, g0, s0]
    exact gc_ok gcOk_rfl rfl (D.unds_pure _ u)
  | some q => exact gc_ex (M' := M) (T := [.ins 0 [] []]) gcOk_rfl rfl rfl
theorem C_xok2 (j : Nat) : (Cj j).xok 2 = true := rfl
theorem C_sub22 (j : Nat) : (Cj j).sub 2 2 = true := rfl
theorem C_exk (j : Nat) : (Cj j).cold.exk 2 0 = true := rfl
theorem hx_ok' (j : Nat) (M : Store) {q : Str} {p g s f : D} : hx (Cj j) (.cons 2 (some 4) (.cons (.ret false (.attr (.v 4) 0)) .nil) (.cons 1 none (.cons (.ret false (.k (.str "other"))) .nil) .nil)) ⟨2, [0], [.str q]⟩ [some p, some g, some s, some f, none] M = .rt (.str q) M := by
  rw [hx]
  simp only [C_xok2, C_sub22, Bool.and_self, if_true]
  have e : sxs (Cj j).cold (.cons (.ret false (.attr (.v 4) 0)) .nil) (inX [some p, some g, some s, some f, none] (some 4) ⟨2, [0], [.str q]⟩) M = .rt (.str q) M := by
    show sxs (Cj j).cold (.cons (.ret false (.attr (.v 4) 0)) .nil) [some p, some g, some s, some f, some (.exn 2 [0] [.str q])] M = _
    simp -implicitDefEqProofs only [bind_ok, bind_ex, fl_ok, fl_ex, seq_nx, seq_rt, seq_ex, q_k, q_v, q_g, q_tup, q_lst, q_bin, q_neg, q_evT, q_not, q_and1, q_and, q_or1, q_or, q_cmp, q_cmp2, q_ite, q_ix, q_sl, q_o0, q_o1, q_call, q_mk, q_bi, q_bm, q_attr, q_isi, q_e0, q_e1, q_e2, k_v, k_of, k_tup, k_tupX, k_lst, k_lstX, k_b1, k_b1X, k_b2, k_b2X, k_neg, k_t, k_tX, k_not, k_notX, k_and, k_andX, k_andT, k_andF, k_or, k_orX, k_orT, k_orF, k_c1, k_c1X, k_c2, k_c2X, k_d1, k_d2, k_d3T, k_d3F, k_d4, k_iT, k_iF, k_iX, k_x1, k_x1X, k_x2, k_x2X, k_s1, k_s2, k_s3, k_o, k_a1, k_a1X, k_a2, k_a2X, k_m1, k_m1X, k_m2, k_m2X, k_bi, k_biX, k_bm1, k_bm1X, k_bm2, k_bm3, k_bm3X, k_at, k_atX, k_is, k_isX, k_e1, k_e1X, k_e2, k_e2X, k_f1, k_f2, q_ss0, q_ss1, k_sq, k_sqR, k_sqX, k_sqB, k_sqC, q_set, k_set, k_setX, k_set2, q_par, k_p1, k_p1X, k_p2, k_p2X, q_sub, k_u1, k_u1X, k_u2, k_u3, k_u4, q_fld, k_w1, k_w1X, k_w2, q_ex, k_ex, k_exX, q_ret, k_rF, k_rT, k_rX, k_rf, q_retN, q_if, k_ifT, k_ifF, k_ifX, q_raise, k_rs, q_aug, k_agA, k_agS, q_pass, q_brk, q_cont, fin_rt, fin_nx, fin_ex, cmpR.eq_def, clsD.eq_def, ixD.eq_def, seqOf.eq_def, bin.eq_def, binI_add, binI_sub, binI_mod, binI_fdiv, binI_mulL, binI_mulR, Bool.and_self, sm_a, sm_b, sm_c, sm_d, sm_e, sm_f, sm_g, sm_h, sm_i, sm_j, sm_k, lg64, lg4096, lg65536, cmp.eq_def, truth.eq_def, biD.eq_def, lenD.eq_def, absD.eq_def, intD.eq_def, minD.eq_def, maxD.eq_def, newL.eq_def, bindT.eq_1, bindT.eq_2, bindT.eq_3, setD.eq_def, isNone.eq_def, List.getElem?_cons_zero, List.getElem?_cons_succ, List.set_cons_zero, List.set_cons_succ, List.length_cons, List.length_nil, at0, at1, at2, at3, if_true, if_false, decide_true, decide_false, and_self, and_true, true_and, Bool.false_eq_true, Nat.reduceAdd, Nat.reduceLT, Nat.reduceLeDiff, Nat.reduceSub, Nat.reduceEqDiff, Int.reduceLT, Int.reduceLE, Int.reduceNeg, Int.reduceToNat, reduceIte, reduceCtorEq, ix3_0, ix3_1, ix3_2, big, Nat.zero_le, ne_eq, not_false_eq_true, not_true_eq_false, isiD.eq_1, isiD.eq_2, isiOne.eq_def, tyBlt.eq_def, Option.map_some, Bool.not_true, Bool.not_false, attrD.eq_def, C_exk, look.eq_1, look.eq_2]
  rw [e]
  simp only [outX, D.nox, stX_rfl M fun _ _ => trivial, Bool.and_self, if_true]
theorem cmpR_is {C : Cfg} {x : D} {M : Store} : cmpR C .is_ x .non M = .ok (.bl (isNone x)) M := by
  unfold cmpR
  cases clsD M x <;> rfl
theorem geq {C : Cfg} {g : D} (M : Store) (h : PGz g) : cmpR C .eq g (.str "equal") M = .ok (.bl (eqDD g (.str "equal"))) M := by
  have hq : (D.str (Str.ofString "equal")).okd = true := by decide +kernel
  have e : ∀ x : D, x.okd = true → x.dep ≤ 64 → eqD x (.str "equal") = some (eqDD x (.str "equal")) := fun x h1 h2 => eqD_ok h1 hq h2 (Nat.zero_le _)
  rcases h with ⟨s, rfl, hs⟩ | rfl | ⟨b, rfl⟩ | rfl
  · simp -implicitDefEqProofs only [bind_ok, bind_ex, fl_ok, fl_ex, seq_nx, seq_rt, seq_ex, q_k, q_v, q_g, q_tup, q_lst, q_bin, q_neg, q_evT, q_not, q_and1, q_and, q_or1, q_or, q_cmp, q_cmp2, q_ite, q_ix, q_sl, q_o0, q_o1, q_call, q_mk, q_bi, q_bm, q_attr, q_isi, q_e0, q_e1, q_e2, k_v, k_of, k_tup, k_tupX, k_lst, k_lstX, k_b1, k_b1X, k_b2, k_b2X, k_neg, k_t, k_tX, k_not, k_notX, k_and, k_andX, k_andT, k_andF, k_or, k_orX, k_orT, k_orF, k_c1, k_c1X, k_c2, k_c2X, k_d1, k_d2, k_d3T, k_d3F, k_d4, k_iT, k_iF, k_iX, k_x1, k_x1X, k_x2, k_x2X, k_s1, k_s2, k_s3, k_o, k_a1, k_a1X, k_a2, k_a2X, k_m1, k_m1X, k_m2, k_m2X, k_bi, k_biX, k_bm1, k_bm1X, k_bm2, k_bm3, k_bm3X, k_at, k_atX, k_is, k_isX, k_e1, k_e1X, k_e2, k_e2X, k_f1, k_f2, q_ss0, q_ss1, k_sq, k_sqR, k_sqX, k_sqB, k_sqC, q_set, k_set, k_setX, k_set2, q_par, k_p1, k_p1X, k_p2, k_p2X, q_sub, k_u1, k_u1X, k_u2, k_u3, k_u4, q_fld, k_w1, k_w1X, k_w2, q_ex, k_ex, k_exX, q_ret, k_rF, k_rT, k_rX, k_rf, q_retN, q_if, k_ifT, k_ifF, k_ifX, q_raise, k_rs, q_aug, k_agA, k_agS, q_pass, q_brk, q_cont, fin_rt, fin_nx, fin_ex, cmpR.eq_def, clsD.eq_def, ixD.eq_def, seqOf.eq_def, bin.eq_def, binI_add, binI_sub, binI_mod, binI_fdiv, binI_mulL, binI_mulR, Bool.and_self, sm_a, sm_b, sm_c, sm_d, sm_e, sm_f, sm_g, sm_h, sm_i, sm_j, sm_k, lg64, lg4096, lg65536, cmp.eq_def, truth.eq_def, biD.eq_def, lenD.eq_def, absD.eq_def, intD.eq_def, minD.eq_def, maxD.eq_def, newL.eq_def, bindT.eq_1, bindT.eq_2, bindT.eq_3, setD.eq_def, isNone.eq_def, List.getElem?_cons_zero, List.getElem?_cons_succ, List.set_cons_zero, List.set_cons_succ, List.length_cons, List.length_nil, at0, at1, at2, at3, if_true, if_false, decide_true, decide_false, and_self, and_true, true_and, Bool.false_eq_true, Nat.reduceAdd, Nat.reduceLT, Nat.reduceLeDiff, Nat.reduceSub, Nat.reduceEqDiff, Int.reduceLT, Int.reduceLE, Int.reduceNeg, Int.reduceToNat, reduceIte, reduceCtorEq, ix3_0, ix3_1, ix3_2, big, Nat.zero_le, ne_eq, not_false_eq_true, not_true_eq_false, isiD.eq_1, isiD.eq_2, isiOne.eq_def, tyBlt.eq_def, Option.map_some, Bool.not_true, Bool.not_false, D.see, e (.str s) hs (Nat.zero_le _)]
  · simp -implicitDefEqProofs only [bind_ok, bind_ex, fl_ok, fl_ex, seq_nx, seq_rt, seq_ex, q_k, q_v, q_g, q_tup, q_lst, q_bin, q_neg, q_evT, q_not, q_and1, q_and, q_or1, q_or, q_cmp, q_cmp2, q_ite, q_ix, q_sl, q_o0, q_o1, q_call, q_mk, q_bi, q_bm, q_attr, q_isi, q_e0, q_e1, q_e2, k_v, k_of, k_tup, k_tupX, k_lst, k_lstX, k_b1, k_b1X, k_b2, k_b2X, k_neg, k_t, k_tX, k_not, k_notX, k_and, k_andX, k_andT, k_andF, k_or, k_orX, k_orT, k_orF, k_c1, k_c1X, k_c2, k_c2X, k_d1, k_d2, k_d3T, k_d3F, k_d4, k_iT, k_iF, k_iX, k_x1, k_x1X, k_x2, k_x2X, k_s1, k_s2, k_s3, k_o, k_a1, k_a1X, k_a2, k_a2X, k_m1, k_m1X, k_m2, k_m2X, k_bi, k_biX, k_bm1, k_bm1X, k_bm2, k_bm3, k_bm3X, k_at, k_atX, k_is, k_isX, k_e1, k_e1X, k_e2, k_e2X, k_f1, k_f2, q_ss0, q_ss1, k_sq, k_sqR, k_sqX, k_sqB, k_sqC, q_set, k_set, k_setX, k_set2, q_par, k_p1, k_p1X, k_p2, k_p2X, q_sub, k_u1, k_u1X, k_u2, k_u3, k_u4, q_fld, k_w1, k_w1X, k_w2, q_ex, k_ex, k_exX, q_ret, k_rF, k_rT, k_rX, k_rf, q_retN, q_if, k_ifT, k_ifF, k_ifX, q_raise, k_rs, q_aug, k_agA, k_agS, q_pass, q_brk, q_cont, fin_rt, fin_nx, fin_ex, cmpR.eq_def, clsD.eq_def, ixD.eq_def, seqOf.eq_def, bin.eq_def, binI_add, binI_sub, binI_mod, binI_fdiv, binI_mulL, binI_mulR, Bool.and_self, sm_a, sm_b, sm_c, sm_d, sm_e, sm_f, sm_g, sm_h, sm_i, sm_j, sm_k, lg64, lg4096, lg65536, cmp.eq_def, truth.eq_def, biD.eq_def, lenD.eq_def, absD.eq_def, intD.eq_def, minD.eq_def, maxD.eq_def, newL.eq_def, bindT.eq_1, bindT.eq_2, bindT.eq_3, setD.eq_def, isNone.eq_def, List.getElem?_cons_zero, List.getElem?_cons_succ, List.set_cons_zero, List.set_cons_succ, List.length_cons, List.length_nil, at0, at1, at2, at3, if_true, if_false, decide_true, decide_false, and_self, and_true, true_and, Bool.false_eq_true, Nat.reduceAdd, Nat.reduceLT, Nat.reduceLeDiff, Nat.reduceSub, Nat.reduceEqDiff, Int.reduceLT, Int.reduceLE, Int.reduceNeg, Int.reduceToNat, reduceIte, reduceCtorEq, ix3_0, ix3_1, ix3_2, big, Nat.zero_le, ne_eq, not_false_eq_true, not_true_eq_false, isiD.eq_1, isiD.eq_2, isiOne.eq_def, tyBlt.eq_def, Option.map_some, Bool.not_true, Bool.not_false, D.see, e .non rfl (Nat.zero_le _)]
  · simp -implicitDefEqProofs only [bind_ok, bind_ex, fl_ok, fl_ex, seq_nx, seq_rt, seq_ex, q_k, q_v, q_g, q_tup, q_lst, q_bin, q_neg, q_evT, q_not, q_and1, q_and, q_or1, q_or, q_cmp, q_cmp2, q_ite, q_ix, q_sl, q_o0, q_o1, q_call, q_mk, q_bi, q_bm, q_attr, q_isi, q_e0, q_e1, q_e2, k_v, k_of, k_tup, k_tupX, k_lst, k_lstX, k_b1, k_b1X, k_b2, k_b2X, k_neg, k_t, k_tX, k_not, k_notX, k_and, k_andX, k_andT, k_andF, k_or, k_orX, k_orT, k_orF, k_c1, k_c1X, k_c2, k_c2X, k_d1, k_d2, k_d3T, k_d3F, k_d4, k_iT, k_iF, k_iX, k_x1, k_x1X, k_x2, k_x2X, k_s1, k_s2, k_s3, k_o, k_a1, k_a1X, k_a2, k_a2X, k_m1, k_m1X, k_m2, k_m2X, k_bi, k_biX, k_bm1, k_bm1X, k_bm2, k_bm3, k_bm3X, k_at, k_atX, k_is, k_isX, k_e1, k_e1X, k_e2, k_e2X, k_f1, k_f2, q_ss0, q_ss1, k_sq, k_sqR, k_sqX, k_sqB, k_sqC, q_set, k_set, k_setX, k_set2, q_par, k_p1, k_p1X, k_p2, k_p2X, q_sub, k_u1, k_u1X, k_u2, k_u3, k_u4, q_fld, k_w1, k_w1X, k_w2, q_ex, k_ex, k_exX, q_ret, k_rF, k_rT, k_rX, k_rf, q_retN, q_if, k_ifT, k_ifF, k_ifX, q_raise, k_rs, q_aug, k_agA, k_agS, q_pass, q_brk, q_cont, fin_rt, fin_nx, fin_ex, cmpR.eq_def, clsD.eq_def, ixD.eq_def, seqOf.eq_def, bin.eq_def, binI_add, binI_sub, binI_mod, binI_fdiv, binI_mulL, binI_mulR, Bool.and_self, sm_a, sm_b, sm_c, sm_d, sm_e, sm_f, sm_g, sm_h, sm_i, sm_j, sm_k, lg64, lg4096, lg65536, cmp.eq_def, truth.eq_def, biD.eq_def, lenD.eq_def, absD.eq_def, intD.eq_def, minD.eq_def, maxD.eq_def, newL.eq_def, bindT.eq_1, bindT.eq_2, bindT.eq_3, setD.eq_def, isNone.eq_def, List.getElem?_cons_zero, List.getElem?_cons_succ, List.set_cons_zero, List.set_cons_succ, List.length_cons, List.length_nil, at0, at1, at2, at3, if_true, if_false, decide_true, decide_false, and_self, and_true, true_and, Bool.false_eq_true, Nat.reduceAdd, Nat.reduceLT, Nat.reduceLeDiff, Nat.reduceSub, Nat.reduceEqDiff, Int.reduceLT, Int.reduceLE, Int.reduceNeg, Int.reduceToNat, reduceIte, reduceCtorEq, ix3_0, ix3_1, ix3_2, big, Nat.zero_le, ne_eq, not_false_eq_true, not_true_eq_false, isiD.eq_1, isiD.eq_2, isiOne.eq_def, tyBlt.eq_def, Option.map_some, Bool.not_true, Bool.not_false, D.see, e (.bl b) rfl (Nat.zero_le _)]
  · simp -implicitDefEqProofs only [bind_ok, bind_ex, fl_ok, fl_ex, seq_nx, seq_rt, seq_ex, q_k, q_v, q_g, q_tup, q_lst, q_bin, q_neg, q_evT, q_not, q_and1, q_and, q_or1, q_or, q_cmp, q_cmp2, q_ite, q_ix, q_sl, q_o0, q_o1, q_call, q_mk, q_bi, q_bm, q_attr, q_isi, q_e0, q_e1, q_e2, k_v, k_of, k_tup, k_tupX, k_lst, k_lstX, k_b1, k_b1X, k_b2, k_b2X, k_neg, k_t, k_tX, k_not, k_notX, k_and, k_andX, k_andT, k_andF, k_or, k_orX, k_orT, k_orF, k_c1, k_c1X, k_c2, k_c2X, k_d1, k_d2, k_d3T, k_d3F, k_d4, k_iT, k_iF, k_iX, k_x1, k_x1X, k_x2, k_x2X, k_s1, k_s2, k_s3, k_o, k_a1, k_a1X, k_a2, k_a2X, k_m1, k_m1X, k_m2, k_m2X, k_bi, k_biX, k_bm1, k_bm1X, k_bm2, k_bm3, k_bm3X, k_at, k_atX, k_is, k_isX, k_e1, k_e1X, k_e2, k_e2X, k_f1, k_f2, q_ss0, q_ss1, k_sq, k_sqR, k_sqX, k_sqB, k_sqC, q_set, k_set, k_setX, k_set2, q_par, k_p1, k_p1X, k_p2, k_p2X, q_sub, k_u1, k_u1X, k_u2, k_u3, k_u4, q_fld, k_w1, k_w1X, k_w2, q_ex, k_ex, k_exX, q_ret, k_rF, k_rT, k_rX, k_rf, q_retN, q_if, k_ifT, k_ifF, k_ifX, q_raise, k_rs, q_aug, k_agA, k_agS, q_pass, q_brk, q_cont, fin_rt, fin_nx, fin_ex, cmpR.eq_def, clsD.eq_def, ixD.eq_def, seqOf.eq_def, bin.eq_def, binI_add, binI_sub, binI_mod, binI_fdiv, binI_mulL, binI_mulR, Bool.and_self, sm_a, sm_b, sm_c, sm_d, sm_e, sm_f, sm_g, sm_h, sm_i, sm_j, sm_k, lg64, lg4096, lg65536, cmp.eq_def, truth.eq_def, biD.eq_def, lenD.eq_def, absD.eq_def, intD.eq_def, minD.eq_def, maxD.eq_def, newL.eq_def, bindT.eq_1, bindT.eq_2, bindT.eq_3, setD.eq_def, isNone.eq_def, List.getElem?_cons_zero, List.getElem?_cons_succ, List.set_cons_zero, List.set_cons_succ, List.length_cons, List.length_nil, at0, at1, at2, at3, if_true, if_false, decide_true, decide_false, and_self, and_true, true_and, Bool.false_eq_true, Nat.reduceAdd, Nat.reduceLT, Nat.reduceLeDiff, Nat.reduceSub, Nat.reduceEqDiff, Int.reduceLT, Int.reduceLE, Int.reduceNeg, Int.reduceToNat, reduceIte, reduceCtorEq, ix3_0, ix3_1, ix3_2, big, Nat.zero_le, ne_eq, not_false_eq_true, not_true_eq_false, isiD.eq_1, isiD.eq_2, isiOne.eq_def, tyBlt.eq_def, Option.map_some, Bool.not_true, Bool.not_false, D.see, e (.lst [.str "same"]) (by decide +kernel) (by decide)]
theorem geq_eq {g : D} (h : PGz g) (e : eqDD g (.str "equal") = true) : g = .str "equal" := by
  rcases h with ⟨s, rfl, hs⟩ | rfl | ⟨b, rfl⟩ | rfl
  · rw [eqDD_str] at e
    rw [of_decide_eq_true e]
  · cases e
  · cases e
  · cases e
theorem isNone_eq {d : D} (h : isNone d = true) : d = .non := by
  cases d <;> first | rfl | cases h
def fF : D → Bool
  | .bl d => false == d
  | _ => false
theorem fF_eq {d : D} (h : fF d = true) : d = .bl false := by
  cases d <;> first | cases h | skip
  rename_i b
  cases b
  · rfl
  · cases h
theorem fis {C : Cfg} {f : D} (M : Store) (h : Pln f) (hl : ∀ l, f ≠ .lst l ∧ f ≠ .tup l) : cmpR C .is_ f (.bl false) M = .ok (.bl (fF f)) M := by
  rcases h with rfl | ⟨i, rfl⟩ | ⟨b, rfl⟩ | ⟨s, rfl⟩ | ⟨l, rfl⟩ | ⟨l, rfl⟩
  · rfl
  · rfl
  · rfl
  · rfl
  · exact absurd rfl (hl l).2
  · exact absurd rfl (hl l).1
theorem sxs_step {C : Cfg} {c : E} {a b ss : Ss} {ρ : Dv.Env} {M M1 : Store} {t : Bool} (h : evT C c ρ M = .ok t M1) : sxs C (.cons (.ite c a b) ss) ρ M = (if t = true then sxs C a ρ M1 else sxs C b ρ M1).seq fun ρ1 M1 => sxs C ss ρ1 M1 := by
  simp only [sxs, sx, h, fl_ok]
theorem sxs_one {C : Cfg} {s : Dv.S} {ρ : Dv.Env} {M : Store} {r : Fl} (h : sx C s ρ M = r) : sxs C (.cons s .nil) ρ M = r.seq fun ρ1 M1 => .nx ρ1 M1 := by
  simp only [sxs, h]
def res9 (ws : List Str) (p g s f : D) : D := match part ws p g s f with
  | none => obj p g s f
  | some q => .str q
theorem made_ok (k : Nat) (M : Store) {ws : List Str} {p g s f : D} (V : Vals4 ws p g s f) (u : VPu p g s f) (hfl : ∀ l, f ≠ .lst l ∧ f ≠ .tup l) : run Z.G (k + 4) 9 [p, g, s, f] M = .ok (res9 ws p g s f) M := by
  rw [run_eq (G := Z.G) (f := 9) (F := ⟨4, 5, b9⟩) rfl ⟨rfl, (by decide : 4 ≤ 5)⟩]
  show fin _ (sxs (Cj (k + 3)) b9 [some p, some g, some s, some f, none] _) = _
  unfold b9
  have hu : (obj p g s f).und M.length = true := D.unds_pure _ u
  -- the end of each way
  have fin1 : ∀ (sh : Nat) (es ks : Es) (ds zs : List D), evs (Cj (k + 3)) es [some p, some g, some s, some f, none] M = .ok ds M → evs (Cj (k + 3)) ks [some p, some g, some s, some f, none] M = .ok zs M → ds.length + 1 = ((Cj (k + 3)).shp sh).n → zs.length = ((Cj (k + 3)).shp sh).m → sel (.ref M.length :: (ds ++ zs)) ((Cj (k + 3)).shp sh).sl = some [.ref M.length, p, g, s, f] →
      sx (Cj (k + 3)) (.ret false (.mk 0 sh es ks)) [some p, some g, some s, some f, none] M = match part ws p g s f with
        | none => .rt (obj p g s f) M
        | some q => .ex ⟨2, [0], [.str q]⟩ [some p, some g, some s, some f, none] M := fun sh es ks ds zs h1 h2 h3 h4 h5 => by
    have e := mk_ok k M V u (vs := []) h5
    simp -implicitDefEqProofs only [bind_ok, bind_ex, fl_ok, fl_ex, seq_nx, seq_rt, seq_ex, q_k, q_v, q_g, q_tup, q_lst, q_bin, q_neg, q_evT, q_not, q_and1, q_and, q_or1, q_or, q_cmp, q_cmp2, q_ite, q_ix, q_sl, q_o0, q_o1, q_call, q_mk, q_bi, q_bm, q_attr, q_isi, q_e0, q_e1, q_e2, k_v, k_of, k_tup, k_tupX, k_lst, k_lstX, k_b1, k_b1X, k_b2, k_b2X, k_neg, k_t, k_tX, k_not, k_notX, k_and, k_andX, k_andT, k_andF, k_or, k_orX, k_orT, k_orF, k_c1, k_c1X, k_c2, k_c2X, k_d1, k_d2, k_d3T, k_d3F, k_d4, k_iT, k_iF, k_iX, k_x1, k_x1X, k_x2, k_x2X, k_s1, k_s2, k_s3, k_o, k_a1, k_a1X, k_a2, k_a2X, k_m1, k_m1X, k_m2, k_m2X, k_bi, k_biX, k_bm1, k_bm1X, k_bm2, k_bm3, k_bm3X, k_at, k_atX, k_is, k_isX, k_e1, k_e1X, k_e2, k_e2X, k_f1, k_f2, q_ss0, q_ss1, k_sq, k_sqR, k_sqX, k_sqB, k_sqC, q_set, k_set, k_setX, k_set2, q_par, k_p1, k_p1X, k_p2, k_p2X, q_sub, k_u1, k_u1X, k_u2, k_u3, k_u4, q_fld, k_w1, k_w1X, k_w2, q_ex, k_ex, k_exX, q_ret, k_rF, k_rT, k_rX, k_rf, q_retN, q_if, k_ifT, k_ifF, k_ifX, q_raise, k_rs, q_aug, k_agA, k_agS, q_pass, q_brk, q_cont, fin_rt, fin_nx, fin_ex, cmpR.eq_def, clsD.eq_def, ixD.eq_def, seqOf.eq_def, bin.eq_def, binI_add, binI_sub, binI_mod, binI_fdiv, binI_mulL, binI_mulR, Bool.and_self, sm_a, sm_b, sm_c, sm_d, sm_e, sm_f, sm_g, sm_h, sm_i, sm_j, sm_k, lg64, lg4096, lg65536, cmp.eq_def, truth.eq_def, biD.eq_def, lenD.eq_def, absD.eq_def, intD.eq_def, minD.eq_def, maxD.eq_def, newL.eq_def, bindT.eq_1, bindT.eq_2, bindT.eq_3, setD.eq_def, isNone.eq_def, List.getElem?_cons_zero, List.getElem?_cons_succ, List.set_cons_zero, List.set_cons_succ, List.length_cons, List.length_nil, at0, at1, at2, at3, if_true, if_false, decide_true, decide_false, and_self, and_true, true_and, Bool.false_eq_true, Nat.reduceAdd, Nat.reduceLT, Nat.reduceLeDiff, Nat.reduceSub, Nat.reduceEqDiff, Int.reduceLT, Int.reduceLE, Int.reduceNeg, Int.reduceToNat, reduceIte, reduceCtorEq, ix3_0, ix3_1, ix3_2, big, Nat.zero_le, ne_eq, not_false_eq_true, not_true_eq_false, isiD.eq_1, isiD.eq_2, isiOne.eq_def, tyBlt.eq_def, Option.map_some, Bool.not_true, Bool.not_false, h1, h2, h3, h4, e]
    cases part ws p g s f <;> rfl
  have endd : ∀ fl : Fl, (fl = match part ws p g s f with
        | none => .rt (obj p g s f) M
        | some q => .ex ⟨2, [0], [.str q]⟩ [some p, some g, some s, some f, none] M) → fin M ((match fl with
      | .ex x ρ1 M1 => hx (Cj (k + 3)) (.cons 2 (some 4) (.cons (.ret false (.attr (.v 4) 0)) .nil) (.cons 1 none (.cons (.ret false (.k (.str "other"))) .nil) .nil)) x ρ1 M1
      | r => r).seq fun ρ1 M1 => .nx ρ1 M1) = .ok (res9 ws p g s f) M := fun fl h => by
    subst h
    unfold res9
    cases part ws p g s f with
    | none => exact gc_ok0 gcOk_rfl rfl hu
    | some q =>
      simp only [hx_ok']
      exact gc_ok0 gcOk_rfl rfl rfl
  rw [sxs.eq_2, sx.eq_13]
  simp only [sxs.eq_1]
  apply endd
  -- the ways
  have w1 : evT (Cj (k + 3)) (.and (.cons (.cmp .is_ (.v 2) (.k (.non))) (.cons (.cmp .eq (.v 1) (.k (.str "equal"))) .nil))) [some p, some g, some s, some f, none] M = .ok (isNone s && eqDD g (.str "equal")) M := by
    simp -implicitDefEqProofs only [evT.eq_1, ev.eq_9, evAnd.eq_1, evAnd.eq_2, ev.eq_1, ev.eq_2, ev.eq_11, List.getElem?_cons_zero, List.getElem?_cons_succ, ↓bind_ok, cmpR_is, geq M V.hg, truth.eq_def, tru.eq_1]
    cases isNone s <;> rfl
  have w2 : evT (Cj (k + 3)) (.and (.cons (.cmp .is_ (.v 0) (.k (.non))) (.cons (.cmp .is_ (.v 3) (.k (.bl false))) .nil))) [some p, some g, some s, some f, none] M = .ok (isNone p && fF f) M := by
    simp -implicitDefEqProofs only [evT.eq_1, ev.eq_9, evAnd.eq_1, evAnd.eq_2, ev.eq_1, ev.eq_2, ev.eq_11, List.getElem?_cons_zero, List.getElem?_cons_succ, ↓bind_ok, cmpR_is, fis M V.hf hfl, truth.eq_def, tru.eq_1]
    cases isNone p <;> rfl
  cases h1 : (isNone s && eqDD g (.str "equal")) with
  | true =>
    rw [h1] at w1
    obtain ⟨a1, a2⟩ := Bool.and_eq_true_iff.mp h1
    have es := isNone_eq a1
    have eg := geq_eq V.hg a2
    rw [sxs_step w1]
    simp only [if_true]
    rw [sxs_one (fin1 3 .nil (.cons (.v 3) (.cons (.v 0) .nil)) [] [f, p] (by simp -implicitDefEqProofs only [bind_ok, bind_ex, fl_ok, fl_ex, seq_nx, seq_rt, seq_ex, q_k, q_v, q_g, q_tup, q_lst, q_bin, q_neg, q_evT, q_not, q_and1, q_and, q_or1, q_or, q_cmp, q_cmp2, q_ite, q_ix, q_sl, q_o0, q_o1, q_call, q_mk, q_bi, q_bm, q_attr, q_isi, q_e0, q_e1, q_e2, k_v, k_of, k_tup, k_tupX, k_lst, k_lstX, k_b1, k_b1X, k_b2, k_b2X, k_neg, k_t, k_tX, k_not, k_notX, k_and, k_andX, k_andT, k_andF, k_or, k_orX, k_orT, k_orF, k_c1, k_c1X, k_c2, k_c2X, k_d1, k_d2, k_d3T, k_d3F, k_d4, k_iT, k_iF, k_iX, k_x1, k_x1X, k_x2, k_x2X, k_s1, k_s2, k_s3, k_o, k_a1, k_a1X, k_a2, k_a2X, k_m1, k_m1X, k_m2, k_m2X, k_bi, k_biX, k_bm1, k_bm1X, k_bm2, k_bm3, k_bm3X, k_at, k_atX, k_is, k_isX, k_e1, k_e1X, k_e2, k_e2X, k_f1, k_f2, q_ss0, q_ss1, k_sq, k_sqR, k_sqX, k_sqB, k_sqC, q_set, k_set, k_setX, k_set2, q_par, k_p1, k_p1X, k_p2, k_p2X, q_sub, k_u1, k_u1X, k_u2, k_u3, k_u4, q_fld, k_w1, k_w1X, k_w2, q_ex, k_ex, k_exX, q_ret, k_rF, k_rT, k_rX, k_rf, q_retN, q_if, k_ifT, k_ifF, k_ifX, q_raise, k_rs, q_aug, k_agA, k_agS, q_pass, q_brk, q_cont, fin_rt, fin_nx, fin_ex, cmpR.eq_def, clsD.eq_def, ixD.eq_def, seqOf.eq_def, bin.eq_def, binI_add, binI_sub, binI_mod, binI_fdiv, binI_mulL, binI_mulR, Bool.and_self, sm_a, sm_b, sm_c, sm_d, sm_e, sm_f, sm_g, sm_h, sm_i, sm_j, sm_k, lg64, lg4096, lg65536, cmp.eq_def, truth.eq_def, biD.eq_def, lenD.eq_def, absD.eq_def, intD.eq_def, minD.eq_def, maxD.eq_def, newL.eq_def, bindT.eq_1, bindT.eq_2, bindT.eq_3, setD.eq_def, isNone.eq_def, List.getElem?_cons_zero, List.getElem?_cons_succ, List.set_cons_zero, List.set_cons_succ, List.length_cons, List.length_nil, at0, at1, at2, at3, if_true, if_false, decide_true, decide_false, and_self, and_true, true_and, Bool.false_eq_true, Nat.reduceAdd, Nat.reduceLT, Nat.reduceLeDiff, Nat.reduceSub, Nat.reduceEqDiff, Int.reduceLT, Int.reduceLE, Int.reduceNeg, Int.reduceToNat, reduceIte, reduceCtorEq, ix3_0, ix3_1, ix3_2, big, Nat.zero_le, ne_eq, not_false_eq_true, not_true_eq_false, isiD.eq_1, isiD.eq_2, isiOne.eq_def, tyBlt.eq_def, Option.map_some, Bool.not_true, Bool.not_false]) (by simp -implicitDefEqProofs only [bind_ok, bind_ex, fl_ok, fl_ex, seq_nx, seq_rt, seq_ex, q_k, q_v, q_g, q_tup, q_lst, q_bin, q_neg, q_evT, q_not, q_and1, q_and, q_or1, q_or, q_cmp, q_cmp2, q_ite, q_ix, q_sl, q_o0, q_o1, q_call, q_mk, q_bi, q_bm, q_attr, q_isi, q_e0, q_e1, q_e2, k_v, k_of, k_tup, k_tupX, k_lst, k_lstX, k_b1, k_b1X, k_b2, k_b2X, k_neg, k_t, k_tX, k_not, k_notX, k_and, k_andX, k_andT, k_andF, k_or, k_orX, k_orT, k_orF, k_c1, k_c1X, k_c2, k_c2X, k_d1, k_d2, k_d3T, k_d3F, k_d4, k_iT, k_iF, k_iX, k_x1, k_x1X, k_x2, k_x2X, k_s1, k_s2, k_s3, k_o, k_a1, k_a1X, k_a2, k_a2X, k_m1, k_m1X, k_m2, k_m2X, k_bi, k_biX, k_bm1, k_bm1X, k_bm2, k_bm3, k_bm3X, k_at, k_atX, k_is, k_isX, k_e1, k_e1X, k_e2, k_e2X, k_f1, k_f2, q_ss0, q_ss1, k_sq, k_sqR, k_sqX, k_sqB, k_sqC, q_set, k_set, k_setX, k_set2, q_par, k_p1, k_p1X, k_p2, k_p2X, q_sub, k_u1, k_u1X, k_u2, k_u3, k_u4, q_fld, k_w1, k_w1X, k_w2, q_ex, k_ex, k_exX, q_ret, k_rF, k_rT, k_rX, k_rf, q_retN, q_if, k_ifT, k_ifF, k_ifX, q_raise, k_rs, q_aug, k_agA, k_agS, q_pass, q_brk, q_cont, fin_rt, fin_nx, fin_ex, cmpR.eq_def, clsD.eq_def, ixD.eq_def, seqOf.eq_def, bin.eq_def, binI_add, binI_sub, binI_mod, binI_fdiv, binI_mulL, binI_mulR, Bool.and_self, sm_a, sm_b, sm_c, sm_d, sm_e, sm_f, sm_g, sm_h, sm_i, sm_j, sm_k, lg64, lg4096, lg65536, cmp.eq_def, truth.eq_def, biD.eq_def, lenD.eq_def, absD.eq_def, intD.eq_def, minD.eq_def, maxD.eq_def, newL.eq_def, bindT.eq_1, bindT.eq_2, bindT.eq_3, setD.eq_def, isNone.eq_def, List.getElem?_cons_zero, List.getElem?_cons_succ, List.set_cons_zero, List.set_cons_succ, List.length_cons, List.length_nil, at0, at1, at2, at3, if_true, if_false, decide_true, decide_false, and_self, and_true, true_and, Bool.false_eq_true, Nat.reduceAdd, Nat.reduceLT, Nat.reduceLeDiff, Nat.reduceSub, Nat.reduceEqDiff, Int.reduceLT, Int.reduceLE, Int.reduceNeg, Int.reduceToNat, reduceIte, reduceCtorEq, ix3_0, ix3_1, ix3_2, big, Nat.zero_le, ne_eq, not_false_eq_true, not_true_eq_false, isiD.eq_1, isiD.eq_2, isiOne.eq_def, tyBlt.eq_def, Option.map_some, Bool.not_true, Bool.not_false]) rfl rfl (by rw [es, eg]; rfl))]
    cases part ws p g s f <;> rfl
  | false =>
    rw [h1] at w1
    rw [sxs_step w1]
    simp only [Bool.false_eq_true, if_false, sxs.eq_1, seq_nx]
    cases h2 : (isNone p && fF f) with
    | true =>
      rw [h2] at w2
      obtain ⟨a1, a2⟩ := Bool.and_eq_true_iff.mp h2
      have ep := isNone_eq a1
      have ef := fF_eq a2
      rw [sxs_step w2]
      simp only [if_true]
      rw [sxs_one (fin1 2 .nil (.cons (.v 2) (.cons (.v 1) .nil)) [] [s, g] (by simp -implicitDefEqProofs only [bind_ok, bind_ex, fl_ok, fl_ex, seq_nx, seq_rt, seq_ex, q_k, q_v, q_g, q_tup, q_lst, q_bin, q_neg, q_evT, q_not, q_and1, q_and, q_or1, q_or, q_cmp, q_cmp2, q_ite, q_ix, q_sl, q_o0, q_o1, q_call, q_mk, q_bi, q_bm, q_attr, q_isi, q_e0, q_e1, q_e2, k_v, k_of, k_tup, k_tupX, k_lst, k_lstX, k_b1, k_b1X, k_b2, k_b2X, k_neg, k_t, k_tX, k_not, k_notX, k_and, k_andX, k_andT, k_andF, k_or, k_orX, k_orT, k_orF, k_c1, k_c1X, k_c2, k_c2X, k_d1, k_d2, k_d3T, k_d3F, k_d4, k_iT, k_iF, k_iX, k_x1, k_x1X, k_x2, k_x2X, k_s1, k_s2, k_s3, k_o, k_a1, k_a1X, k_a2, k_a2X, k_m1, k_m1X, k_m2, k_m2X, k_bi, k_biX, k_bm1, k_bm1X, k_bm2, k_bm3, k_bm3X, k_at, k_atX, k_is, k_isX, k_e1, k_e1X, k_e2, k_e2X, k_f1, k_f2, q_ss0, q_ss1, k_sq, k_sqR, k_sqX, k_sqB, k_sqC, q_set, k_set, k_setX, k_set2, q_par, k_p1, k_p1X, k_p2, k_p2X, q_sub, k_u1, k_u1X, k_u2, k_u3, k_u4, q_fld, k_w1, k_w1X, k_w2, q_ex, k_ex, k_exX, q_ret, k_rF, k_rT, k_rX, k_rf, q_retN, q_if, k_ifT, k_ifF, k_ifX, q_raise, k_rs, q_aug, k_agA, k_agS, q_pass, q_brk, q_cont, fin_rt, fin_nx, fin_ex, cmpR.eq_def, clsD.eq_def, ixD.eq_def, seqOf.eq_def, bin.eq_def, binI_add, binI_sub, binI_mod, binI_fdiv, binI_mulL, binI_mulR, Bool.and_self, sm_a, sm_b, sm_c, sm_d, sm_e, sm_f, sm_g, sm_h, sm_i, sm_j, sm_k, lg64, lg4096, lg65536, cmp.eq_def, truth.eq_def, biD.eq_def, lenD.eq_def, absD.eq_def, intD.eq_def, minD.eq_def, maxD.eq_def, newL.eq_def, bindT.eq_1, bindT.eq_2, bindT.eq_3, setD.eq_def, isNone.eq_def, List.getElem?_cons_zero, List.getElem?_cons_succ, List.set_cons_zero, List.set_cons_succ, List.length_cons, List.length_nil, at0, at1, at2, at3, if_true, if_false, decide_true, decide_false, and_self, and_true, true_and, Bool.false_eq_true, Nat.reduceAdd, Nat.reduceLT, Nat.reduceLeDiff, Nat.reduceSub, Nat.reduceEqDiff, Int.reduceLT, Int.reduceLE, Int.reduceNeg, Int.reduceToNat, reduceIte, reduceCtorEq, ix3_0, ix3_1, ix3_2, big, Nat.zero_le, ne_eq, not_false_eq_true, not_true_eq_false, isiD.eq_1, isiD.eq_2, isiOne.eq_def, tyBlt.eq_def, Option.map_some, Bool.not_true, Bool.not_false]) (by simp -implicitDefEqProofs only [bind_ok, bind_ex, fl_ok, fl_ex, seq_nx, seq_rt, seq_ex, q_k, q_v, q_g, q_tup, q_lst, q_bin, q_neg, q_evT, q_not, q_and1, q_and, q_or1, q_or, q_cmp, q_cmp2, q_ite, q_ix, q_sl, q_o0, q_o1, q_call, q_mk, q_bi, q_bm, q_attr, q_isi, q_e0, q_e1, q_e2, k_v, k_of, k_tup, k_tupX, k_lst, k_lstX, k_b1, k_b1X, k_b2, k_b2X, k_neg, k_t, k_tX, k_not, k_notX, k_and, k_andX, k_andT, k_andF, k_or, k_orX, k_orT, k_orF, k_c1, k_c1X, k_c2, k_c2X, k_d1, k_d2, k_d3T, k_d3F, k_d4, k_iT, k_iF, k_iX, k_x1, k_x1X, k_x2, k_x2X, k_s1, k_s2, k_s3, k_o, k_a1, k_a1X, k_a2, k_a2X, k_m1, k_m1X, k_m2, k_m2X, k_bi, k_biX, k_bm1, k_bm1X, k_bm2, k_bm3, k_bm3X, k_at, k_atX, k_is, k_isX, k_e1, k_e1X, k_e2, k_e2X, k_f1, k_f2, q_ss0, q_ss1, k_sq, k_sqR, k_sqX, k_sqB, k_sqC, q_set, k_set, k_setX, k_set2, q_par, k_p1, k_p1X, k_p2, k_p2X, q_sub, k_u1, k_u1X, k_u2, k_u3, k_u4, q_fld, k_w1, k_w1X, k_w2, q_ex, k_ex, k_exX, q_ret, k_rF, k_rT, k_rX, k_rf, q_retN, q_if, k_ifT, k_ifF, k_ifX, q_raise, k_rs, q_aug, k_agA, k_agS, q_pass, q_brk, q_cont, fin_rt, fin_nx, fin_ex, cmpR.eq_def, clsD.eq_def, ixD.eq_def, seqOf.eq_def, bin.eq_def, binI_add, binI_sub, binI_mod, binI_fdiv, binI_mulL, binI_mulR, Bool.and_self, sm_a, sm_b, sm_c, sm_d, sm_e, sm_f, sm_g, sm_h, sm_i, sm_j, sm_k, lg64, lg4096, lg65536, cmp.eq_def, truth.eq_def, biD.eq_def, lenD.eq_def, absD.eq_def, intD.eq_def, minD.eq_def, maxD.eq_def, newL.eq_def, bindT.eq_1, bindT.eq_2, bindT.eq_3, setD.eq_def, isNone.eq_def, List.getElem?_cons_zero, List.getElem?_cons_succ, List.set_cons_zero, List.set_cons_succ, List.length_cons, List.length_nil, at0, at1, at2, at3, if_true, if_false, decide_true, decide_false, and_self, and_true, true_and, Bool.false_eq_true, Nat.reduceAdd, Nat.reduceLT, Nat.reduceLeDiff, Nat.reduceSub, Nat.reduceEqDiff, Int.reduceLT, Int.reduceLE, Int.reduceNeg, Int.reduceToNat, reduceIte, reduceCtorEq, ix3_0, ix3_1, ix3_2, big, Nat.zero_le, ne_eq, not_false_eq_true, not_true_eq_false, isiD.eq_1, isiD.eq_2, isiOne.eq_def, tyBlt.eq_def, Option.map_some, Bool.not_true, Bool.not_false]) rfl rfl (by rw [ep, ef]; rfl))]
      cases part ws p g s f <;> rfl
    | false =>
      rw [h2] at w2
      rw [sxs_step w2]
      simp only [Bool.false_eq_true, if_false, sxs.eq_1, seq_nx]
      rw [sxs_one (fin1 1 .nil (.cons (.v 0) (.cons (.v 1) (.cons (.v 2) (.cons (.v 3) .nil)))) [] [p, g, s, f] (by simp -implicitDefEqProofs only [bind_ok, bind_ex, fl_ok, fl_ex, seq_nx, seq_rt, seq_ex, q_k, q_v, q_g, q_tup, q_lst, q_bin, q_neg, q_evT, q_not, q_and1, q_and, q_or1, q_or, q_cmp, q_cmp2, q_ite, q_ix, q_sl, q_o0, q_o1, q_call, q_mk, q_bi, q_bm, q_attr, q_isi, q_e0, q_e1, q_e2, k_v, k_of, k_tup, k_tupX, k_lst, k_lstX, k_b1, k_b1X, k_b2, k_b2X, k_neg, k_t, k_tX, k_not, k_notX, k_and, k_andX, k_andT, k_andF, k_or, k_orX, k_orT, k_orF, k_c1, k_c1X, k_c2, k_c2X, k_d1, k_d2, k_d3T, k_d3F, k_d4, k_iT, k_iF, k_iX, k_x1, k_x1X, k_x2, k_x2X, k_s1, k_s2, k_s3, k_o, k_a1, k_a1X, k_a2, k_a2X, k_m1, k_m1X, k_m2, k_m2X, k_bi, k_biX, k_bm1, k_bm1X, k_bm2, k_bm3, k_bm3X, k_at, k_atX, k_is, k_isX, k_e1, k_e1X, k_e2, k_e2X, k_f1, k_f2, q_ss0, q_ss1, k_sq, k_sqR, k_sqX, k_sqB, k_sqC, q_set, k_set, k_setX, k_set2, q_par, k_p1, k_p1X, k_p2, k_p2X, q_sub, k_u1, k_u1X, k_u2, k_u3, k_u4, q_fld, k_w1, k_w1X, k_w2, q_ex, k_ex, k_exX, q_ret, k_rF, k_rT, k_rX, k_rf, q_retN, q_if, k_ifT, k_ifF, k_ifX, q_raise, k_rs, q_aug, k_agA, k_agS, q_pass, q_brk, q_cont, fin_rt, fin_nx, fin_ex, cmpR.eq_def, clsD.eq_def, ixD.eq_def, seqOf.eq_def, bin.eq_def, binI_add, binI_sub, binI_mod, binI_fdiv, binI_mulL, binI_mulR, Bool.and_self, sm_a, sm_b, sm_c, sm_d, sm_e, sm_f, sm_g, sm_h, sm_i, sm_j, sm_k, lg64, lg4096, lg65536, cmp.eq_def, truth.eq_def, biD.eq_def, lenD.eq_def, absD.eq_def, intD.eq_def, minD.eq_def, maxD.eq_def, newL.eq_def, bindT.eq_1, bindT.eq_2, bindT.eq_3, setD.eq_def, isNone.eq_def, List.getElem?_cons_zero, List.getElem?_cons_succ, List.set_cons_zero, List.set_cons_succ, List.length_cons, List.length_nil, at0, at1, at2, at3, if_true, if_false, decide_true, decide_false, and_self, and_true, true_and, Bool.false_eq_true, Nat.reduceAdd, Nat.reduceLT, Nat.reduceLeDiff, Nat.reduceSub, Nat.reduceEqDiff, Int.reduceLT, Int.reduceLE, Int.reduceNeg, Int.reduceToNat, reduceIte, reduceCtorEq, ix3_0, ix3_1, ix3_2, big, Nat.zero_le, ne_eq, not_false_eq_true, not_true_eq_false, isiD.eq_1, isiD.eq_2, isiOne.eq_def, tyBlt.eq_def, Option.map_some, Bool.not_true, Bool.not_false]) (by simp -implicitDefEqProofs only [bind_ok, bind_ex, fl_ok, fl_ex, seq_nx, seq_rt, seq_ex, q_k, q_v, q_g, q_tup, q_lst, q_bin, q_neg, q_evT, q_not, q_and1, q_and, q_or1, q_or, q_cmp, q_cmp2, q_ite, q_ix, q_sl, q_o0, q_o1, q_call, q_mk, q_bi, q_bm, q_attr, q_isi, q_e0, q_e1, q_e2, k_v, k_of, k_tup, k_tupX, k_lst, k_lstX, k_b1, k_b1X, k_b2, k_b2X, k_neg, k_t, k_tX, k_not, k_notX, k_and, k_andX, k_andT, k_andF, k_or, k_orX, k_orT, k_orF, k_c1, k_c1X, k_c2, k_c2X, k_d1, k_d2, k_d3T, k_d3F, k_d4, k_iT, k_iF, k_iX, k_x1, k_x1X, k_x2, k_x2X, k_s1, k_s2, k_s3, k_o, k_a1, k_a1X, k_a2, k_a2X, k_m1, k_m1X, k_m2, k_m2X, k_bi, k_biX, k_bm1, k_bm1X, k_bm2, k_bm3, k_bm3X, k_at, k_atX, k_is, k_isX, k_e1, k_e1X, k_e2, k_e2X, k_f1, k_f2, q_ss0, q_ss1, k_sq, k_sqR, k_sqX, k_sqB, k_sqC, q_set, k_set, k_setX, k_set2, q_par, k_p1, k_p1X, k_p2, k_p2X, q_sub, k_u1, k_u1X, k_u2, k_u3, k_u4, q_fld, k_w1, k_w1X, k_w2, q_ex, k_ex, k_exX, q_ret, k_rF, k_rT, k_rX, k_rf, q_retN, q_if, k_ifT, k_ifF, k_ifX, q_raise, k_rs, q_aug, k_agA, k_agS, q_pass, q_brk, q_cont, fin_rt, fin_nx, fin_ex, cmpR.eq_def, clsD.eq_def, ixD.eq_def, seqOf.eq_def, bin.eq_def, binI_add, binI_sub, binI_mod, binI_fdiv, binI_mulL, binI_mulR, Bool.and_self, sm_a, sm_b, sm_c, sm_d, sm_e, sm_f, sm_g, sm_h, sm_i, sm_j, sm_k, lg64, lg4096, lg65536, cmp.eq_def, truth.eq_def, biD.eq_def, lenD.eq_def, absD.eq_def, intD.eq_def, minD.eq_def, maxD.eq_def, newL.eq_def, bindT.eq_1, bindT.eq_2, bindT.eq_3, setD.eq_def, isNone.eq_def, List.getElem?_cons_zero, List.getElem?_cons_succ, List.set_cons_zero, List.set_cons_succ, List.length_cons, List.length_nil, at0, at1, at2, at3, if_true, if_false, decide_true, decide_false, and_self, and_true, true_and, Bool.false_eq_true, Nat.reduceAdd, Nat.reduceLT, Nat.reduceLeDiff, Nat.reduceSub, Nat.reduceEqDiff, Int.reduceLT, Int.reduceLE, Int.reduceNeg, Int.reduceToNat, reduceIte, reduceCtorEq, ix3_0, ix3_1, ix3_2, big, Nat.zero_le, ne_eq, not_false_eq_true, not_true_eq_false, isiD.eq_1, isiD.eq_2, isiOne.eq_def, tyBlt.eq_def, Option.map_some, Bool.not_true, Bool.not_false]) rfl rfl rfl)]
      cases part ws p g s f <;> rfl
end Law
namespace Law
open PySem Dv
theorem step {C : Cfg} {s : Dv.S} {ss : Ss} {ρ ρ1 : Dv.Env} {M0 M M1 : Store} {R : Rs D} (h : sx C s ρ M = .nx ρ1 M1) (h2 : fin M0 (sxs C ss ρ1 M1) = R) : fin M0 (sxs C (.cons s ss) ρ M) = R := by
  rw [sxs_nx h]
  exact h2
theorem p49 : binI .pow 10 49 = some (.int 10000000000000000000000000000000000000000000000000) := by decide +kernel
theorem p50 : binI .pow 10 50 = some (.int 100000000000000000000000000000000000000000000000000) := by decide +kernel
theorem pm99 : binI .mul 10000000000000000000000000000000000000000000000000 100000000000000000000000000000000000000000000000000 = some (.int 1000000000000000000000000000000000000000000000000000000000000000000000000000000000000000000000000000) := by decide +kernel
def dueD (ws : List Str) (p g s f : D) : D := match part ws p g s f with
  | none => .non
  | some q => .str q
theorem dT (k : Nat) (M : Store) {p a b c : D} {r : Dv.Env} (h : Pln p) : evT (Cj k) (.and (.cons (.cmp .isNot (.v 3) (.k (.non))) (.cons (.or (.cons (.isi (.v 3) [.bool]) (.cons (.not (.isi (.v 3) [.int])) (.cons (.cmp .lt (.v 3) (.k (.int 0))) .nil)))) .nil))) (some a :: some b :: some c :: some p :: r) M = .ok (badT p) M := by
  rcases h with rfl | ⟨i, rfl⟩ | ⟨b, rfl⟩ | ⟨s, rfl⟩ | ⟨l, rfl⟩ | ⟨l, rfl⟩ <;> simp -implicitDefEqProofs only [bind_ok, bind_ex, fl_ok, fl_ex, seq_nx, seq_rt, seq_ex, q_k, q_v, q_g, q_tup, q_lst, q_bin, q_neg, q_evT, q_not, q_and1, q_and, q_or1, q_or, q_cmp, q_cmp2, q_ite, q_ix, q_sl, q_o0, q_o1, q_call, q_mk, q_bi, q_bm, q_attr, q_isi, q_e0, q_e1, q_e2, k_v, k_of, k_tup, k_tupX, k_lst, k_lstX, k_b1, k_b1X, k_b2, k_b2X, k_neg, k_t, k_tX, k_not, k_notX, k_and, k_andX, k_andT, k_andF, k_or, k_orX, k_orT, k_orF, k_c1, k_c1X, k_c2, k_c2X, k_d1, k_d2, k_d3T, k_d3F, k_d4, k_iT, k_iF, k_iX, k_x1, k_x1X, k_x2, k_x2X, k_s1, k_s2, k_s3, k_o, k_a1, k_a1X, k_a2, k_a2X, k_m1, k_m1X, k_m2, k_m2X, k_bi, k_biX, k_bm1, k_bm1X, k_bm2, k_bm3, k_bm3X, k_at, k_atX, k_is, k_isX, k_e1, k_e1X, k_e2, k_e2X, k_f1, k_f2, q_ss0, q_ss1, k_sq, k_sqR, k_sqX, k_sqB, k_sqC, q_set, k_set, k_setX, k_set2, q_par, k_p1, k_p1X, k_p2, k_p2X, q_sub, k_u1, k_u1X, k_u2, k_u3, k_u4, q_fld, k_w1, k_w1X, k_w2, q_ex, k_ex, k_exX, q_ret, k_rF, k_rT, k_rX, k_rf, q_retN, q_if, k_ifT, k_ifF, k_ifX, q_raise, k_rs, q_aug, k_agA, k_agS, q_pass, q_brk, q_cont, fin_rt, fin_nx, fin_ex, cmpR.eq_def, clsD.eq_def, ixD.eq_def, seqOf.eq_def, bin.eq_def, binI_add, binI_sub, binI_mod, binI_fdiv, binI_mulL, binI_mulR, Bool.and_self, sm_a, sm_b, sm_c, sm_d, sm_e, sm_f, sm_g, sm_h, sm_i, sm_j, sm_k, lg64, lg4096, lg65536, cmp.eq_def, truth.eq_def, biD.eq_def, lenD.eq_def, absD.eq_def, intD.eq_def, minD.eq_def, maxD.eq_def, newL.eq_def, bindT.eq_1, bindT.eq_2, bindT.eq_3, setD.eq_def, isNone.eq_def, List.getElem?_cons_zero, List.getElem?_cons_succ, List.set_cons_zero, List.set_cons_succ, List.length_cons, List.length_nil, at0, at1, at2, at3, if_true, if_false, decide_true, decide_false, and_self, and_true, true_and, Bool.false_eq_true, Nat.reduceAdd, Nat.reduceLT, Nat.reduceLeDiff, Nat.reduceSub, Nat.reduceEqDiff, Int.reduceLT, Int.reduceLE, Int.reduceNeg, Int.reduceToNat, reduceIte, reduceCtorEq, ix3_0, ix3_1, ix3_2, big, Nat.zero_le, ne_eq, not_false_eq_true, not_true_eq_false, isiD.eq_1, isiD.eq_2, isiOne.eq_def, tyBlt.eq_def, Option.map_some, Bool.not_true, Bool.not_false] <;> rfl
theorem dL (k : Nat) (M : Store) {p g a b c : D} {r : Dv.Env} (h : PGz g) : evT (Cj k) (.or (.cons (.not (.isi (.v 4) [.str])) (.cons (.cmp .notIn (.v 4) (.tup (.cons (.k (.str "equal")) (.cons (.k (.str "same")) .nil)))) .nil))) (some a :: some b :: some c :: some p :: some g :: r) M = .ok (badL g) M := by
  rcases h with ⟨s, rfl, hs⟩ | rfl | ⟨b, rfl⟩ | rfl
  · have e : inD M (.str s) (.tup [.str "equal", .str "same"]) = some (decide (s ∈ ([("equal" : Str), "same"] : List Str))) := in_strs (ws := ["equal", "same"]) hs (by decide +kernel) (.inl rfl)
    simp -implicitDefEqProofs only [bind_ok, bind_ex, fl_ok, fl_ex, seq_nx, seq_rt, seq_ex, q_k, q_v, q_g, q_tup, q_lst, q_bin, q_neg, q_evT, q_not, q_and1, q_and, q_or1, q_or, q_cmp, q_cmp2, q_ite, q_ix, q_sl, q_o0, q_o1, q_call, q_mk, q_bi, q_bm, q_attr, q_isi, q_e0, q_e1, q_e2, k_v, k_of, k_tup, k_tupX, k_lst, k_lstX, k_b1, k_b1X, k_b2, k_b2X, k_neg, k_t, k_tX, k_not, k_notX, k_and, k_andX, k_andT, k_andF, k_or, k_orX, k_orT, k_orF, k_c1, k_c1X, k_c2, k_c2X, k_d1, k_d2, k_d3T, k_d3F, k_d4, k_iT, k_iF, k_iX, k_x1, k_x1X, k_x2, k_x2X, k_s1, k_s2, k_s3, k_o, k_a1, k_a1X, k_a2, k_a2X, k_m1, k_m1X, k_m2, k_m2X, k_bi, k_biX, k_bm1, k_bm1X, k_bm2, k_bm3, k_bm3X, k_at, k_atX, k_is, k_isX, k_e1, k_e1X, k_e2, k_e2X, k_f1, k_f2, q_ss0, q_ss1, k_sq, k_sqR, k_sqX, k_sqB, k_sqC, q_set, k_set, k_setX, k_set2, q_par, k_p1, k_p1X, k_p2, k_p2X, q_sub, k_u1, k_u1X, k_u2, k_u3, k_u4, q_fld, k_w1, k_w1X, k_w2, q_ex, k_ex, k_exX, q_ret, k_rF, k_rT, k_rX, k_rf, q_retN, q_if, k_ifT, k_ifF, k_ifX, q_raise, k_rs, q_aug, k_agA, k_agS, q_pass, q_brk, q_cont, fin_rt, fin_nx, fin_ex, cmpR.eq_def, clsD.eq_def, ixD.eq_def, seqOf.eq_def, bin.eq_def, binI_add, binI_sub, binI_mod, binI_fdiv, binI_mulL, binI_mulR, Bool.and_self, sm_a, sm_b, sm_c, sm_d, sm_e, sm_f, sm_g, sm_h, sm_i, sm_j, sm_k, lg64, lg4096, lg65536, cmp.eq_def, truth.eq_def, biD.eq_def, lenD.eq_def, absD.eq_def, intD.eq_def, minD.eq_def, maxD.eq_def, newL.eq_def, bindT.eq_1, bindT.eq_2, bindT.eq_3, setD.eq_def, isNone.eq_def, List.getElem?_cons_zero, List.getElem?_cons_succ, List.set_cons_zero, List.set_cons_succ, List.length_cons, List.length_nil, at0, at1, at2, at3, if_true, if_false, decide_true, decide_false, and_self, and_true, true_and, Bool.false_eq_true, Nat.reduceAdd, Nat.reduceLT, Nat.reduceLeDiff, Nat.reduceSub, Nat.reduceEqDiff, Int.reduceLT, Int.reduceLE, Int.reduceNeg, Int.reduceToNat, reduceIte, reduceCtorEq, ix3_0, ix3_1, ix3_2, big, Nat.zero_le, ne_eq, not_false_eq_true, not_true_eq_false, isiD.eq_1, isiD.eq_2, isiOne.eq_def, tyBlt.eq_def, Option.map_some, Bool.not_true, Bool.not_false, e]
    rfl
  · simp -implicitDefEqProofs only [bind_ok, bind_ex, fl_ok, fl_ex, seq_nx, seq_rt, seq_ex, q_k, q_v, q_g, q_tup, q_lst, q_bin, q_neg, q_evT, q_not, q_and1, q_and, q_or1, q_or, q_cmp, q_cmp2, q_ite, q_ix, q_sl, q_o0, q_o1, q_call, q_mk, q_bi, q_bm, q_attr, q_isi, q_e0, q_e1, q_e2, k_v, k_of, k_tup, k_tupX, k_lst, k_lstX, k_b1, k_b1X, k_b2, k_b2X, k_neg, k_t, k_tX, k_not, k_notX, k_and, k_andX, k_andT, k_andF, k_or, k_orX, k_orT, k_orF, k_c1, k_c1X, k_c2, k_c2X, k_d1, k_d2, k_d3T, k_d3F, k_d4, k_iT, k_iF, k_iX, k_x1, k_x1X, k_x2, k_x2X, k_s1, k_s2, k_s3, k_o, k_a1, k_a1X, k_a2, k_a2X, k_m1, k_m1X, k_m2, k_m2X, k_bi, k_biX, k_bm1, k_bm1X, k_bm2, k_bm3, k_bm3X, k_at, k_atX, k_is, k_isX, k_e1, k_e1X, k_e2, k_e2X, k_f1, k_f2, q_ss0, q_ss1, k_sq, k_sqR, k_sqX, k_sqB, k_sqC, q_set, k_set, k_setX, k_set2, q_par, k_p1, k_p1X, k_p2, k_p2X, q_sub, k_u1, k_u1X, k_u2, k_u3, k_u4, q_fld, k_w1, k_w1X, k_w2, q_ex, k_ex, k_exX, q_ret, k_rF, k_rT, k_rX, k_rf, q_retN, q_if, k_ifT, k_ifF, k_ifX, q_raise, k_rs, q_aug, k_agA, k_agS, q_pass, q_brk, q_cont, fin_rt, fin_nx, fin_ex, cmpR.eq_def, clsD.eq_def, ixD.eq_def, seqOf.eq_def, bin.eq_def, binI_add, binI_sub, binI_mod, binI_fdiv, binI_mulL, binI_mulR, Bool.and_self, sm_a, sm_b, sm_c, sm_d, sm_e, sm_f, sm_g, sm_h, sm_i, sm_j, sm_k, lg64, lg4096, lg65536, cmp.eq_def, truth.eq_def, biD.eq_def, lenD.eq_def, absD.eq_def, intD.eq_def, minD.eq_def, maxD.eq_def, newL.eq_def, bindT.eq_1, bindT.eq_2, bindT.eq_3, setD.eq_def, isNone.eq_def, List.getElem?_cons_zero, List.getElem?_cons_succ, List.set_cons_zero, List.set_cons_succ, List.length_cons, List.length_nil, at0, at1, at2, at3, if_true, if_false, decide_true, decide_false, and_self, and_true, true_and, Bool.false_eq_true, Nat.reduceAdd, Nat.reduceLT, Nat.reduceLeDiff, Nat.reduceSub, Nat.reduceEqDiff, Int.reduceLT, Int.reduceLE, Int.reduceNeg, Int.reduceToNat, reduceIte, reduceCtorEq, ix3_0, ix3_1, ix3_2, big, Nat.zero_le, ne_eq, not_false_eq_true, not_true_eq_false, isiD.eq_1, isiD.eq_2, isiOne.eq_def, tyBlt.eq_def, Option.map_some, Bool.not_true, Bool.not_false]
    rfl
  · simp -implicitDefEqProofs only [bind_ok, bind_ex, fl_ok, fl_ex, seq_nx, seq_rt, seq_ex, q_k, q_v, q_g, q_tup, q_lst, q_bin, q_neg, q_evT, q_not, q_and1, q_and, q_or1, q_or, q_cmp, q_cmp2, q_ite, q_ix, q_sl, q_o0, q_o1, q_call, q_mk, q_bi, q_bm, q_attr, q_isi, q_e0, q_e1, q_e2, k_v, k_of, k_tup, k_tupX, k_lst, k_lstX, k_b1, k_b1X, k_b2, k_b2X, k_neg, k_t, k_tX, k_not, k_notX, k_and, k_andX, k_andT, k_andF, k_or, k_orX, k_orT, k_orF, k_c1, k_c1X, k_c2, k_c2X, k_d1, k_d2, k_d3T, k_d3F, k_d4, k_iT, k_iF, k_iX, k_x1, k_x1X, k_x2, k_x2X, k_s1, k_s2, k_s3, k_o, k_a1, k_a1X, k_a2, k_a2X, k_m1, k_m1X, k_m2, k_m2X, k_bi, k_biX, k_bm1, k_bm1X, k_bm2, k_bm3, k_bm3X, k_at, k_atX, k_is, k_isX, k_e1, k_e1X, k_e2, k_e2X, k_f1, k_f2, q_ss0, q_ss1, k_sq, k_sqR, k_sqX, k_sqB, k_sqC, q_set, k_set, k_setX, k_set2, q_par, k_p1, k_p1X, k_p2, k_p2X, q_sub, k_u1, k_u1X, k_u2, k_u3, k_u4, q_fld, k_w1, k_w1X, k_w2, q_ex, k_ex, k_exX, q_ret, k_rF, k_rT, k_rX, k_rf, q_retN, q_if, k_ifT, k_ifF, k_ifX, q_raise, k_rs, q_aug, k_agA, k_agS, q_pass, q_brk, q_cont, fin_rt, fin_nx, fin_ex, cmpR.eq_def, clsD.eq_def, ixD.eq_def, seqOf.eq_def, bin.eq_def, binI_add, binI_sub, binI_mod, binI_fdiv, binI_mulL, binI_mulR, Bool.and_self, sm_a, sm_b, sm_c, sm_d, sm_e, sm_f, sm_g, sm_h, sm_i, sm_j, sm_k, lg64, lg4096, lg65536, cmp.eq_def, truth.eq_def, biD.eq_def, lenD.eq_def, absD.eq_def, intD.eq_def, minD.eq_def, maxD.eq_def, newL.eq_def, bindT.eq_1, bindT.eq_2, bindT.eq_3, setD.eq_def, isNone.eq_def, List.getElem?_cons_zero, List.getElem?_cons_succ, List.set_cons_zero, List.set_cons_succ, List.length_cons, List.length_nil, at0, at1, at2, at3, if_true, if_false, decide_true, decide_false, and_self, and_true, true_and, Bool.false_eq_true, Nat.reduceAdd, Nat.reduceLT, Nat.reduceLeDiff, Nat.reduceSub, Nat.reduceEqDiff, Int.reduceLT, Int.reduceLE, Int.reduceNeg, Int.reduceToNat, reduceIte, reduceCtorEq, ix3_0, ix3_1, ix3_2, big, Nat.zero_le, ne_eq, not_false_eq_true, not_true_eq_false, isiD.eq_1, isiD.eq_2, isiOne.eq_def, tyBlt.eq_def, Option.map_some, Bool.not_true, Bool.not_false]
    rfl
  · simp -implicitDefEqProofs only [bind_ok, bind_ex, fl_ok, fl_ex, seq_nx, seq_rt, seq_ex, q_k, q_v, q_g, q_tup, q_lst, q_bin, q_neg, q_evT, q_not, q_and1, q_and, q_or1, q_or, q_cmp, q_cmp2, q_ite, q_ix, q_sl, q_o0, q_o1, q_call, q_mk, q_bi, q_bm, q_attr, q_isi, q_e0, q_e1, q_e2, k_v, k_of, k_tup, k_tupX, k_lst, k_lstX, k_b1, k_b1X, k_b2, k_b2X, k_neg, k_t, k_tX, k_not, k_notX, k_and, k_andX, k_andT, k_andF, k_or, k_orX, k_orT, k_orF, k_c1, k_c1X, k_c2, k_c2X, k_d1, k_d2, k_d3T, k_d3F, k_d4, k_iT, k_iF, k_iX, k_x1, k_x1X, k_x2, k_x2X, k_s1, k_s2, k_s3, k_o, k_a1, k_a1X, k_a2, k_a2X, k_m1, k_m1X, k_m2, k_m2X, k_bi, k_biX, k_bm1, k_bm1X, k_bm2, k_bm3, k_bm3X, k_at, k_atX, k_is, k_isX, k_e1, k_e1X, k_e2, k_e2X, k_f1, k_f2, q_ss0, q_ss1, k_sq, k_sqR, k_sqX, k_sqB, k_sqC, q_set, k_set, k_setX, k_set2, q_par, k_p1, k_p1X, k_p2, k_p2X, q_sub, k_u1, k_u1X, k_u2, k_u3, k_u4, q_fld, k_w1, k_w1X, k_w2, q_ex, k_ex, k_exX, q_ret, k_rF, k_rT, k_rX, k_rf, q_retN, q_if, k_ifT, k_ifF, k_ifX, q_raise, k_rs, q_aug, k_agA, k_agS, q_pass, q_brk, q_cont, fin_rt, fin_nx, fin_ex, cmpR.eq_def, clsD.eq_def, ixD.eq_def, seqOf.eq_def, bin.eq_def, binI_add, binI_sub, binI_mod, binI_fdiv, binI_mulL, binI_mulR, Bool.and_self, sm_a, sm_b, sm_c, sm_d, sm_e, sm_f, sm_g, sm_h, sm_i, sm_j, sm_k, lg64, lg4096, lg65536, cmp.eq_def, truth.eq_def, biD.eq_def, lenD.eq_def, absD.eq_def, intD.eq_def, minD.eq_def, maxD.eq_def, newL.eq_def, bindT.eq_1, bindT.eq_2, bindT.eq_3, setD.eq_def, isNone.eq_def, List.getElem?_cons_zero, List.getElem?_cons_succ, List.set_cons_zero, List.set_cons_succ, List.length_cons, List.length_nil, at0, at1, at2, at3, if_true, if_false, decide_true, decide_false, and_self, and_true, true_and, Bool.false_eq_true, Nat.reduceAdd, Nat.reduceLT, Nat.reduceLeDiff, Nat.reduceSub, Nat.reduceEqDiff, Int.reduceLT, Int.reduceLE, Int.reduceNeg, Int.reduceToNat, reduceIte, reduceCtorEq, ix3_0, ix3_1, ix3_2, big, Nat.zero_le, ne_eq, not_false_eq_true, not_true_eq_false, isiD.eq_1, isiD.eq_2, isiOne.eq_def, tyBlt.eq_def, Option.map_some, Bool.not_true, Bool.not_false]
    rfl
theorem dM (k : Nat) (M : Store) {ws : List Str} {p g s a c x5 : D} {r : Dv.Env} (hw : WsOk ws) (hp : Pln s) (hs : ∀ es, s = .tup es → ∀ e ∈ es, Elem ws e) : evT (Cj (k + 1)) (.and (.cons (.cmp .isNot (.v 6) (.k (.non))) (.cons (.not (.call 10 0 (.cons (.v 6) (.cons (.v 1) .nil)) .nil)) .nil))) (some a :: some (.lst (ws.map .str)) :: some c :: some p :: some g :: some x5 :: some s :: r) M = .ok (badM ws s) M := by
  have e := arewords k M hw hp hs
  rcases hp with rfl | ⟨i, rfl⟩ | ⟨b, rfl⟩ | ⟨s, rfl⟩ | ⟨l, rfl⟩ | ⟨l, rfl⟩ <;> simp -implicitDefEqProofs only [bind_ok, bind_ex, fl_ok, fl_ex, seq_nx, seq_rt, seq_ex, q_k, q_v, q_g, q_tup, q_lst, q_bin, q_neg, q_evT, q_not, q_and1, q_and, q_or1, q_or, q_cmp, q_cmp2, q_ite, q_ix, q_sl, q_o0, q_o1, q_call, q_mk, q_bi, q_bm, q_attr, q_isi, q_e0, q_e1, q_e2, k_v, k_of, k_tup, k_tupX, k_lst, k_lstX, k_b1, k_b1X, k_b2, k_b2X, k_neg, k_t, k_tX, k_not, k_notX, k_and, k_andX, k_andT, k_andF, k_or, k_orX, k_orT, k_orF, k_c1, k_c1X, k_c2, k_c2X, k_d1, k_d2, k_d3T, k_d3F, k_d4, k_iT, k_iF, k_iX, k_x1, k_x1X, k_x2, k_x2X, k_s1, k_s2, k_s3, k_o, k_a1, k_a1X, k_a2, k_a2X, k_m1, k_m1X, k_m2, k_m2X, k_bi, k_biX, k_bm1, k_bm1X, k_bm2, k_bm3, k_bm3X, k_at, k_atX, k_is, k_isX, k_e1, k_e1X, k_e2, k_e2X, k_f1, k_f2, q_ss0, q_ss1, k_sq, k_sqR, k_sqX, k_sqB, k_sqC, q_set, k_set, k_setX, k_set2, q_par, k_p1, k_p1X, k_p2, k_p2X, q_sub, k_u1, k_u1X, k_u2, k_u3, k_u4, q_fld, k_w1, k_w1X, k_w2, q_ex, k_ex, k_exX, q_ret, k_rF, k_rT, k_rX, k_rf, q_retN, q_if, k_ifT, k_ifF, k_ifX, q_raise, k_rs, q_aug, k_agA, k_agS, q_pass, q_brk, q_cont, fin_rt, fin_nx, fin_ex, cmpR.eq_def, clsD.eq_def, ixD.eq_def, seqOf.eq_def, bin.eq_def, binI_add, binI_sub, binI_mod, binI_fdiv, binI_mulL, binI_mulR, Bool.and_self, sm_a, sm_b, sm_c, sm_d, sm_e, sm_f, sm_g, sm_h, sm_i, sm_j, sm_k, lg64, lg4096, lg65536, cmp.eq_def, truth.eq_def, biD.eq_def, lenD.eq_def, absD.eq_def, intD.eq_def, minD.eq_def, maxD.eq_def, newL.eq_def, bindT.eq_1, bindT.eq_2, bindT.eq_3, setD.eq_def, isNone.eq_def, List.getElem?_cons_zero, List.getElem?_cons_succ, List.set_cons_zero, List.set_cons_succ, List.length_cons, List.length_nil, at0, at1, at2, at3, if_true, if_false, decide_true, decide_false, and_self, and_true, true_and, Bool.false_eq_true, Nat.reduceAdd, Nat.reduceLT, Nat.reduceLeDiff, Nat.reduceSub, Nat.reduceEqDiff, Int.reduceLT, Int.reduceLE, Int.reduceNeg, Int.reduceToNat, reduceIte, reduceCtorEq, ix3_0, ix3_1, ix3_2, big, Nat.zero_le, ne_eq, not_false_eq_true, not_true_eq_false, isiD.eq_1, isiD.eq_2, isiOne.eq_def, tyBlt.eq_def, Option.map_some, Bool.not_true, Bool.not_false, C_s0, callG.eq_def, sel.eq_1, sel.eq_2, sel.eq_3, sel.eq_4, C_call, List.append_nil, e, goodT] <;> rfl
theorem dF (k : Nat) (M : Store) {p g s f a b c x5 : D} {r : Dv.Env} (h : Pln f) : evT (Cj k) (.not (.isi (.v 7) [.bool])) (some a :: some b :: some c :: some p :: some g :: some x5 :: some s :: some f :: r) M = .ok (badF f) M := by
  rcases h with rfl | ⟨i, rfl⟩ | ⟨b, rfl⟩ | ⟨s, rfl⟩ | ⟨l, rfl⟩ | ⟨l, rfl⟩ <;> simp -implicitDefEqProofs only [bind_ok, bind_ex, fl_ok, fl_ex, seq_nx, seq_rt, seq_ex, q_k, q_v, q_g, q_tup, q_lst, q_bin, q_neg, q_evT, q_not, q_and1, q_and, q_or1, q_or, q_cmp, q_cmp2, q_ite, q_ix, q_sl, q_o0, q_o1, q_call, q_mk, q_bi, q_bm, q_attr, q_isi, q_e0, q_e1, q_e2, k_v, k_of, k_tup, k_tupX, k_lst, k_lstX, k_b1, k_b1X, k_b2, k_b2X, k_neg, k_t, k_tX, k_not, k_notX, k_and, k_andX, k_andT, k_andF, k_or, k_orX, k_orT, k_orF, k_c1, k_c1X, k_c2, k_c2X, k_d1, k_d2, k_d3T, k_d3F, k_d4, k_iT, k_iF, k_iX, k_x1, k_x1X, k_x2, k_x2X, k_s1, k_s2, k_s3, k_o, k_a1, k_a1X, k_a2, k_a2X, k_m1, k_m1X, k_m2, k_m2X, k_bi, k_biX, k_bm1, k_bm1X, k_bm2, k_bm3, k_bm3X, k_at, k_atX, k_is, k_isX, k_e1, k_e1X, k_e2, k_e2X, k_f1, k_f2, q_ss0, q_ss1, k_sq, k_sqR, k_sqX, k_sqB, k_sqC, q_set, k_set, k_setX, k_set2, q_par, k_p1, k_p1X, k_p2, k_p2X, q_sub, k_u1, k_u1X, k_u2, k_u3, k_u4, q_fld, k_w1, k_w1X, k_w2, q_ex, k_ex, k_exX, q_ret, k_rF, k_rT, k_rX, k_rf, q_retN, q_if, k_ifT, k_ifF, k_ifX, q_raise, k_rs, q_aug, k_agA, k_agS, q_pass, q_brk, q_cont, fin_rt, fin_nx, fin_ex, cmpR.eq_def, clsD.eq_def, ixD.eq_def, seqOf.eq_def, bin.eq_def, binI_add, binI_sub, binI_mod, binI_fdiv, binI_mulL, binI_mulR, Bool.and_self, sm_a, sm_b, sm_c, sm_d, sm_e, sm_f, sm_g, sm_h, sm_i, sm_j, sm_k, lg64, lg4096, lg65536, cmp.eq_def, truth.eq_def, biD.eq_def, lenD.eq_def, absD.eq_def, intD.eq_def, minD.eq_def, maxD.eq_def, newL.eq_def, bindT.eq_1, bindT.eq_2, bindT.eq_3, setD.eq_def, isNone.eq_def, List.getElem?_cons_zero, List.getElem?_cons_succ, List.set_cons_zero, List.set_cons_succ, List.length_cons, List.length_nil, at0, at1, at2, at3, if_true, if_false, decide_true, decide_false, and_self, and_true, true_and, Bool.false_eq_true, Nat.reduceAdd, Nat.reduceLT, Nat.reduceLeDiff, Nat.reduceSub, Nat.reduceEqDiff, Int.reduceLT, Int.reduceLE, Int.reduceNeg, Int.reduceToNat, reduceIte, reduceCtorEq, ix3_0, ix3_1, ix3_2, big, Nat.zero_le, ne_eq, not_false_eq_true, not_true_eq_false, isiD.eq_1, isiD.eq_2, isiOne.eq_def, tyBlt.eq_def, Option.map_some, Bool.not_true, Bool.not_false] <;> rfl
structure Good (ws : List Str) (p g s f : D) : Prop where
  v : Vals4 ws p g s f
  u : VPu p g s f
  fl : ∀ l, f ≠ .lst l ∧ f ≠ .tup l
  sl : ∀ es, s = .tup es → es.length < 100
theorem callers_ok (k n t : Nat) (M : Store) {ws : List Str} (hw : WsOk ws) (h0 : 0 < ws.length) (hl : ws.length < 1000) (hp : PotAt M n t) (ht : t < 10000) : ∃ p g s f M', run Z.G (k + 5) 11 [.ref n, .lst (ws.map .str)] M = .ok (.tup [.tup [p, g, s, f], dueD ws p g s f]) M' ∧ Good ws p g s f ∧ PotAt M' n (t + 10) ∧ Drawn n M M' := by
  have hpu : D.pures (ws.map D.str) = true := pures_iff.mpr fun d hd => by
    obtain ⟨w, _, rfl⟩ := List.mem_map.mp hd
    rfl
  obtain ⟨v, M1, t1, v0, v1, p1, d1⟩ := tk (k + 3) n t 1000000000000000000000000000000000000000000000000000000000000000000000000000000000000000000000000000 M hp (by omega) (by decide) (by decide +kernel)
  obtain ⟨p, M2, t2, hpm, p2, d2⟩ := (of_ (k + 2) n (t + 1) M1 p1 (by omega)).1 _ [.non, .int 0, .int 1, .int v, .int v, .int (-1 - v), .bl true, .bl false, .str "0", .tup []] (.inl rfl) rfl (by simp) (by simp)
  obtain ⟨g, M3, t3, hgm, p3, d3⟩ := (of_ (k + 2) n (t + 1 + 1) M2 p2 (by omega)).1 _ [.str "equal", .str "same", .str "equal", .str "same", .str "", .non, .bl true, .lst [.str "same"], .str "Equal"] (.inl rfl) rfl (by simp) (by simp)
  obtain ⟨m, M4, t4, m0, m1, p4, d4⟩ := tk (k + 3) n (t + 1 + 1 + 1) 4 M3 p3 (by omega) (by decide) (by decide +kernel)
  obtain ⟨ms, rest, M5, t5, pm, ml, p5, d5⟩ := pick (k + 2) n (t + 1 + 1 + 1 + 1) M4 (.lst (ws.map D.str)) (ws.map D.str) m p4 (by rw [List.length_map]; omega) (.inl rfl) hpu m0
  rw [List.length_map] at ml
  have hms : ∀ y ∈ ms, ∃ w ∈ ws, y = .str w := fun y hy => by
    obtain ⟨w, h1, h2⟩ := List.mem_map.mp (pm.mem_iff.mp (List.mem_append_left rest hy))
    exact ⟨w, h1, h2.symm⟩
  have hmp : D.pures ms = true := pures_iff.mpr fun d hd => by
    obtain ⟨w, _, rfl⟩ := hms d hd
    rfl
  have hmu : ∀ N, D.unds N ms = true := fun N => D.unds_pure ms hmp
  have hm3 : ms.length ≤ 3 := by omega
  obtain ⟨w0, hw0⟩ : ∃ w0, ws[0]? = some w0 := ⟨ws[0], List.getElem?_eq_getElem h0⟩
  have hmm : ∀ N, D.unds N (ms ++ ms) = true := fun N => unds_append (hmu N) (hmu N)
  let s15 : List D := [.non, .tup ms, .tup (ms ++ ms), .tup [], .tup ms, .lst ms, .tup [.str "A"], .tup [.non], .str w0, .tup [.str "if"], .tup [.tup ms], .int 0] ++ [.tup (ms ++ [.str "A"]), .tup (ms ++ [.lst []]), .tup (ms ++ [.non] ++ ms)]
  have hu15 : D.unds M5.length s15 = true := by
    simp only [s15, List.cons_append, List.nil_append, D.unds, D.und, hmu, hmm, Bool.and_true, Bool.true_and, Bool.and_self]
    simp only [unds_append (hmu _) (show D.unds M5.length [D.str (Str.ofString "A")] = true from rfl), unds_append (hmu _) (show D.unds M5.length [D.lst []] = true from rfl), unds_append (unds_append (hmu _) (show D.unds M5.length [D.non] = true from rfl)) (hmu _), Bool.and_self]
  obtain ⟨s, M6, t6, hsm, p6, d6⟩ := (of_ (k + 2) n (t + 1 + 1 + 1 + 1 + ms.length) M5 p5 (by omega)).1 _ s15 (.inl rfl) hu15 (by simp [s15]) (by simp [s15])
  obtain ⟨f, M7, t7, hfm, p7, d7⟩ := (of_ (k + 2) n (t + 1 + 1 + 1 + 1 + ms.length + 1) M6 p6 (by omega)).1 _ [.bl true, .bl false, .bl true, .bl false, .non, .int 0, .int 1, .str "True"] (.inl rfl) rfl (by simp) (by simp)
  -- what they are
  have hP : Pln p ∧ p.pure = true := by
    simp only [List.mem_cons, List.not_mem_nil, or_false] at hpm
    rcases hpm with rfl | rfl | rfl | rfl | rfl | rfl | rfl | rfl | rfl | rfl <;> refine ⟨?_, rfl⟩ <;> first | exact .inl rfl | exact .inr (.inl ⟨_, rfl⟩) | exact .inr (.inr (.inl ⟨_, rfl⟩)) | exact .inr (.inr (.inr (.inl ⟨_, rfl⟩))) | exact .inr (.inr (.inr (.inr (.inl ⟨_, rfl⟩))))
  have hGz : PGz g ∧ g.pure = true := by
    simp only [List.mem_cons, List.not_mem_nil, or_false] at hgm
    rcases hgm with rfl | rfl | rfl | rfl | rfl | rfl | rfl | rfl | rfl <;> refine ⟨?_, rfl⟩ <;> first | exact .inl ⟨_, rfl, by decide +kernel⟩ | exact .inr (.inl rfl) | exact .inr (.inr (.inl ⟨_, rfl⟩)) | exact .inr (.inr (.inr rfl))
  have hF : Pln f ∧ f.pure = true ∧ ∀ l, f ≠ .lst l ∧ f ≠ .tup l := by
    simp only [List.mem_cons, List.not_mem_nil, or_false] at hfm
    rcases hfm with rfl | rfl | rfl | rfl | rfl | rfl | rfl | rfl <;> refine ⟨?_, rfl, fun l => ⟨fun h => (nomatch h), fun h => (nomatch h)⟩⟩ <;> first | exact .inl rfl | exact .inr (.inl ⟨_, rfl⟩) | exact .inr (.inr (.inl ⟨_, rfl⟩)) | exact .inr (.inr (.inr (.inl ⟨_, rfl⟩)))
  have hel : ∀ y ∈ ms, Elem ws y := fun y hy => .inl (hms y hy)
  have pmA : ∀ a b : List D, D.pures a = true → D.pures b = true → D.pures (a ++ b) = true := fun a b ha hb => pures_iff.mpr fun d hd => by
    rcases List.mem_append.mp hd with h | h
    · exact pures_iff.mp ha d h
    · exact pures_iff.mp hb d h
  have tp : ∀ es : List D, Pln (.tup es) := fun es => .inr (.inr (.inr (.inr (.inl ⟨_, rfl⟩))))
  have hS : Pln s ∧ s.pure = true ∧ (∀ es, s = .tup es → ∀ e ∈ es, Elem ws e) ∧ ∀ es, s = .tup es → es.length < 100 := by
    simp only [s15, List.cons_append, List.nil_append, List.mem_cons, List.not_mem_nil, or_false] at hsm
    have one : ∀ (es : List D), D.pures es = true → (∀ e ∈ es, Elem ws e) → es.length < 100 → Pln (.tup es) ∧ (D.tup es).pure = true ∧ (∀ es', D.tup es = .tup es' → ∀ e ∈ es', Elem ws e) ∧ ∀ es', D.tup es = .tup es' → es'.length < 100 := fun es h1 h2 h3 => ⟨tp es, h1, fun es' e => by cases e; exact h2, fun es' e => by cases e; exact h3⟩
    have apd : ∀ a b : List D, (∀ e ∈ a, Elem ws e) → (∀ e ∈ b, Elem ws e) → ∀ e ∈ a ++ b, Elem ws e := fun a b ha hb e he => by
      rcases List.mem_append.mp he with h | h
      · exact ha e h
      · exact hb e h
    have sg : ∀ x : D, Elem ws x → ∀ e ∈ [x], Elem ws e := fun x hx e he => by rw [List.mem_singleton.mp he]; exact hx
    have no : ∀ {d : D}, (∀ es, d ≠ .tup es) → (∀ es, d = .tup es → ∀ e ∈ es, Elem ws e) ∧ ∀ es, d = .tup es → es.length < 100 := fun h => ⟨fun es e => absurd e (h es), fun es e => absurd e (h es)⟩
    rcases hsm with rfl | rfl | rfl | rfl | rfl | rfl | rfl | rfl | rfl | rfl | rfl | rfl | rfl | rfl | rfl
    · exact ⟨.inl rfl, rfl, no fun es h => by cases h⟩
    · exact one _ hmp hel (by omega)
    · exact one _ (pmA _ _ hmp hmp) (apd _ _ hel hel) (by simp; omega)
    · exact one _ rfl (by simp) (by simp)
    · exact one _ hmp hel (by omega)
    · exact ⟨.inr (.inr (.inr (.inr (.inr ⟨_, rfl⟩)))), hmp, no fun es h => by cases h⟩
    · exact one _ rfl (sg _ (.inr (.inl rfl))) (by simp)
    · exact one _ rfl (sg _ (.inr (.inr (.inr (.inl rfl))))) (by simp)
    · exact ⟨.inr (.inr (.inr (.inl ⟨_, rfl⟩))), rfl, no fun es h => by cases h⟩
    · exact one _ rfl (sg _ (.inr (.inr (.inl rfl)))) (by simp)
    · refine one _ ?_ (sg _ (.inr (.inr (.inr (.inr (.inr ⟨_, rfl⟩)))))) (by simp)
      simp only [D.pures, D.pure, hmp, Bool.and_self]
    · exact ⟨.inr (.inl ⟨_, rfl⟩), rfl, no fun es h => by cases h⟩
    · exact one _ (pmA _ _ hmp rfl) (apd _ _ hel (sg _ (.inr (.inl rfl)))) (by simp; omega)
    · exact one _ (pmA _ _ hmp rfl) (apd _ _ hel (sg _ (.inr (.inr (.inr (.inr (.inl ⟨_, rfl⟩))))))) (by simp; omega)
    · exact one _ (pmA _ _ (pmA _ _ hmp rfl) hmp) (apd _ _ (apd _ _ hel (sg _ (.inr (.inr (.inr (.inl rfl)))))) hel) (by simp; omega)
  have hpu4 : VPu p g s f := by
    unfold VPu
    simp only [D.pures, hP.2, hGz.2, hS.2.1, hF.2.1, Bool.and_self]
  have dr : Drawn n M M7 := (((((d1.trans d2).trans d3).trans d4).trans d5).trans d6).trans d7
  have GD : Good ws p g s f := ⟨⟨hw, hP.1, hGz.1, hS.1, hS.2.2.1, hF.1⟩, hpu4, hF.2.2, hS.2.2.2⟩
  refine ⟨p, g, s, f, M7, ?_, GD, p7.mono (by omega), dr⟩
  rw [run_eq (G := Z.G) (f := 11) (F := ⟨2, 9, b11⟩) rfl ⟨rfl, (by decide : 2 ≤ 9)⟩]
  show fin _ (sxs (Cj (k + 4)) b11 [some (.ref n), some (.lst (ws.map .str)), none, none, none, none, none, none, none] _) = _
  unfold b11
  refine step (ρ1 := [some (.ref n), some (.lst (ws.map .str)), some (.int v), none, none, none, none, none, none]) (M1 := M1) (by simp -implicitDefEqProofs only [bind_ok, bind_ex, fl_ok, fl_ex, seq_nx, seq_rt, seq_ex, q_k, q_v, q_g, q_tup, q_lst, q_bin, q_neg, q_evT, q_not, q_and1, q_and, q_or1, q_or, q_cmp, q_cmp2, q_ite, q_ix, q_sl, q_o0, q_o1, q_call, q_mk, q_bi, q_bm, q_attr, q_isi, q_e0, q_e1, q_e2, k_v, k_of, k_tup, k_tupX, k_lst, k_lstX, k_b1, k_b1X, k_b2, k_b2X, k_neg, k_t, k_tX, k_not, k_notX, k_and, k_andX, k_andT, k_andF, k_or, k_orX, k_orT, k_orF, k_c1, k_c1X, k_c2, k_c2X, k_d1, k_d2, k_d3T, k_d3F, k_d4, k_iT, k_iF, k_iX, k_x1, k_x1X, k_x2, k_x2X, k_s1, k_s2, k_s3, k_o, k_a1, k_a1X, k_a2, k_a2X, k_m1, k_m1X, k_m2, k_m2X, k_bi, k_biX, k_bm1, k_bm1X, k_bm2, k_bm3, k_bm3X, k_at, k_atX, k_is, k_isX, k_e1, k_e1X, k_e2, k_e2X, k_f1, k_f2, q_ss0, q_ss1, k_sq, k_sqR, k_sqX, k_sqB, k_sqC, q_set, k_set, k_setX, k_set2, q_par, k_p1, k_p1X, k_p2, k_p2X, q_sub, k_u1, k_u1X, k_u2, k_u3, k_u4, q_fld, k_w1, k_w1X, k_w2, q_ex, k_ex, k_exX, q_ret, k_rF, k_rT, k_rX, k_rf, q_retN, q_if, k_ifT, k_ifF, k_ifX, q_raise, k_rs, q_aug, k_agA, k_agS, q_pass, q_brk, q_cont, fin_rt, fin_nx, fin_ex, cmpR.eq_def, clsD.eq_def, ixD.eq_def, seqOf.eq_def, bin.eq_def, binI_add, binI_sub, binI_mod, binI_fdiv, binI_mulL, binI_mulR, Bool.and_self, sm_a, sm_b, sm_c, sm_d, sm_e, sm_f, sm_g, sm_h, sm_i, sm_j, sm_k, lg64, lg4096, lg65536, cmp.eq_def, truth.eq_def, biD.eq_def, lenD.eq_def, absD.eq_def, intD.eq_def, minD.eq_def, maxD.eq_def, newL.eq_def, bindT.eq_1, bindT.eq_2, bindT.eq_3, setD.eq_def, isNone.eq_def, List.getElem?_cons_zero, List.getElem?_cons_succ, List.set_cons_zero, List.set_cons_succ, List.length_cons, List.length_nil, at0, at1, at2, at3, if_true, if_false, decide_true, decide_false, and_self, and_true, true_and, Bool.false_eq_true, Nat.reduceAdd, Nat.reduceLT, Nat.reduceLeDiff, Nat.reduceSub, Nat.reduceEqDiff, Int.reduceLT, Int.reduceLE, Int.reduceNeg, Int.reduceToNat, reduceIte, reduceCtorEq, ix3_0, ix3_1, ix3_2, big, Nat.zero_le, ne_eq, not_false_eq_true, not_true_eq_false, isiD.eq_1, isiD.eq_2, isiOne.eq_def, tyBlt.eq_def, Option.map_some, Bool.not_true, Bool.not_false, p49, p50, pm99, C_s0, callG.eq_def, sel.eq_1, sel.eq_2, sel.eq_3, sel.eq_4, C_call, List.append_nil, t1]) ?_
  refine step (ρ1 := [some (.ref n), some (.lst (ws.map .str)), some (.int v), some p, none, none, none, none, none]) (M1 := M2) (by simp -implicitDefEqProofs only [bind_ok, bind_ex, fl_ok, fl_ex, seq_nx, seq_rt, seq_ex, q_k, q_v, q_g, q_tup, q_lst, q_bin, q_neg, q_evT, q_not, q_and1, q_and, q_or1, q_or, q_cmp, q_cmp2, q_ite, q_ix, q_sl, q_o0, q_o1, q_call, q_mk, q_bi, q_bm, q_attr, q_isi, q_e0, q_e1, q_e2, k_v, k_of, k_tup, k_tupX, k_lst, k_lstX, k_b1, k_b1X, k_b2, k_b2X, k_neg, k_t, k_tX, k_not, k_notX, k_and, k_andX, k_andT, k_andF, k_or, k_orX, k_orT, k_orF, k_c1, k_c1X, k_c2, k_c2X, k_d1, k_d2, k_d3T, k_d3F, k_d4, k_iT, k_iF, k_iX, k_x1, k_x1X, k_x2, k_x2X, k_s1, k_s2, k_s3, k_o, k_a1, k_a1X, k_a2, k_a2X, k_m1, k_m1X, k_m2, k_m2X, k_bi, k_biX, k_bm1, k_bm1X, k_bm2, k_bm3, k_bm3X, k_at, k_atX, k_is, k_isX, k_e1, k_e1X, k_e2, k_e2X, k_f1, k_f2, q_ss0, q_ss1, k_sq, k_sqR, k_sqX, k_sqB, k_sqC, q_set, k_set, k_setX, k_set2, q_par, k_p1, k_p1X, k_p2, k_p2X, q_sub, k_u1, k_u1X, k_u2, k_u3, k_u4, q_fld, k_w1, k_w1X, k_w2, q_ex, k_ex, k_exX, q_ret, k_rF, k_rT, k_rX, k_rf, q_retN, q_if, k_ifT, k_ifF, k_ifX, q_raise, k_rs, q_aug, k_agA, k_agS, q_pass, q_brk, q_cont, fin_rt, fin_nx, fin_ex, cmpR.eq_def, clsD.eq_def, ixD.eq_def, seqOf.eq_def, bin.eq_def, binI_add, binI_sub, binI_mod, binI_fdiv, binI_mulL, binI_mulR, Bool.and_self, sm_a, sm_b, sm_c, sm_d, sm_e, sm_f, sm_g, sm_h, sm_i, sm_j, sm_k, lg64, lg4096, lg65536, cmp.eq_def, truth.eq_def, biD.eq_def, lenD.eq_def, absD.eq_def, intD.eq_def, minD.eq_def, maxD.eq_def, newL.eq_def, bindT.eq_1, bindT.eq_2, bindT.eq_3, setD.eq_def, isNone.eq_def, List.getElem?_cons_zero, List.getElem?_cons_succ, List.set_cons_zero, List.set_cons_succ, List.length_cons, List.length_nil, at0, at1, at2, at3, if_true, if_false, decide_true, decide_false, and_self, and_true, true_and, Bool.false_eq_true, Nat.reduceAdd, Nat.reduceLT, Nat.reduceLeDiff, Nat.reduceSub, Nat.reduceEqDiff, Int.reduceLT, Int.reduceLE, Int.reduceNeg, Int.reduceToNat, reduceIte, reduceCtorEq, ix3_0, ix3_1, ix3_2, big, Nat.zero_le, ne_eq, not_false_eq_true, not_true_eq_false, isiD.eq_1, isiD.eq_2, isiOne.eq_def, tyBlt.eq_def, Option.map_some, Bool.not_true, Bool.not_false, C_s0, callG.eq_def, sel.eq_1, sel.eq_2, sel.eq_3, sel.eq_4, C_call, List.append_nil, t2]) ?_
  refine step (ρ1 := [some (.ref n), some (.lst (ws.map .str)), some (.int v), some p, some g, none, none, none, none]) (M1 := M3) (by simp -implicitDefEqProofs only [bind_ok, bind_ex, fl_ok, fl_ex, seq_nx, seq_rt, seq_ex, q_k, q_v, q_g, q_tup, q_lst, q_bin, q_neg, q_evT, q_not, q_and1, q_and, q_or1, q_or, q_cmp, q_cmp2, q_ite, q_ix, q_sl, q_o0, q_o1, q_call, q_mk, q_bi, q_bm, q_attr, q_isi, q_e0, q_e1, q_e2, k_v, k_of, k_tup, k_tupX, k_lst, k_lstX, k_b1, k_b1X, k_b2, k_b2X, k_neg, k_t, k_tX, k_not, k_notX, k_and, k_andX, k_andT, k_andF, k_or, k_orX, k_orT, k_orF, k_c1, k_c1X, k_c2, k_c2X, k_d1, k_d2, k_d3T, k_d3F, k_d4, k_iT, k_iF, k_iX, k_x1, k_x1X, k_x2, k_x2X, k_s1, k_s2, k_s3, k_o, k_a1, k_a1X, k_a2, k_a2X, k_m1, k_m1X, k_m2, k_m2X, k_bi, k_biX, k_bm1, k_bm1X, k_bm2, k_bm3, k_bm3X, k_at, k_atX, k_is, k_isX, k_e1, k_e1X, k_e2, k_e2X, k_f1, k_f2, q_ss0, q_ss1, k_sq, k_sqR, k_sqX, k_sqB, k_sqC, q_set, k_set, k_setX, k_set2, q_par, k_p1, k_p1X, k_p2, k_p2X, q_sub, k_u1, k_u1X, k_u2, k_u3, k_u4, q_fld, k_w1, k_w1X, k_w2, q_ex, k_ex, k_exX, q_ret, k_rF, k_rT, k_rX, k_rf, q_retN, q_if, k_ifT, k_ifF, k_ifX, q_raise, k_rs, q_aug, k_agA, k_agS, q_pass, q_brk, q_cont, fin_rt, fin_nx, fin_ex, cmpR.eq_def, clsD.eq_def, ixD.eq_def, seqOf.eq_def, bin.eq_def, binI_add, binI_sub, binI_mod, binI_fdiv, binI_mulL, binI_mulR, Bool.and_self, sm_a, sm_b, sm_c, sm_d, sm_e, sm_f, sm_g, sm_h, sm_i, sm_j, sm_k, lg64, lg4096, lg65536, cmp.eq_def, truth.eq_def, biD.eq_def, lenD.eq_def, absD.eq_def, intD.eq_def, minD.eq_def, maxD.eq_def, newL.eq_def, bindT.eq_1, bindT.eq_2, bindT.eq_3, setD.eq_def, isNone.eq_def, List.getElem?_cons_zero, List.getElem?_cons_succ, List.set_cons_zero, List.set_cons_succ, List.length_cons, List.length_nil, at0, at1, at2, at3, if_true, if_false, decide_true, decide_false, and_self, and_true, true_and, Bool.false_eq_true, Nat.reduceAdd, Nat.reduceLT, Nat.reduceLeDiff, Nat.reduceSub, Nat.reduceEqDiff, Int.reduceLT, Int.reduceLE, Int.reduceNeg, Int.reduceToNat, reduceIte, reduceCtorEq, ix3_0, ix3_1, ix3_2, big, Nat.zero_le, ne_eq, not_false_eq_true, not_true_eq_false, isiD.eq_1, isiD.eq_2, isiOne.eq_def, tyBlt.eq_def, Option.map_some, Bool.not_true, Bool.not_false, C_s0, callG.eq_def, sel.eq_1, sel.eq_2, sel.eq_3, sel.eq_4, C_call, List.append_nil, t3]) ?_
  refine step (ρ1 := [some (.ref n), some (.lst (ws.map .str)), some (.int v), some p, some g, some (.tup ms), none, none, none]) (M1 := M5) (by simp -implicitDefEqProofs only [bind_ok, bind_ex, fl_ok, fl_ex, seq_nx, seq_rt, seq_ex, q_k, q_v, q_g, q_tup, q_lst, q_bin, q_neg, q_evT, q_not, q_and1, q_and, q_or1, q_or, q_cmp, q_cmp2, q_ite, q_ix, q_sl, q_o0, q_o1, q_call, q_mk, q_bi, q_bm, q_attr, q_isi, q_e0, q_e1, q_e2, k_v, k_of, k_tup, k_tupX, k_lst, k_lstX, k_b1, k_b1X, k_b2, k_b2X, k_neg, k_t, k_tX, k_not, k_notX, k_and, k_andX, k_andT, k_andF, k_or, k_orX, k_orT, k_orF, k_c1, k_c1X, k_c2, k_c2X, k_d1, k_d2, k_d3T, k_d3F, k_d4, k_iT, k_iF, k_iX, k_x1, k_x1X, k_x2, k_x2X, k_s1, k_s2, k_s3, k_o, k_a1, k_a1X, k_a2, k_a2X, k_m1, k_m1X, k_m2, k_m2X, k_bi, k_biX, k_bm1, k_bm1X, k_bm2, k_bm3, k_bm3X, k_at, k_atX, k_is, k_isX, k_e1, k_e1X, k_e2, k_e2X, k_f1, k_f2, q_ss0, q_ss1, k_sq, k_sqR, k_sqX, k_sqB, k_sqC, q_set, k_set, k_setX, k_set2, q_par, k_p1, k_p1X, k_p2, k_p2X, q_sub, k_u1, k_u1X, k_u2, k_u3, k_u4, q_fld, k_w1, k_w1X, k_w2, q_ex, k_ex, k_exX, q_ret, k_rF, k_rT, k_rX, k_rf, q_retN, q_if, k_ifT, k_ifF, k_ifX, q_raise, k_rs, q_aug, k_agA, k_agS, q_pass, q_brk, q_cont, fin_rt, fin_nx, fin_ex, cmpR.eq_def, clsD.eq_def, ixD.eq_def, seqOf.eq_def, bin.eq_def, binI_add, binI_sub, binI_mod, binI_fdiv, binI_mulL, binI_mulR, Bool.and_self, sm_a, sm_b, sm_c, sm_d, sm_e, sm_f, sm_g, sm_h, sm_i, sm_j, sm_k, lg64, lg4096, lg65536, cmp.eq_def, truth.eq_def, biD.eq_def, lenD.eq_def, absD.eq_def, intD.eq_def, minD.eq_def, maxD.eq_def, newL.eq_def, bindT.eq_1, bindT.eq_2, bindT.eq_3, setD.eq_def, isNone.eq_def, List.getElem?_cons_zero, List.getElem?_cons_succ, List.set_cons_zero, List.set_cons_succ, List.length_cons, List.length_nil, at0, at1, at2, at3, if_true, if_false, decide_true, decide_false, and_self, and_true, true_and, Bool.false_eq_true, Nat.reduceAdd, Nat.reduceLT, Nat.reduceLeDiff, Nat.reduceSub, Nat.reduceEqDiff, Int.reduceLT, Int.reduceLE, Int.reduceNeg, Int.reduceToNat, reduceIte, reduceCtorEq, ix3_0, ix3_1, ix3_2, big, Nat.zero_le, ne_eq, not_false_eq_true, not_true_eq_false, isiD.eq_1, isiD.eq_2, isiOne.eq_def, tyBlt.eq_def, Option.map_some, Bool.not_true, Bool.not_false, C_s0, C_s4, callG.eq_def, sel.eq_1, sel.eq_2, sel.eq_3, sel.eq_4, C_call, List.append_nil, t4, t5, tupleD.eq_def]) ?_
  have hrep : (List.replicate (Int.toNat 2) ms).flatten = ms ++ ms := by simp [List.replicate]
  have hat : L2.atI (ws.map D.str) 0 = some (.str w0) := by
    rw [atN _ _ (by omega) (by simpa using h0)]
    simp [hw0]
  have hrep2 : (List.replicate 2 ms).flatten = ms ++ ms := by simp [List.replicate]
  have l1 : ms.length ≤ 1000 := by omega
  refine step (ρ1 := [some (.ref n), some (.lst (ws.map .str)), some (.int v), some p, some g, some (.tup ms), some (.lst [.non, .tup ms, .tup (ms ++ ms), .tup [], .tup ms, .lst ms, .tup [.str "A"], .tup [.non], .str w0, .tup [.str "if"], .tup [.tup ms], .int 0]), none, none]) (M1 := M5) (by simp -implicitDefEqProofs only [bind_ok, bind_ex, fl_ok, fl_ex, seq_nx, seq_rt, seq_ex, q_k, q_v, q_g, q_tup, q_lst, q_bin, q_neg, q_evT, q_not, q_and1, q_and, q_or1, q_or, q_cmp, q_cmp2, q_ite, q_ix, q_sl, q_o0, q_o1, q_call, q_mk, q_bi, q_bm, q_attr, q_isi, q_e0, q_e1, q_e2, k_v, k_of, k_tup, k_tupX, k_lst, k_lstX, k_b1, k_b1X, k_b2, k_b2X, k_neg, k_t, k_tX, k_not, k_notX, k_and, k_andX, k_andT, k_andF, k_or, k_orX, k_orT, k_orF, k_c1, k_c1X, k_c2, k_c2X, k_d1, k_d2, k_d3T, k_d3F, k_d4, k_iT, k_iF, k_iX, k_x1, k_x1X, k_x2, k_x2X, k_s1, k_s2, k_s3, k_o, k_a1, k_a1X, k_a2, k_a2X, k_m1, k_m1X, k_m2, k_m2X, k_bi, k_biX, k_bm1, k_bm1X, k_bm2, k_bm3, k_bm3X, k_at, k_atX, k_is, k_isX, k_e1, k_e1X, k_e2, k_e2X, k_f1, k_f2, q_ss0, q_ss1, k_sq, k_sqR, k_sqX, k_sqB, k_sqC, q_set, k_set, k_setX, k_set2, q_par, k_p1, k_p1X, k_p2, k_p2X, q_sub, k_u1, k_u1X, k_u2, k_u3, k_u4, q_fld, k_w1, k_w1X, k_w2, q_ex, k_ex, k_exX, q_ret, k_rF, k_rT, k_rX, k_rf, q_retN, q_if, k_ifT, k_ifF, k_ifX, q_raise, k_rs, q_aug, k_agA, k_agS, q_pass, q_brk, q_cont, fin_rt, fin_nx, fin_ex, cmpR.eq_def, clsD.eq_def, ixD.eq_def, seqOf.eq_def, bin.eq_def, binI_add, binI_sub, binI_mod, binI_fdiv, binI_mulL, binI_mulR, Bool.and_self, sm_a, sm_b, sm_c, sm_d, sm_e, sm_f, sm_g, sm_h, sm_i, sm_j, sm_k, lg64, lg4096, lg65536, cmp.eq_def, truth.eq_def, biD.eq_def, lenD.eq_def, absD.eq_def, intD.eq_def, minD.eq_def, maxD.eq_def, newL.eq_def, bindT.eq_1, bindT.eq_2, bindT.eq_3, setD.eq_def, isNone.eq_def, List.getElem?_cons_zero, List.getElem?_cons_succ, List.set_cons_zero, List.set_cons_succ, List.length_cons, List.length_nil, at0, at1, at2, at3, if_true, if_false, decide_true, decide_false, and_self, and_true, true_and, Bool.false_eq_true, Nat.reduceAdd, Nat.reduceLT, Nat.reduceLeDiff, Nat.reduceSub, Nat.reduceEqDiff, Int.reduceLT, Int.reduceLE, Int.reduceNeg, Int.reduceToNat, reduceIte, reduceCtorEq, ix3_0, ix3_1, ix3_2, big, Nat.zero_le, ne_eq, not_false_eq_true, not_true_eq_false, isiD.eq_1, isiD.eq_2, isiOne.eq_def, tyBlt.eq_def, Option.map_some, Bool.not_true, Bool.not_false, hrep, hrep2, hat, l1, listD.eq_def]) ?_
  have l2 : ms.length + 1 ≤ 16777216 := by omega
  have l3 : ms.length + 1 + ms.length ≤ 16777216 := by omega
  refine step (ρ1 := [some (.ref n), some (.lst (ws.map .str)), some (.int v), some p, some g, some (.tup ms), some (.lst s15), none, none]) (M1 := M5) (by simp -implicitDefEqProofs only [bind_ok, bind_ex, fl_ok, fl_ex, seq_nx, seq_rt, seq_ex, q_k, q_v, q_g, q_tup, q_lst, q_bin, q_neg, q_evT, q_not, q_and1, q_and, q_or1, q_or, q_cmp, q_cmp2, q_ite, q_ix, q_sl, q_o0, q_o1, q_call, q_mk, q_bi, q_bm, q_attr, q_isi, q_e0, q_e1, q_e2, k_v, k_of, k_tup, k_tupX, k_lst, k_lstX, k_b1, k_b1X, k_b2, k_b2X, k_neg, k_t, k_tX, k_not, k_notX, k_and, k_andX, k_andT, k_andF, k_or, k_orX, k_orT, k_orF, k_c1, k_c1X, k_c2, k_c2X, k_d1, k_d2, k_d3T, k_d3F, k_d4, k_iT, k_iF, k_iX, k_x1, k_x1X, k_x2, k_x2X, k_s1, k_s2, k_s3, k_o, k_a1, k_a1X, k_a2, k_a2X, k_m1, k_m1X, k_m2, k_m2X, k_bi, k_biX, k_bm1, k_bm1X, k_bm2, k_bm3, k_bm3X, k_at, k_atX, k_is, k_isX, k_e1, k_e1X, k_e2, k_e2X, k_f1, k_f2, q_ss0, q_ss1, k_sq, k_sqR, k_sqX, k_sqB, k_sqC, q_set, k_set, k_setX, k_set2, q_par, k_p1, k_p1X, k_p2, k_p2X, q_sub, k_u1, k_u1X, k_u2, k_u3, k_u4, q_fld, k_w1, k_w1X, k_w2, q_ex, k_ex, k_exX, q_ret, k_rF, k_rT, k_rX, k_rf, q_retN, q_if, k_ifT, k_ifF, k_ifX, q_raise, k_rs, q_aug, k_agA, k_agS, q_pass, q_brk, q_cont, fin_rt, fin_nx, fin_ex, cmpR.eq_def, clsD.eq_def, ixD.eq_def, seqOf.eq_def, bin.eq_def, binI_add, binI_sub, binI_mod, binI_fdiv, binI_mulL, binI_mulR, Bool.and_self, sm_a, sm_b, sm_c, sm_d, sm_e, sm_f, sm_g, sm_h, sm_i, sm_j, sm_k, lg64, lg4096, lg65536, cmp.eq_def, truth.eq_def, biD.eq_def, lenD.eq_def, absD.eq_def, intD.eq_def, minD.eq_def, maxD.eq_def, newL.eq_def, bindT.eq_1, bindT.eq_2, bindT.eq_3, setD.eq_def, isNone.eq_def, List.getElem?_cons_zero, List.getElem?_cons_succ, List.set_cons_zero, List.set_cons_succ, List.length_cons, List.length_nil, at0, at1, at2, at3, if_true, if_false, decide_true, decide_false, and_self, and_true, true_and, Bool.false_eq_true, Nat.reduceAdd, Nat.reduceLT, Nat.reduceLeDiff, Nat.reduceSub, Nat.reduceEqDiff, Int.reduceLT, Int.reduceLE, Int.reduceNeg, Int.reduceToNat, reduceIte, reduceCtorEq, ix3_0, ix3_1, ix3_2, big, Nat.zero_le, ne_eq, not_false_eq_true, not_true_eq_false, isiD.eq_1, isiD.eq_2, isiOne.eq_def, tyBlt.eq_def, Option.map_some, Bool.not_true, Bool.not_false, l2, l3, List.length_append]; rfl) ?_
  refine step (ρ1 := [some (.ref n), some (.lst (ws.map .str)), some (.int v), some p, some g, some (.tup ms), some s, none, none]) (M1 := M6) (by simp -implicitDefEqProofs only [bind_ok, bind_ex, fl_ok, fl_ex, seq_nx, seq_rt, seq_ex, q_k, q_v, q_g, q_tup, q_lst, q_bin, q_neg, q_evT, q_not, q_and1, q_and, q_or1, q_or, q_cmp, q_cmp2, q_ite, q_ix, q_sl, q_o0, q_o1, q_call, q_mk, q_bi, q_bm, q_attr, q_isi, q_e0, q_e1, q_e2, k_v, k_of, k_tup, k_tupX, k_lst, k_lstX, k_b1, k_b1X, k_b2, k_b2X, k_neg, k_t, k_tX, k_not, k_notX, k_and, k_andX, k_andT, k_andF, k_or, k_orX, k_orT, k_orF, k_c1, k_c1X, k_c2, k_c2X, k_d1, k_d2, k_d3T, k_d3F, k_d4, k_iT, k_iF, k_iX, k_x1, k_x1X, k_x2, k_x2X, k_s1, k_s2, k_s3, k_o, k_a1, k_a1X, k_a2, k_a2X, k_m1, k_m1X, k_m2, k_m2X, k_bi, k_biX, k_bm1, k_bm1X, k_bm2, k_bm3, k_bm3X, k_at, k_atX, k_is, k_isX, k_e1, k_e1X, k_e2, k_e2X, k_f1, k_f2, q_ss0, q_ss1, k_sq, k_sqR, k_sqX, k_sqB, k_sqC, q_set, k_set, k_setX, k_set2, q_par, k_p1, k_p1X, k_p2, k_p2X, q_sub, k_u1, k_u1X, k_u2, k_u3, k_u4, q_fld, k_w1, k_w1X, k_w2, q_ex, k_ex, k_exX, q_ret, k_rF, k_rT, k_rX, k_rf, q_retN, q_if, k_ifT, k_ifF, k_ifX, q_raise, k_rs, q_aug, k_agA, k_agS, q_pass, q_brk, q_cont, fin_rt, fin_nx, fin_ex, cmpR.eq_def, clsD.eq_def, ixD.eq_def, seqOf.eq_def, bin.eq_def, binI_add, binI_sub, binI_mod, binI_fdiv, binI_mulL, binI_mulR, Bool.and_self, sm_a, sm_b, sm_c, sm_d, sm_e, sm_f, sm_g, sm_h, sm_i, sm_j, sm_k, lg64, lg4096, lg65536, cmp.eq_def, truth.eq_def, biD.eq_def, lenD.eq_def, absD.eq_def, intD.eq_def, minD.eq_def, maxD.eq_def, newL.eq_def, bindT.eq_1, bindT.eq_2, bindT.eq_3, setD.eq_def, isNone.eq_def, List.getElem?_cons_zero, List.getElem?_cons_succ, List.set_cons_zero, List.set_cons_succ, List.length_cons, List.length_nil, at0, at1, at2, at3, if_true, if_false, decide_true, decide_false, and_self, and_true, true_and, Bool.false_eq_true, Nat.reduceAdd, Nat.reduceLT, Nat.reduceLeDiff, Nat.reduceSub, Nat.reduceEqDiff, Int.reduceLT, Int.reduceLE, Int.reduceNeg, Int.reduceToNat, reduceIte, reduceCtorEq, ix3_0, ix3_1, ix3_2, big, Nat.zero_le, ne_eq, not_false_eq_true, not_true_eq_false, isiD.eq_1, isiD.eq_2, isiOne.eq_def, tyBlt.eq_def, Option.map_some, Bool.not_true, Bool.not_false, C_s0, callG.eq_def, sel.eq_1, sel.eq_2, sel.eq_3, sel.eq_4, C_call, List.append_nil, t6]) ?_
  refine step (ρ1 := [some (.ref n), some (.lst (ws.map .str)), some (.int v), some p, some g, some (.tup ms), some s, some f, none]) (M1 := M7) (by simp -implicitDefEqProofs only [bind_ok, bind_ex, fl_ok, fl_ex, seq_nx, seq_rt, seq_ex, q_k, q_v, q_g, q_tup, q_lst, q_bin, q_neg, q_evT, q_not, q_and1, q_and, q_or1, q_or, q_cmp, q_cmp2, q_ite, q_ix, q_sl, q_o0, q_o1, q_call, q_mk, q_bi, q_bm, q_attr, q_isi, q_e0, q_e1, q_e2, k_v, k_of, k_tup, k_tupX, k_lst, k_lstX, k_b1, k_b1X, k_b2, k_b2X, k_neg, k_t, k_tX, k_not, k_notX, k_and, k_andX, k_andT, k_andF, k_or, k_orX, k_orT, k_orF, k_c1, k_c1X, k_c2, k_c2X, k_d1, k_d2, k_d3T, k_d3F, k_d4, k_iT, k_iF, k_iX, k_x1, k_x1X, k_x2, k_x2X, k_s1, k_s2, k_s3, k_o, k_a1, k_a1X, k_a2, k_a2X, k_m1, k_m1X, k_m2, k_m2X, k_bi, k_biX, k_bm1, k_bm1X, k_bm2, k_bm3, k_bm3X, k_at, k_atX, k_is, k_isX, k_e1, k_e1X, k_e2, k_e2X, k_f1, k_f2, q_ss0, q_ss1, k_sq, k_sqR, k_sqX, k_sqB, k_sqC, q_set, k_set, k_setX, k_set2, q_par, k_p1, k_p1X, k_p2, k_p2X, q_sub, k_u1, k_u1X, k_u2, k_u3, k_u4, q_fld, k_w1, k_w1X, k_w2, q_ex, k_ex, k_exX, q_ret, k_rF, k_rT, k_rX, k_rf, q_retN, q_if, k_ifT, k_ifF, k_ifX, q_raise, k_rs, q_aug, k_agA, k_agS, q_pass, q_brk, q_cont, fin_rt, fin_nx, fin_ex, cmpR.eq_def, clsD.eq_def, ixD.eq_def, seqOf.eq_def, bin.eq_def, binI_add, binI_sub, binI_mod, binI_fdiv, binI_mulL, binI_mulR, Bool.and_self, sm_a, sm_b, sm_c, sm_d, sm_e, sm_f, sm_g, sm_h, sm_i, sm_j, sm_k, lg64, lg4096, lg65536, cmp.eq_def, truth.eq_def, biD.eq_def, lenD.eq_def, absD.eq_def, intD.eq_def, minD.eq_def, maxD.eq_def, newL.eq_def, bindT.eq_1, bindT.eq_2, bindT.eq_3, setD.eq_def, isNone.eq_def, List.getElem?_cons_zero, List.getElem?_cons_succ, List.set_cons_zero, List.set_cons_succ, List.length_cons, List.length_nil, at0, at1, at2, at3, if_true, if_false, decide_true, decide_false, and_self, and_true, true_and, Bool.false_eq_true, Nat.reduceAdd, Nat.reduceLT, Nat.reduceLeDiff, Nat.reduceSub, Nat.reduceEqDiff, Int.reduceLT, Int.reduceLE, Int.reduceNeg, Int.reduceToNat, reduceIte, reduceCtorEq, ix3_0, ix3_1, ix3_2, big, Nat.zero_le, ne_eq, not_false_eq_true, not_true_eq_false, isiD.eq_1, isiD.eq_2, isiOne.eq_def, tyBlt.eq_def, Option.map_some, Bool.not_true, Bool.not_false, C_s0, callG.eq_def, sel.eq_1, sel.eq_2, sel.eq_3, sel.eq_4, C_call, List.append_nil, t7]) ?_
  refine step (ρ1 := [some (.ref n), some (.lst (ws.map .str)), some (.int v), some p, some g, some (.tup ms), some s, some f, some .non]) (M1 := M7) (by simp -implicitDefEqProofs only [bind_ok, bind_ex, fl_ok, fl_ex, seq_nx, seq_rt, seq_ex, q_k, q_v, q_g, q_tup, q_lst, q_bin, q_neg, q_evT, q_not, q_and1, q_and, q_or1, q_or, q_cmp, q_cmp2, q_ite, q_ix, q_sl, q_o0, q_o1, q_call, q_mk, q_bi, q_bm, q_attr, q_isi, q_e0, q_e1, q_e2, k_v, k_of, k_tup, k_tupX, k_lst, k_lstX, k_b1, k_b1X, k_b2, k_b2X, k_neg, k_t, k_tX, k_not, k_notX, k_and, k_andX, k_andT, k_andF, k_or, k_orX, k_orT, k_orF, k_c1, k_c1X, k_c2, k_c2X, k_d1, k_d2, k_d3T, k_d3F, k_d4, k_iT, k_iF, k_iX, k_x1, k_x1X, k_x2, k_x2X, k_s1, k_s2, k_s3, k_o, k_a1, k_a1X, k_a2, k_a2X, k_m1, k_m1X, k_m2, k_m2X, k_bi, k_biX, k_bm1, k_bm1X, k_bm2, k_bm3, k_bm3X, k_at, k_atX, k_is, k_isX, k_e1, k_e1X, k_e2, k_e2X, k_f1, k_f2, q_ss0, q_ss1, k_sq, k_sqR, k_sqX, k_sqB, k_sqC, q_set, k_set, k_setX, k_set2, q_par, k_p1, k_p1X, k_p2, k_p2X, q_sub, k_u1, k_u1X, k_u2, k_u3, k_u4, q_fld, k_w1, k_w1X, k_w2, q_ex, k_ex, k_exX, q_ret, k_rF, k_rT, k_rX, k_rf, q_retN, q_if, k_ifT, k_ifF, k_ifX, q_raise, k_rs, q_aug, k_agA, k_agS, q_pass, q_brk, q_cont, fin_rt, fin_nx, fin_ex, cmpR.eq_def, clsD.eq_def, ixD.eq_def, seqOf.eq_def, bin.eq_def, binI_add, binI_sub, binI_mod, binI_fdiv, binI_mulL, binI_mulR, Bool.and_self, sm_a, sm_b, sm_c, sm_d, sm_e, sm_f, sm_g, sm_h, sm_i, sm_j, sm_k, lg64, lg4096, lg65536, cmp.eq_def, truth.eq_def, biD.eq_def, lenD.eq_def, absD.eq_def, intD.eq_def, minD.eq_def, maxD.eq_def, newL.eq_def, bindT.eq_1, bindT.eq_2, bindT.eq_3, setD.eq_def, isNone.eq_def, List.getElem?_cons_zero, List.getElem?_cons_succ, List.set_cons_zero, List.set_cons_succ, List.length_cons, List.length_nil, at0, at1, at2, at3, if_true, if_false, decide_true, decide_false, and_self, and_true, true_and, Bool.false_eq_true, Nat.reduceAdd, Nat.reduceLT, Nat.reduceLeDiff, Nat.reduceSub, Nat.reduceEqDiff, Int.reduceLT, Int.reduceLE, Int.reduceNeg, Int.reduceToNat, reduceIte, reduceCtorEq, ix3_0, ix3_1, ix3_2, big, Nat.zero_le, ne_eq, not_false_eq_true, not_true_eq_false, isiD.eq_1, isiD.eq_2, isiOne.eq_def, tyBlt.eq_def, Option.map_some, Bool.not_true, Bool.not_false]) ?_
  refine step (ρ1 := [some (.ref n), some (.lst (ws.map .str)), some (.int v), some p, some g, some (.tup ms), some s, some f, some (dueD ws p g s f)]) (M1 := M7) ?_ ?_
  · have c1 := dT (k + 4) M7 (p := p) (a := .ref n) (b := .lst (ws.map .str)) (c := .int v) (r := [some g, some (.tup ms), some s, some f, some .non]) GD.v.hp
    have c2 := dL (k + 4) M7 (p := p) (g := g) (a := .ref n) (b := .lst (ws.map .str)) (c := .int v) (r := [some (.tup ms), some s, some f, some .non]) GD.v.hg
    have c3 := dM (k + 3) M7 (p := p) (g := g) (a := .ref n) (c := .int v) (x5 := .tup ms) (r := [some f, some .non]) hw GD.v.hs GD.v.hse
    have c4 := dF (k + 4) M7 (p := p) (g := g) (s := s) (a := .ref n) (b := .lst (ws.map .str)) (c := .int v) (x5 := .tup ms) (r := [some .non]) GD.v.hf
    unfold dueD part
    cases h1 : badT p with
    | true =>
      rw [h1] at c1
      simp -implicitDefEqProofs only [bind_ok, bind_ex, fl_ok, fl_ex, seq_nx, seq_rt, seq_ex, q_k, q_v, q_g, q_tup, q_lst, q_bin, q_neg, q_evT, q_not, q_and1, q_and, q_or1, q_or, q_cmp, q_cmp2, q_ite, q_ix, q_sl, q_o0, q_o1, q_call, q_mk, q_bi, q_bm, q_attr, q_isi, q_e0, q_e1, q_e2, k_v, k_of, k_tup, k_tupX, k_lst, k_lstX, k_b1, k_b1X, k_b2, k_b2X, k_neg, k_t, k_tX, k_not, k_notX, k_and, k_andX, k_andT, k_andF, k_or, k_orX, k_orT, k_orF, k_c1, k_c1X, k_c2, k_c2X, k_d1, k_d2, k_d3T, k_d3F, k_d4, k_iT, k_iF, k_iX, k_x1, k_x1X, k_x2, k_x2X, k_s1, k_s2, k_s3, k_o, k_a1, k_a1X, k_a2, k_a2X, k_m1, k_m1X, k_m2, k_m2X, k_bi, k_biX, k_bm1, k_bm1X, k_bm2, k_bm3, k_bm3X, k_at, k_atX, k_is, k_isX, k_e1, k_e1X, k_e2, k_e2X, k_f1, k_f2, q_ss0, q_ss1, k_sq, k_sqR, k_sqX, k_sqB, k_sqC, q_set, k_set, k_setX, k_set2, q_par, k_p1, k_p1X, k_p2, k_p2X, q_sub, k_u1, k_u1X, k_u2, k_u3, k_u4, q_fld, k_w1, k_w1X, k_w2, q_ex, k_ex, k_exX, q_ret, k_rF, k_rT, k_rX, k_rf, q_retN, q_if, k_ifT, k_ifF, k_ifX, q_raise, k_rs, q_aug, k_agA, k_agS, q_pass, q_brk, q_cont, fin_rt, fin_nx, fin_ex, cmpR.eq_def, clsD.eq_def, ixD.eq_def, seqOf.eq_def, bin.eq_def, binI_add, binI_sub, binI_mod, binI_fdiv, binI_mulL, binI_mulR, Bool.and_self, sm_a, sm_b, sm_c, sm_d, sm_e, sm_f, sm_g, sm_h, sm_i, sm_j, sm_k, lg64, lg4096, lg65536, cmp.eq_def, truth.eq_def, biD.eq_def, lenD.eq_def, absD.eq_def, intD.eq_def, minD.eq_def, maxD.eq_def, newL.eq_def, bindT.eq_1, bindT.eq_2, bindT.eq_3, setD.eq_def, isNone.eq_def, List.getElem?_cons_zero, List.getElem?_cons_succ, List.set_cons_zero, List.set_cons_succ, List.length_cons, List.length_nil, at0, at1, at2, at3, if_true, if_false, decide_true, decide_false, and_self, and_true, true_and, Bool.false_eq_true, Nat.reduceAdd, Nat.reduceLT, Nat.reduceLeDiff, Nat.reduceSub, Nat.reduceEqDiff, Int.reduceLT, Int.reduceLE, Int.reduceNeg, Int.reduceToNat, reduceIte, reduceCtorEq, ix3_0, ix3_1, ix3_2, big, Nat.zero_le, ne_eq, not_false_eq_true, not_true_eq_false, isiD.eq_1, isiD.eq_2, isiOne.eq_def, tyBlt.eq_def, Option.map_some, Bool.not_true, Bool.not_false, ↓c1]
    | false =>
      rw [h1] at c1
      cases h2 : badL g with
      | true =>
        rw [h2] at c2
        simp -implicitDefEqProofs only [bind_ok, bind_ex, fl_ok, fl_ex, seq_nx, seq_rt, seq_ex, q_k, q_v, q_g, q_tup, q_lst, q_bin, q_neg, q_evT, q_not, q_and1, q_and, q_or1, q_or, q_cmp, q_cmp2, q_ite, q_ix, q_sl, q_o0, q_o1, q_call, q_mk, q_bi, q_bm, q_attr, q_isi, q_e0, q_e1, q_e2, k_v, k_of, k_tup, k_tupX, k_lst, k_lstX, k_b1, k_b1X, k_b2, k_b2X, k_neg, k_t, k_tX, k_not, k_notX, k_and, k_andX, k_andT, k_andF, k_or, k_orX, k_orT, k_orF, k_c1, k_c1X, k_c2, k_c2X, k_d1, k_d2, k_d3T, k_d3F, k_d4, k_iT, k_iF, k_iX, k_x1, k_x1X, k_x2, k_x2X, k_s1, k_s2, k_s3, k_o, k_a1, k_a1X, k_a2, k_a2X, k_m1, k_m1X, k_m2, k_m2X, k_bi, k_biX, k_bm1, k_bm1X, k_bm2, k_bm3, k_bm3X, k_at, k_atX, k_is, k_isX, k_e1, k_e1X, k_e2, k_e2X, k_f1, k_f2, q_ss0, q_ss1, k_sq, k_sqR, k_sqX, k_sqB, k_sqC, q_set, k_set, k_setX, k_set2, q_par, k_p1, k_p1X, k_p2, k_p2X, q_sub, k_u1, k_u1X, k_u2, k_u3, k_u4, q_fld, k_w1, k_w1X, k_w2, q_ex, k_ex, k_exX, q_ret, k_rF, k_rT, k_rX, k_rf, q_retN, q_if, k_ifT, k_ifF, k_ifX, q_raise, k_rs, q_aug, k_agA, k_agS, q_pass, q_brk, q_cont, fin_rt, fin_nx, fin_ex, cmpR.eq_def, clsD.eq_def, ixD.eq_def, seqOf.eq_def, bin.eq_def, binI_add, binI_sub, binI_mod, binI_fdiv, binI_mulL, binI_mulR, Bool.and_self, sm_a, sm_b, sm_c, sm_d, sm_e, sm_f, sm_g, sm_h, sm_i, sm_j, sm_k, lg64, lg4096, lg65536, cmp.eq_def, truth.eq_def, biD.eq_def, lenD.eq_def, absD.eq_def, intD.eq_def, minD.eq_def, maxD.eq_def, newL.eq_def, bindT.eq_1, bindT.eq_2, bindT.eq_3, setD.eq_def, isNone.eq_def, List.getElem?_cons_zero, List.getElem?_cons_succ, List.set_cons_zero, List.set_cons_succ, List.length_cons, List.length_nil, at0, at1, at2, at3, if_true, if_false, decide_true, decide_false, and_self, and_true, true_and, Bool.false_eq_true, Nat.reduceAdd, Nat.reduceLT, Nat.reduceLeDiff, Nat.reduceSub, Nat.reduceEqDiff, Int.reduceLT, Int.reduceLE, Int.reduceNeg, Int.reduceToNat, reduceIte, reduceCtorEq, ix3_0, ix3_1, ix3_2, big, Nat.zero_le, ne_eq, not_false_eq_true, not_true_eq_false, isiD.eq_1, isiD.eq_2, isiOne.eq_def, tyBlt.eq_def, Option.map_some, Bool.not_true, Bool.not_false, ↓c1, ↓c2]
      | false =>
        rw [h2] at c2
        cases h3 : badM ws s with
        | true =>
          rw [h3] at c3
          simp -implicitDefEqProofs only [bind_ok, bind_ex, fl_ok, fl_ex, seq_nx, seq_rt, seq_ex, q_k, q_v, q_g, q_tup, q_lst, q_bin, q_neg, q_evT, q_not, q_and1, q_and, q_or1, q_or, q_cmp, q_cmp2, q_ite, q_ix, q_sl, q_o0, q_o1, q_call, q_mk, q_bi, q_bm, q_attr, q_isi, q_e0, q_e1, q_e2, k_v, k_of, k_tup, k_tupX, k_lst, k_lstX, k_b1, k_b1X, k_b2, k_b2X, k_neg, k_t, k_tX, k_not, k_notX, k_and, k_andX, k_andT, k_andF, k_or, k_orX, k_orT, k_orF, k_c1, k_c1X, k_c2, k_c2X, k_d1, k_d2, k_d3T, k_d3F, k_d4, k_iT, k_iF, k_iX, k_x1, k_x1X, k_x2, k_x2X, k_s1, k_s2, k_s3, k_o, k_a1, k_a1X, k_a2, k_a2X, k_m1, k_m1X, k_m2, k_m2X, k_bi, k_biX, k_bm1, k_bm1X, k_bm2, k_bm3, k_bm3X, k_at, k_atX, k_is, k_isX, k_e1, k_e1X, k_e2, k_e2X, k_f1, k_f2, q_ss0, q_ss1, k_sq, k_sqR, k_sqX, k_sqB, k_sqC, q_set, k_set, k_setX, k_set2, q_par, k_p1, k_p1X, k_p2, k_p2X, q_sub, k_u1, k_u1X, k_u2, k_u3, k_u4, q_fld, k_w1, k_w1X, k_w2, q_ex, k_ex, k_exX, q_ret, k_rF, k_rT, k_rX, k_rf, q_retN, q_if, k_ifT, k_ifF, k_ifX, q_raise, k_rs, q_aug, k_agA, k_agS, q_pass, q_brk, q_cont, fin_rt, fin_nx, fin_ex, cmpR.eq_def, clsD.eq_def, ixD.eq_def, seqOf.eq_def, bin.eq_def, binI_add, binI_sub, binI_mod, binI_fdiv, binI_mulL, binI_mulR, Bool.and_self, sm_a, sm_b, sm_c, sm_d, sm_e, sm_f, sm_g, sm_h, sm_i, sm_j, sm_k, lg64, lg4096, lg65536, cmp.eq_def, truth.eq_def, biD.eq_def, lenD.eq_def, absD.eq_def, intD.eq_def, minD.eq_def, maxD.eq_def, newL.eq_def, bindT.eq_1, bindT.eq_2, bindT.eq_3, setD.eq_def, isNone.eq_def, List.getElem?_cons_zero, List.getElem?_cons_succ, List.set_cons_zero, List.set_cons_succ, List.length_cons, List.length_nil, at0, at1, at2, at3, if_true, if_false, decide_true, decide_false, and_self, and_true, true_and, Bool.false_eq_true, Nat.reduceAdd, Nat.reduceLT, Nat.reduceLeDiff, Nat.reduceSub, Nat.reduceEqDiff, Int.reduceLT, Int.reduceLE, Int.reduceNeg, Int.reduceToNat, reduceIte, reduceCtorEq, ix3_0, ix3_1, ix3_2, big, Nat.zero_le, ne_eq, not_false_eq_true, not_true_eq_false, isiD.eq_1, isiD.eq_2, isiOne.eq_def, tyBlt.eq_def, Option.map_some, Bool.not_true, Bool.not_false, ↓c1, ↓c2, ↓c3]
        | false =>
          rw [h3] at c3
          cases h4 : badF f with
          | true =>
            rw [h4] at c4
            simp -implicitDefEqProofs only [bind_ok, bind_ex, fl_ok, fl_ex, seq_nx, seq_rt, seq_ex, q_k, q_v, q_g, q_tup, q_lst, q_bin, q_neg, q_evT, q_not, q_and1, q_and, q_or1, q_or, q_cmp, q_cmp2, q_ite, q_ix, q_sl, q_o0, q_o1, q_call, q_mk, q_bi, q_bm, q_attr, q_isi, q_e0, q_e1, q_e2, k_v, k_of, k_tup, k_tupX, k_lst, k_lstX, k_b1, k_b1X, k_b2, k_b2X, k_neg, k_t, k_tX, k_not, k_notX, k_and, k_andX, k_andT, k_andF, k_or, k_orX, k_orT, k_orF, k_c1, k_c1X, k_c2, k_c2X, k_d1, k_d2, k_d3T, k_d3F, k_d4, k_iT, k_iF, k_iX, k_x1, k_x1X, k_x2, k_x2X, k_s1, k_s2, k_s3, k_o, k_a1, k_a1X, k_a2, k_a2X, k_m1, k_m1X, k_m2, k_m2X, k_bi, k_biX, k_bm1, k_bm1X, k_bm2, k_bm3, k_bm3X, k_at, k_atX, k_is, k_isX, k_e1, k_e1X, k_e2, k_e2X, k_f1, k_f2, q_ss0, q_ss1, k_sq, k_sqR, k_sqX, k_sqB, k_sqC, q_set, k_set, k_setX, k_set2, q_par, k_p1, k_p1X, k_p2, k_p2X, q_sub, k_u1, k_u1X, k_u2, k_u3, k_u4, q_fld, k_w1, k_w1X, k_w2, q_ex, k_ex, k_exX, q_ret, k_rF, k_rT, k_rX, k_rf, q_retN, q_if, k_ifT, k_ifF, k_ifX, q_raise, k_rs, q_aug, k_agA, k_agS, q_pass, q_brk, q_cont, fin_rt, fin_nx, fin_ex, cmpR.eq_def, clsD.eq_def, ixD.eq_def, seqOf.eq_def, bin.eq_def, binI_add, binI_sub, binI_mod, binI_fdiv, binI_mulL, binI_mulR, Bool.and_self, sm_a, sm_b, sm_c, sm_d, sm_e, sm_f, sm_g, sm_h, sm_i, sm_j, sm_k, lg64, lg4096, lg65536, cmp.eq_def, truth.eq_def, biD.eq_def, lenD.eq_def, absD.eq_def, intD.eq_def, minD.eq_def, maxD.eq_def, newL.eq_def, bindT.eq_1, bindT.eq_2, bindT.eq_3, setD.eq_def, isNone.eq_def, List.getElem?_cons_zero, List.getElem?_cons_succ, List.set_cons_zero, List.set_cons_succ, List.length_cons, List.length_nil, at0, at1, at2, at3, if_true, if_false, decide_true, decide_false, and_self, and_true, true_and, Bool.false_eq_true, Nat.reduceAdd, Nat.reduceLT, Nat.reduceLeDiff, Nat.reduceSub, Nat.reduceEqDiff, Int.reduceLT, Int.reduceLE, Int.reduceNeg, Int.reduceToNat, reduceIte, reduceCtorEq, ix3_0, ix3_1, ix3_2, big, Nat.zero_le, ne_eq, not_false_eq_true, not_true_eq_false, isiD.eq_1, isiD.eq_2, isiOne.eq_def, tyBlt.eq_def, Option.map_some, Bool.not_true, Bool.not_false, ↓c1, ↓c2, ↓c3, ↓c4]
          | false =>
            rw [h4] at c4
            simp -implicitDefEqProofs only [bind_ok, bind_ex, fl_ok, fl_ex, seq_nx, seq_rt, seq_ex, q_k, q_v, q_g, q_tup, q_lst, q_bin, q_neg, q_evT, q_not, q_and1, q_and, q_or1, q_or, q_cmp, q_cmp2, q_ite, q_ix, q_sl, q_o0, q_o1, q_call, q_mk, q_bi, q_bm, q_attr, q_isi, q_e0, q_e1, q_e2, k_v, k_of, k_tup, k_tupX, k_lst, k_lstX, k_b1, k_b1X, k_b2, k_b2X, k_neg, k_t, k_tX, k_not, k_notX, k_and, k_andX, k_andT, k_andF, k_or, k_orX, k_orT, k_orF, k_c1, k_c1X, k_c2, k_c2X, k_d1, k_d2, k_d3T, k_d3F, k_d4, k_iT, k_iF, k_iX, k_x1, k_x1X, k_x2, k_x2X, k_s1, k_s2, k_s3, k_o, k_a1, k_a1X, k_a2, k_a2X, k_m1, k_m1X, k_m2, k_m2X, k_bi, k_biX, k_bm1, k_bm1X, k_bm2, k_bm3, k_bm3X, k_at, k_atX, k_is, k_isX, k_e1, k_e1X, k_e2, k_e2X, k_f1, k_f2, q_ss0, q_ss1, k_sq, k_sqR, k_sqX, k_sqB, k_sqC, q_set, k_set, k_setX, k_set2, q_par, k_p1, k_p1X, k_p2, k_p2X, q_sub, k_u1, k_u1X, k_u2, k_u3, k_u4, q_fld, k_w1, k_w1X, k_w2, q_ex, k_ex, k_exX, q_ret, k_rF, k_rT, k_rX, k_rf, q_retN, q_if, k_ifT, k_ifF, k_ifX, q_raise, k_rs, q_aug, k_agA, k_agS, q_pass, q_brk, q_cont, fin_rt, fin_nx, fin_ex, cmpR.eq_def, clsD.eq_def, ixD.eq_def, seqOf.eq_def, bin.eq_def, binI_add, binI_sub, binI_mod, binI_fdiv, binI_mulL, binI_mulR, Bool.and_self, sm_a, sm_b, sm_c, sm_d, sm_e, sm_f, sm_g, sm_h, sm_i, sm_j, sm_k, lg64, lg4096, lg65536, cmp.eq_def, truth.eq_def, biD.eq_def, lenD.eq_def, absD.eq_def, intD.eq_def, minD.eq_def, maxD.eq_def, newL.eq_def, bindT.eq_1, bindT.eq_2, bindT.eq_3, setD.eq_def, isNone.eq_def, List.getElem?_cons_zero, List.getElem?_cons_succ, List.set_cons_zero, List.set_cons_succ, List.length_cons, List.length_nil, at0, at1, at2, at3, if_true, if_false, decide_true, decide_false, and_self, and_true, true_and, Bool.false_eq_true, Nat.reduceAdd, Nat.reduceLT, Nat.reduceLeDiff, Nat.reduceSub, Nat.reduceEqDiff, Int.reduceLT, Int.reduceLE, Int.reduceNeg, Int.reduceToNat, reduceIte, reduceCtorEq, ix3_0, ix3_1, ix3_2, big, Nat.zero_le, ne_eq, not_false_eq_true, not_true_eq_false, isiD.eq_1, isiD.eq_2, isiOne.eq_def, tyBlt.eq_def, Option.map_some, Bool.not_true, Bool.not_false, ↓c1, ↓c2, ↓c3, ↓c4]
  · simp -implicitDefEqProofs only [bind_ok, bind_ex, fl_ok, fl_ex, seq_nx, seq_rt, seq_ex, q_k, q_v, q_g, q_tup, q_lst, q_bin, q_neg, q_evT, q_not, q_and1, q_and, q_or1, q_or, q_cmp, q_cmp2, q_ite, q_ix, q_sl, q_o0, q_o1, q_call, q_mk, q_bi, q_bm, q_attr, q_isi, q_e0, q_e1, q_e2, k_v, k_of, k_tup, k_tupX, k_lst, k_lstX, k_b1, k_b1X, k_b2, k_b2X, k_neg, k_t, k_tX, k_not, k_notX, k_and, k_andX, k_andT, k_andF, k_or, k_orX, k_orT, k_orF, k_c1, k_c1X, k_c2, k_c2X, k_d1, k_d2, k_d3T, k_d3F, k_d4, k_iT, k_iF, k_iX, k_x1, k_x1X, k_x2, k_x2X, k_s1, k_s2, k_s3, k_o, k_a1, k_a1X, k_a2, k_a2X, k_m1, k_m1X, k_m2, k_m2X, k_bi, k_biX, k_bm1, k_bm1X, k_bm2, k_bm3, k_bm3X, k_at, k_atX, k_is, k_isX, k_e1, k_e1X, k_e2, k_e2X, k_f1, k_f2, q_ss0, q_ss1, k_sq, k_sqR, k_sqX, k_sqB, k_sqC, q_set, k_set, k_setX, k_set2, q_par, k_p1, k_p1X, k_p2, k_p2X, q_sub, k_u1, k_u1X, k_u2, k_u3, k_u4, q_fld, k_w1, k_w1X, k_w2, q_ex, k_ex, k_exX, q_ret, k_rF, k_rT, k_rX, k_rf, q_retN, q_if, k_ifT, k_ifF, k_ifX, q_raise, k_rs, q_aug, k_agA, k_agS, q_pass, q_brk, q_cont, fin_rt, fin_nx, fin_ex, cmpR.eq_def, clsD.eq_def, ixD.eq_def, seqOf.eq_def, bin.eq_def, binI_add, binI_sub, binI_mod, binI_fdiv, binI_mulL, binI_mulR, Bool.and_self, sm_a, sm_b, sm_c, sm_d, sm_e, sm_f, sm_g, sm_h, sm_i, sm_j, sm_k, lg64, lg4096, lg65536, cmp.eq_def, truth.eq_def, biD.eq_def, lenD.eq_def, absD.eq_def, intD.eq_def, minD.eq_def, maxD.eq_def, newL.eq_def, bindT.eq_1, bindT.eq_2, bindT.eq_3, setD.eq_def, isNone.eq_def, List.getElem?_cons_zero, List.getElem?_cons_succ, List.set_cons_zero, List.set_cons_succ, List.length_cons, List.length_nil, at0, at1, at2, at3, if_true, if_false, decide_true, decide_false, and_self, and_true, true_and, Bool.false_eq_true, Nat.reduceAdd, Nat.reduceLT, Nat.reduceLeDiff, Nat.reduceSub, Nat.reduceEqDiff, Int.reduceLT, Int.reduceLE, Int.reduceNeg, Int.reduceToNat, reduceIte, reduceCtorEq, ix3_0, ix3_1, ix3_2, big, Nat.zero_le, ne_eq, not_false_eq_true, not_true_eq_false, isiD.eq_1, isiD.eq_2, isiOne.eq_def, tyBlt.eq_def, Option.map_some, Bool.not_true, Bool.not_false]
    refine gc_ok0 dr.gc dr.len ?_
    have hu := D.unds_pure (n := M.length) _ hpu4
    simp only [D.und, D.unds, hu, Bool.true_and, Bool.and_true]
    simp only [D.unds, Bool.and_true] at hu
    rw [hu, Bool.true_and]
    unfold dueD
    cases part ws p g s f <;> rfl
end Law
namespace Law
open PySem Dv
/-- the parts of callers that were made -/
def OKQ (p g s f : D) : Prop := (p = .non ∨ ∃ i, p = .int i) ∧ (∃ z, g = .str z ∧ PyData.strOk z = true) ∧ (s = .non ∨ ∃ zs : List Str, s = .tup (zs.map .str) ∧ (∀ z ∈ zs, PyData.strOk z = true) ∧ zs.length < 100) ∧ ∃ b, f = .bl b
theorem okq_of {ws : List Str} {p g s f : D} (h : Good ws p g s f) (e : part ws p g s f = none) : OKQ p g s f := by
  unfold part at e
  cases h1 : badT p with
  | true => rw [h1] at e; cases e
  | false =>
    cases h2 : badL g with
    | true => rw [h1, h2] at e; cases e
    | false =>
      cases h3 : badM ws s with
      | true => rw [h1, h2, h3] at e; cases e
      | false =>
        cases h4 : badF f with
        | true => rw [h1, h2, h3, h4] at e; cases e
        | false =>
          refine ⟨?_, ?_, ?_, ?_⟩
          · cases p <;> first | exact .inl rfl | exact .inr ⟨_, rfl⟩ | cases h1
          · rcases h.v.hg with ⟨z, rfl, hz⟩ | rfl | ⟨b, rfl⟩ | rfl
            · exact ⟨z, rfl, hz⟩
            · cases h2
            · cases h2
            · cases h2
          · rcases h.v.hs with rfl | ⟨i, rfl⟩ | ⟨b, rfl⟩ | ⟨z, rfl⟩ | ⟨l, rfl⟩ | ⟨l, rfl⟩
            · exact .inl rfl
            · cases h3
            · cases h3
            · cases h3
            · right
              have ha : l.all (isW ws) = true := by simpa [badM] using h3
              have hx : ∀ d ∈ l, ∃ w ∈ ws, d = .str w := fun d hd => by
                have := List.all_eq_true.mp ha d hd
                cases d <;> first | (simp [isW] at this; done) | skip
                rename_i w
                exact ⟨w, by simpa [isW] using this, rfl⟩
              refine ⟨l.map fun d => match d with | .str w => w | _ => "", ?_, ?_, ?_⟩
              · congr 1
                rw [List.map_map]
                conv => lhs; rw [← List.map_id l]
                refine List.map_congr_left fun d hd => ?_
                obtain ⟨w, _, rfl⟩ := hx d hd
                rfl
              · intro z hz
                obtain ⟨d, hd, rfl⟩ := List.mem_map.mp hz
                obtain ⟨w, hw, rfl⟩ := hx d hd
                exact (h.v.wk w hw).sok
              · rw [List.length_map]
                exact h.sl l rfl
            · cases h3
          · cases f <;> first | exact ⟨_, rfl⟩ | cases h4
abbrev tp4 (p g s f : D) : D := .tup [p, g, s, f]
theorem OKQ.ok {p g s f : D} (h : OKQ p g s f) : (tp4 p g s f).okd = true ∧ (tp4 p g s f).dep ≤ 64 := by
  obtain ⟨hp, ⟨z, rfl, hz⟩, hs, ⟨b, rfl⟩⟩ := h
  have h1 : p.okd = true ∧ p.dep = 0 := by rcases hp with rfl | ⟨i, rfl⟩ <;> exact ⟨rfl, rfl⟩
  have h2 : s.okd = true ∧ s.dep ≤ 1 := by
    rcases hs with rfl | ⟨zs, rfl, hzs, _⟩
    · exact ⟨rfl, by decide⟩
    · refine ⟨okds_iff.mpr fun d hd => ?_, ?_⟩
      · obtain ⟨y, hy, rfl⟩ := List.mem_map.mp hd
        exact hzs y hy
      · simp only [D.dep]
        have : D.deps (zs.map .str) ≤ 0 := deps_le.mpr fun d hd => by
          obtain ⟨y, hy, rfl⟩ := List.mem_map.mp hd
          exact Nat.zero_le _
        omega
  refine ⟨by simp [D.okd, D.okds, h1.1, h2.1, hz], ?_⟩
  simp only [D.dep, D.deps, h1.2]
  have := h2.2
  omega
theorem OKQ.strict {p g s f : D} (h : OKQ p g s f) (k : Nat) (M : Store) : run Z.G (k + 3) 8 [tp4 p g s f, tp4 p g s f] M = .ok (.bl true) M := by
  obtain ⟨hp, ⟨z, rfl, hz⟩, hs, ⟨b, rfl⟩⟩ := h
  refine str_tup (k + 1) M _ (by simp) fun x hx => ?_
  simp only [List.mem_cons, List.not_mem_nil, or_false] at hx
  rcases hx with rfl | rfl | rfl | rfl
  · exact str_at (k + 1) M _ (by rcases hp with rfl | ⟨i, rfl⟩; exact .inl rfl; exact .inr (.inl ⟨i, rfl⟩))
  · exact str_at (k + 1) M _ (.inr (.inr (.inr ⟨z, rfl, hz⟩)))
  · rcases hs with rfl | ⟨zs, rfl, hzs, hl⟩
    · exact str_at (k + 1) M _ (.inl rfl)
    · refine str_tup k M _ (by rw [List.length_map]; omega) fun y hy => ?_
      obtain ⟨w, hw, rfl⟩ := List.mem_map.mp hy
      exact str_at k M _ (.inr (.inr (.inr ⟨w, rfl, hzs w hw⟩)))
  · exact str_at (k + 1) M _ (.inr (.inr (.inl ⟨b, rfl⟩)))
/-! ### == -/
theorem C_cok (j : Nat) : (Cj j).cok 0 = true := rfl
theorem C_eqm (j : Nat) : (Cj j).eqm 0 = some 15 := rfl
theorem C_sub00 (j : Nat) : (Cj j).sub 0 0 = true := rfl
theorem C_exk' (j : Nat) : (Cj j).exk = (Cj j).exk := rfl
theorem eq_obj (k : Nat) (M : Store) {p g s f p' g' s' f' : D} (h : OKQ p g s f) (h' : OKQ p' g' s' f') : run Z.G (k + 1) 15 [obj p g s f, obj p' g' s' f'] M = .ok (.bl (eqDD (tp4 p g s f) (tp4 p' g' s' f'))) M := by
  rw [run_eq (G := Z.G) (f := 15) (F := ⟨2, 2, b15⟩) rfl ⟨rfl, (by decide : 2 ≤ 2)⟩]
  show fin M (sxs (Cj k) b15 [some (obj p g s f), some (obj p' g' s' f')] M) = _
  unfold b15 obj
  have e := eqD_ok h.ok.1 h'.ok.1 h.ok.2 h'.ok.2
  simp -implicitDefEqProofs only [bind_ok, bind_ex, fl_ok, fl_ex, seq_nx, seq_rt, seq_ex, q_k, q_v, q_g, q_tup, q_lst, q_bin, q_neg, q_evT, q_not, q_and1, q_and, q_or1, q_or, q_cmp, q_cmp2, q_ite, q_ix, q_sl, q_o0, q_o1, q_call, q_mk, q_bi, q_bm, q_attr, q_isi, q_e0, q_e1, q_e2, k_v, k_of, k_tup, k_tupX, k_lst, k_lstX, k_b1, k_b1X, k_b2, k_b2X, k_neg, k_t, k_tX, k_not, k_notX, k_and, k_andX, k_andT, k_andF, k_or, k_orX, k_orT, k_orF, k_c1, k_c1X, k_c2, k_c2X, k_d1, k_d2, k_d3T, k_d3F, k_d4, k_iT, k_iF, k_iX, k_x1, k_x1X, k_x2, k_x2X, k_s1, k_s2, k_s3, k_o, k_a1, k_a1X, k_a2, k_a2X, k_m1, k_m1X, k_m2, k_m2X, k_bi, k_biX, k_bm1, k_bm1X, k_bm2, k_bm3, k_bm3X, k_at, k_atX, k_is, k_isX, k_e1, k_e1X, k_e2, k_e2X, k_f1, k_f2, q_ss0, q_ss1, k_sq, k_sqR, k_sqX, k_sqB, k_sqC, q_set, k_set, k_setX, k_set2, q_par, k_p1, k_p1X, k_p2, k_p2X, q_sub, k_u1, k_u1X, k_u2, k_u3, k_u4, q_fld, k_w1, k_w1X, k_w2, q_ex, k_ex, k_exX, q_ret, k_rF, k_rT, k_rX, k_rf, q_retN, q_if, k_ifT, k_ifF, k_ifX, q_raise, k_rs, q_aug, k_agA, k_agS, q_pass, q_brk, q_cont, fin_rt, fin_nx, fin_ex, cmpR.eq_def, clsD.eq_def, ixD.eq_def, seqOf.eq_def, bin.eq_def, binI_add, binI_sub, binI_mod, binI_fdiv, binI_mulL, binI_mulR, Bool.and_self, sm_a, sm_b, sm_c, sm_d, sm_e, sm_f, sm_g, sm_h, sm_i, sm_j, sm_k, lg64, lg4096, lg65536, cmp.eq_def, truth.eq_def, biD.eq_def, lenD.eq_def, absD.eq_def, intD.eq_def, minD.eq_def, maxD.eq_def, newL.eq_def, bindT.eq_1, bindT.eq_2, bindT.eq_3, setD.eq_def, isNone.eq_def, List.getElem?_cons_zero, List.getElem?_cons_succ, List.set_cons_zero, List.set_cons_succ, List.length_cons, List.length_nil, at0, at1, at2, at3, if_true, if_false, decide_true, decide_false, and_self, and_true, true_and, Bool.false_eq_true, Nat.reduceAdd, Nat.reduceLT, Nat.reduceLeDiff, Nat.reduceSub, Nat.reduceEqDiff, Int.reduceLT, Int.reduceLE, Int.reduceNeg, Int.reduceToNat, reduceIte, reduceCtorEq, ix3_0, ix3_1, ix3_2, big, Nat.zero_le, ne_eq, not_false_eq_true, not_true_eq_false, isiD.eq_1, isiD.eq_2, isiOne.eq_def, tyBlt.eq_def, Option.map_some, Bool.not_true, Bool.not_false, tyOwn.eq_def, C_cok, C_sub00, attrD.eq_def, look.eq_1, look.eq_2, D.see, e]
  exact gc_ok0 gcOk_rfl rfl rfl
theorem eq_no (k : Nat) (M : Store) {p g s f y : D} (h : (∃ l, y = .tup l) ∨ ∃ z, y = .str z) : run Z.G (k + 1) 15 [obj p g s f, y] M = .ok (.bl false) M := by
  rw [run_eq (G := Z.G) (f := 15) (F := ⟨2, 2, b15⟩) rfl ⟨rfl, (by decide : 2 ≤ 2)⟩]
  show fin M (sxs (Cj k) b15 [some (obj p g s f), some y] M) = _
  unfold b15 obj
  rcases h with ⟨l, rfl⟩ | ⟨z, rfl⟩
  · simp -implicitDefEqProofs only [bind_ok, bind_ex, fl_ok, fl_ex, seq_nx, seq_rt, seq_ex, q_k, q_v, q_g, q_tup, q_lst, q_bin, q_neg, q_evT, q_not, q_and1, q_and, q_or1, q_or, q_cmp, q_cmp2, q_ite, q_ix, q_sl, q_o0, q_o1, q_call, q_mk, q_bi, q_bm, q_attr, q_isi, q_e0, q_e1, q_e2, k_v, k_of, k_tup, k_tupX, k_lst, k_lstX, k_b1, k_b1X, k_b2, k_b2X, k_neg, k_t, k_tX, k_not, k_notX, k_and, k_andX, k_andT, k_andF, k_or, k_orX, k_orT, k_orF, k_c1, k_c1X, k_c2, k_c2X, k_d1, k_d2, k_d3T, k_d3F, k_d4, k_iT, k_iF, k_iX, k_x1, k_x1X, k_x2, k_x2X, k_s1, k_s2, k_s3, k_o, k_a1, k_a1X, k_a2, k_a2X, k_m1, k_m1X, k_m2, k_m2X, k_bi, k_biX, k_bm1, k_bm1X, k_bm2, k_bm3, k_bm3X, k_at, k_atX, k_is, k_isX, k_e1, k_e1X, k_e2, k_e2X, k_f1, k_f2, q_ss0, q_ss1, k_sq, k_sqR, k_sqX, k_sqB, k_sqC, q_set, k_set, k_setX, k_set2, q_par, k_p1, k_p1X, k_p2, k_p2X, q_sub, k_u1, k_u1X, k_u2, k_u3, k_u4, q_fld, k_w1, k_w1X, k_w2, q_ex, k_ex, k_exX, q_ret, k_rF, k_rT, k_rX, k_rf, q_retN, q_if, k_ifT, k_ifF, k_ifX, q_raise, k_rs, q_aug, k_agA, k_agS, q_pass, q_brk, q_cont, fin_rt, fin_nx, fin_ex, cmpR.eq_def, clsD.eq_def, ixD.eq_def, seqOf.eq_def, bin.eq_def, binI_add, binI_sub, binI_mod, binI_fdiv, binI_mulL, binI_mulR, Bool.and_self, sm_a, sm_b, sm_c, sm_d, sm_e, sm_f, sm_g, sm_h, sm_i, sm_j, sm_k, lg64, lg4096, lg65536, cmp.eq_def, truth.eq_def, biD.eq_def, lenD.eq_def, absD.eq_def, intD.eq_def, minD.eq_def, maxD.eq_def, newL.eq_def, bindT.eq_1, bindT.eq_2, bindT.eq_3, setD.eq_def, isNone.eq_def, List.getElem?_cons_zero, List.getElem?_cons_succ, List.set_cons_zero, List.set_cons_succ, List.length_cons, List.length_nil, at0, at1, at2, at3, if_true, if_false, decide_true, decide_false, and_self, and_true, true_and, Bool.false_eq_true, Nat.reduceAdd, Nat.reduceLT, Nat.reduceLeDiff, Nat.reduceSub, Nat.reduceEqDiff, Int.reduceLT, Int.reduceLE, Int.reduceNeg, Int.reduceToNat, reduceIte, reduceCtorEq, ix3_0, ix3_1, ix3_2, big, Nat.zero_le, ne_eq, not_false_eq_true, not_true_eq_false, isiD.eq_1, isiD.eq_2, isiOne.eq_def, tyBlt.eq_def, Option.map_some, Bool.not_true, Bool.not_false, C_cok]
    exact gc_ok0 gcOk_rfl rfl rfl
  · simp -implicitDefEqProofs only [bind_ok, bind_ex, fl_ok, fl_ex, seq_nx, seq_rt, seq_ex, q_k, q_v, q_g, q_tup, q_lst, q_bin, q_neg, q_evT, q_not, q_and1, q_and, q_or1, q_or, q_cmp, q_cmp2, q_ite, q_ix, q_sl, q_o0, q_o1, q_call, q_mk, q_bi, q_bm, q_attr, q_isi, q_e0, q_e1, q_e2, k_v, k_of, k_tup, k_tupX, k_lst, k_lstX, k_b1, k_b1X, k_b2, k_b2X, k_neg, k_t, k_tX, k_not, k_notX, k_and, k_andX, k_andT, k_andF, k_or, k_orX, k_orT, k_orF, k_c1, k_c1X, k_c2, k_c2X, k_d1, k_d2, k_d3T, k_d3F, k_d4, k_iT, k_iF, k_iX, k_x1, k_x1X, k_x2, k_x2X, k_s1, k_s2, k_s3, k_o, k_a1, k_a1X, k_a2, k_a2X, k_m1, k_m1X, k_m2, k_m2X, k_bi, k_biX, k_bm1, k_bm1X, k_bm2, k_bm3, k_bm3X, k_at, k_atX, k_is, k_isX, k_e1, k_e1X, k_e2, k_e2X, k_f1, k_f2, q_ss0, q_ss1, k_sq, k_sqR, k_sqX, k_sqB, k_sqC, q_set, k_set, k_setX, k_set2, q_par, k_p1, k_p1X, k_p2, k_p2X, q_sub, k_u1, k_u1X, k_u2, k_u3, k_u4, q_fld, k_w1, k_w1X, k_w2, q_ex, k_ex, k_exX, q_ret, k_rF, k_rT, k_rX, k_rf, q_retN, q_if, k_ifT, k_ifF, k_ifX, q_raise, k_rs, q_aug, k_agA, k_agS, q_pass, q_brk, q_cont, fin_rt, fin_nx, fin_ex, cmpR.eq_def, clsD.eq_def, ixD.eq_def, seqOf.eq_def, bin.eq_def, binI_add, binI_sub, binI_mod, binI_fdiv, binI_mulL, binI_mulR, Bool.and_self, sm_a, sm_b, sm_c, sm_d, sm_e, sm_f, sm_g, sm_h, sm_i, sm_j, sm_k, lg64, lg4096, lg65536, cmp.eq_def, truth.eq_def, biD.eq_def, lenD.eq_def, absD.eq_def, intD.eq_def, minD.eq_def, maxD.eq_def, newL.eq_def, bindT.eq_1, bindT.eq_2, bindT.eq_3, setD.eq_def, isNone.eq_def, List.getElem?_cons_zero, List.getElem?_cons_succ, List.set_cons_zero, List.set_cons_succ, List.length_cons, List.length_nil, at0, at1, at2, at3, if_true, if_false, decide_true, decide_false, and_self, and_true, true_and, Bool.false_eq_true, Nat.reduceAdd, Nat.reduceLT, Nat.reduceLeDiff, Nat.reduceSub, Nat.reduceEqDiff, Int.reduceLT, Int.reduceLE, Int.reduceNeg, Int.reduceToNat, reduceIte, reduceCtorEq, ix3_0, ix3_1, ix3_2, big, Nat.zero_le, ne_eq, not_false_eq_true, not_true_eq_false, isiD.eq_1, isiD.eq_2, isiOne.eq_def, tyBlt.eq_def, Option.map_some, Bool.not_true, Bool.not_false, C_cok]
    exact gc_ok0 gcOk_rfl rfl rfl
theorem cmp_no (k : Nat) (M : Store) {p g s f y : D} (h : (∃ l, y = .tup l) ∨ ∃ z, y = .str z) : cmpR (Cj (k + 1)) .eq (obj p g s f) y M = .ok (.bl false) M := by
  have e := eq_no k M (p := p) (g := g) (s := s) (f := f) h
  have q : eqOk (Cj (k + 1)) M 0 y = true := by
    rcases h with ⟨l, rfl⟩ | ⟨z, rfl⟩ <;> rfl
  exact cmpR_own rfl (C_eqm _) q e
theorem cmp_obj (k : Nat) (M : Store) {p g s f p' g' s' f' : D} (h : OKQ p g s f) (h' : OKQ p' g' s' f') : cmpR (Cj (k + 1)) .eq (obj p g s f) (obj p' g' s' f') M = .ok (.bl (eqDD (tp4 p g s f) (tp4 p' g' s' f'))) M := by
  have e := eq_obj k M h h'
  have q : eqOk (Cj (k + 1)) M 0 (obj p' g' s' f') = true := rfl
  exact cmpR_own rfl (C_eqm _) q e
theorem cmp_tup (k : Nat) (M : Store) {p g s f p' g' s' f' : D} (h : OKQ p g s f) (h' : OKQ p' g' s' f') : cmpR (Cj k) .eq (tp4 p g s f) (tp4 p' g' s' f') M = .ok (.bl (eqDD (tp4 p g s f) (tp4 p' g' s' f'))) M := by
  have e := eqD_ok h.ok.1 h'.ok.1 h.ok.2 h'.ok.2
  simp -implicitDefEqProofs only [bind_ok, bind_ex, fl_ok, fl_ex, seq_nx, seq_rt, seq_ex, q_k, q_v, q_g, q_tup, q_lst, q_bin, q_neg, q_evT, q_not, q_and1, q_and, q_or1, q_or, q_cmp, q_cmp2, q_ite, q_ix, q_sl, q_o0, q_o1, q_call, q_mk, q_bi, q_bm, q_attr, q_isi, q_e0, q_e1, q_e2, k_v, k_of, k_tup, k_tupX, k_lst, k_lstX, k_b1, k_b1X, k_b2, k_b2X, k_neg, k_t, k_tX, k_not, k_notX, k_and, k_andX, k_andT, k_andF, k_or, k_orX, k_orT, k_orF, k_c1, k_c1X, k_c2, k_c2X, k_d1, k_d2, k_d3T, k_d3F, k_d4, k_iT, k_iF, k_iX, k_x1, k_x1X, k_x2, k_x2X, k_s1, k_s2, k_s3, k_o, k_a1, k_a1X, k_a2, k_a2X, k_m1, k_m1X, k_m2, k_m2X, k_bi, k_biX, k_bm1, k_bm1X, k_bm2, k_bm3, k_bm3X, k_at, k_atX, k_is, k_isX, k_e1, k_e1X, k_e2, k_e2X, k_f1, k_f2, q_ss0, q_ss1, k_sq, k_sqR, k_sqX, k_sqB, k_sqC, q_set, k_set, k_setX, k_set2, q_par, k_p1, k_p1X, k_p2, k_p2X, q_sub, k_u1, k_u1X, k_u2, k_u3, k_u4, q_fld, k_w1, k_w1X, k_w2, q_ex, k_ex, k_exX, q_ret, k_rF, k_rT, k_rX, k_rf, q_retN, q_if, k_ifT, k_ifF, k_ifX, q_raise, k_rs, q_aug, k_agA, k_agS, q_pass, q_brk, q_cont, fin_rt, fin_nx, fin_ex, cmpR.eq_def, clsD.eq_def, ixD.eq_def, seqOf.eq_def, bin.eq_def, binI_add, binI_sub, binI_mod, binI_fdiv, binI_mulL, binI_mulR, Bool.and_self, sm_a, sm_b, sm_c, sm_d, sm_e, sm_f, sm_g, sm_h, sm_i, sm_j, sm_k, lg64, lg4096, lg65536, cmp.eq_def, truth.eq_def, biD.eq_def, lenD.eq_def, absD.eq_def, intD.eq_def, minD.eq_def, maxD.eq_def, newL.eq_def, bindT.eq_1, bindT.eq_2, bindT.eq_3, setD.eq_def, isNone.eq_def, List.getElem?_cons_zero, List.getElem?_cons_succ, List.set_cons_zero, List.set_cons_succ, List.length_cons, List.length_nil, at0, at1, at2, at3, if_true, if_false, decide_true, decide_false, and_self, and_true, true_and, Bool.false_eq_true, Nat.reduceAdd, Nat.reduceLT, Nat.reduceLeDiff, Nat.reduceSub, Nat.reduceEqDiff, Int.reduceLT, Int.reduceLE, Int.reduceNeg, Int.reduceToNat, reduceIte, reduceCtorEq, ix3_0, ix3_1, ix3_2, big, Nat.zero_le, ne_eq, not_false_eq_true, not_true_eq_false, isiD.eq_1, isiD.eq_2, isiOne.eq_def, tyBlt.eq_def, Option.map_some, Bool.not_true, Bool.not_false, D.see, e]
theorem ne_bl (k : Nat) (M : Store) (b : Bool) : cmpR (Cj k) .ne (.bl b) (.bl b) M = .ok (.bl false) M := by
  have e : eqD (.bl b) (.bl b) = some true := by rw [eqD_ok rfl rfl (Nat.zero_le _) (Nat.zero_le _), eqDD_refl rfl]
  simp -implicitDefEqProofs only [bind_ok, bind_ex, fl_ok, fl_ex, seq_nx, seq_rt, seq_ex, q_k, q_v, q_g, q_tup, q_lst, q_bin, q_neg, q_evT, q_not, q_and1, q_and, q_or1, q_or, q_cmp, q_cmp2, q_ite, q_ix, q_sl, q_o0, q_o1, q_call, q_mk, q_bi, q_bm, q_attr, q_isi, q_e0, q_e1, q_e2, k_v, k_of, k_tup, k_tupX, k_lst, k_lstX, k_b1, k_b1X, k_b2, k_b2X, k_neg, k_t, k_tX, k_not, k_notX, k_and, k_andX, k_andT, k_andF, k_or, k_orX, k_orT, k_orF, k_c1, k_c1X, k_c2, k_c2X, k_d1, k_d2, k_d3T, k_d3F, k_d4, k_iT, k_iF, k_iX, k_x1, k_x1X, k_x2, k_x2X, k_s1, k_s2, k_s3, k_o, k_a1, k_a1X, k_a2, k_a2X, k_m1, k_m1X, k_m2, k_m2X, k_bi, k_biX, k_bm1, k_bm1X, k_bm2, k_bm3, k_bm3X, k_at, k_atX, k_is, k_isX, k_e1, k_e1X, k_e2, k_e2X, k_f1, k_f2, q_ss0, q_ss1, k_sq, k_sqR, k_sqX, k_sqB, k_sqC, q_set, k_set, k_setX, k_set2, q_par, k_p1, k_p1X, k_p2, k_p2X, q_sub, k_u1, k_u1X, k_u2, k_u3, k_u4, q_fld, k_w1, k_w1X, k_w2, q_ex, k_ex, k_exX, q_ret, k_rF, k_rT, k_rX, k_rf, q_retN, q_if, k_ifT, k_ifF, k_ifX, q_raise, k_rs, q_aug, k_agA, k_agS, q_pass, q_brk, q_cont, fin_rt, fin_nx, fin_ex, cmpR.eq_def, clsD.eq_def, ixD.eq_def, seqOf.eq_def, bin.eq_def, binI_add, binI_sub, binI_mod, binI_fdiv, binI_mulL, binI_mulR, Bool.and_self, sm_a, sm_b, sm_c, sm_d, sm_e, sm_f, sm_g, sm_h, sm_i, sm_j, sm_k, lg64, lg4096, lg65536, cmp.eq_def, truth.eq_def, biD.eq_def, lenD.eq_def, absD.eq_def, intD.eq_def, minD.eq_def, maxD.eq_def, newL.eq_def, bindT.eq_1, bindT.eq_2, bindT.eq_3, setD.eq_def, isNone.eq_def, List.getElem?_cons_zero, List.getElem?_cons_succ, List.set_cons_zero, List.set_cons_succ, List.length_cons, List.length_nil, at0, at1, at2, at3, if_true, if_false, decide_true, decide_false, and_self, and_true, true_and, Bool.false_eq_true, Nat.reduceAdd, Nat.reduceLT, Nat.reduceLeDiff, Nat.reduceSub, Nat.reduceEqDiff, Int.reduceLT, Int.reduceLE, Int.reduceNeg, Int.reduceToNat, reduceIte, reduceCtorEq, ix3_0, ix3_1, ix3_2, big, Nat.zero_le, ne_eq, not_false_eq_true, not_true_eq_false, isiD.eq_1, isiD.eq_2, isiOne.eq_def, tyBlt.eq_def, Option.map_some, Bool.not_true, Bool.not_false, D.see, e]
theorem okq0 : OKQ .non (.str "equal") .non (.bl false) := ⟨.inl rfl, ⟨_, rfl, by decide +kernel⟩, .inl rfl, ⟨_, rfl⟩⟩
theorem mk0 (k : Nat) (M : Store) : make (Cj (k + 3)) 0 5 [] M = .ok (obj .non (.str "equal") .non (.bl false)) M := by
  have V : Vals4 [] .non (.str "equal") .non (.bl false) := ⟨fun w h => (nomatch h), .inl rfl, .inl ⟨_, rfl, by decide +kernel⟩, .inl rfl, fun es h => (nomatch h), .inr (.inr (.inl ⟨_, rfl⟩))⟩
  have e := mk_ok k M V rfl (ds := []) (vs := []) (sh := 5) rfl
  have q : part [] .non (.str "equal") .non (.bl false) = none := by decide +kernel
  rw [q] at e
  exact e
end Law
namespace Law
open PySem Dv
def Kp (x : D) : Prop := ∃ p g s f, x = .tup [obj p g s f, tp4 p g s f] ∧ OKQ p g s f ∧ VPu p g s f
def inner2 : Ss := .cons (.ite (.or (.cons (.cmp .ne (.cmp .eq (.v 7) (.v 9)) (.cmp .eq (.v 8) (.v 10))) (.cons (.cmp .ne (.cmp .eq (.v 7) (.mk 0 5 .nil .nil)) (.cmp .eq (.v 8) (.tup (.cons (.k (.non)) (.cons (.k (.str "equal")) (.cons (.k (.non)) (.cons (.k (.bl false)) .nil))))))) .nil))) (.cons (.ret false (.k (.bl false))) .nil) .nil) .nil
def inner1 : Ss := .cons (.ite (.not (.call 8 0 (.cons (.tup (.cons (.attr (.v 7) 4) (.cons (.attr (.v 7) 1) (.cons (.attr (.v 7) 3) (.cons (.attr (.v 7) 2) .nil))))) (.cons (.v 8) .nil)) .nil)) (.cons (.ret false (.k (.bl false))) .nil) .nil) (.cons (.ite (.or (.cons (.cmp .eq (.v 7) (.v 8)) (.cons (.cmp .is_ (.v 7) (.k (.non))) (.cons (.cmp .eq (.v 7) (.attr (.v 7) 1)) .nil)))) (.cons (.ret false (.k (.bl false))) .nil) .nil) (.cons (.for_ .seq (.cons (.v 3) .nil) (.t2 (.n 9) (.n 10)) inner2) .nil))
theorem turn2 (k : Nat) (M : Store) {a0 a1 a2 a3 a4 a5 a6 : Option D} {p g s f p' g' s' f' : D} (h : OKQ p g s f) (h' : OKQ p' g' s' f') : sxs (Cj (k + 4)) inner2 [a0, a1, a2, a3, a4, a5, a6, some (obj p g s f), some (tp4 p g s f), some (obj p' g' s' f'), some (tp4 p' g' s' f')] M = .nx [a0, a1, a2, a3, a4, a5, a6, some (obj p g s f), some (tp4 p g s f), some (obj p' g' s' f'), some (tp4 p' g' s' f')] M := by
  have e1 := cmp_obj (k + 3) M h h'
  have e2 := cmp_tup (k + 4) M h h'
  have e3 := cmp_obj (k + 3) M h okq0
  have e4 := cmp_tup (k + 4) M h okq0
  have m0 := mk0 (k + 1) M
  unfold inner2
  simp -implicitDefEqProofs only [bind_ok, bind_ex, fl_ok, fl_ex, seq_nx, seq_rt, seq_ex, q_k, q_v, q_g, q_tup, q_lst, q_bin, q_neg, q_evT, q_not, q_and1, q_and, q_or1, q_or, q_cmp, q_cmp2, q_ite, q_ix, q_sl, q_o0, q_o1, q_call, q_mk, q_bi, q_bm, q_attr, q_isi, q_e0, q_e1, q_e2, k_v, k_of, k_tup, k_tupX, k_lst, k_lstX, k_b1, k_b1X, k_b2, k_b2X, k_neg, k_t, k_tX, k_not, k_notX, k_and, k_andX, k_andT, k_andF, k_or, k_orX, k_orT, k_orF, k_c1, k_c1X, k_c2, k_c2X, k_d1, k_d2, k_d3T, k_d3F, k_d4, k_iT, k_iF, k_iX, k_x1, k_x1X, k_x2, k_x2X, k_s1, k_s2, k_s3, k_o, k_a1, k_a1X, k_a2, k_a2X, k_m1, k_m1X, k_m2, k_m2X, k_bi, k_biX, k_bm1, k_bm1X, k_bm2, k_bm3, k_bm3X, k_at, k_atX, k_is, k_isX, k_e1, k_e1X, k_e2, k_e2X, k_f1, k_f2, q_ss0, q_ss1, k_sq, k_sqR, k_sqX, k_sqB, k_sqC, q_set, k_set, k_setX, k_set2, q_par, k_p1, k_p1X, k_p2, k_p2X, q_sub, k_u1, k_u1X, k_u2, k_u3, k_u4, q_fld, k_w1, k_w1X, k_w2, q_ex, k_ex, k_exX, q_ret, k_rF, k_rT, k_rX, k_rf, q_retN, q_if, k_ifT, k_ifF, k_ifX, q_raise, k_rs, q_aug, k_agA, k_agS, q_pass, q_brk, q_cont, fin_rt, fin_nx, fin_ex, cmpR.eq_def, clsD.eq_def, ixD.eq_def, seqOf.eq_def, bin.eq_def, binI_add, binI_sub, binI_mod, binI_fdiv, binI_mulL, binI_mulR, Bool.and_self, sm_a, sm_b, sm_c, sm_d, sm_e, sm_f, sm_g, sm_h, sm_i, sm_j, sm_k, lg64, lg4096, lg65536, cmp.eq_def, truth.eq_def, biD.eq_def, lenD.eq_def, absD.eq_def, intD.eq_def, minD.eq_def, maxD.eq_def, newL.eq_def, bindT.eq_1, bindT.eq_2, bindT.eq_3, setD.eq_def, isNone.eq_def, List.getElem?_cons_zero, List.getElem?_cons_succ, List.set_cons_zero, List.set_cons_succ, List.length_cons, List.length_nil, at0, at1, at2, at3, if_true, if_false, decide_true, decide_false, and_self, and_true, true_and, Bool.false_eq_true, Nat.reduceAdd, Nat.reduceLT, Nat.reduceLeDiff, Nat.reduceSub, Nat.reduceEqDiff, Int.reduceLT, Int.reduceLE, Int.reduceNeg, Int.reduceToNat, reduceIte, reduceCtorEq, ix3_0, ix3_1, ix3_2, big, Nat.zero_le, ne_eq, not_false_eq_true, not_true_eq_false, isiD.eq_1, isiD.eq_2, isiOne.eq_def, tyBlt.eq_def, Option.map_some, Bool.not_true, Bool.not_false, ↓e1, ↓e2, ↓e3, ↓e4, ↓ne_bl, C_s5, m0, List.append_nil]
theorem loop2 (k : Nat) (M : Store) {L : Nat} {kept : List D} {a0 a1 a2 a4 a5 a6 a9 a10 : Option D} {p g s f : D} (h : OKQ p g s f) (hL : M[L]? = some (.lst kept)) (hk : ∀ x ∈ kept, Kp x) : ∃ b9 b10, sx (Cj (k + 4)) (.for_ .seq (.cons (.v 3) .nil) (.t2 (.n 9) (.n 10)) inner2) [a0, a1, a2, some (.ref L), a4, a5, a6, some (obj p g s f), some (tp4 p g s f), a9, a10] M = .nx [a0, a1, a2, some (.ref L), a4, a5, a6, some (obj p g s f), some (tp4 p g s f), b9, b10] M := by
  obtain ⟨ρ', M', e, rfl, b9, b10, rfl⟩ := forC_inv (tg := .t2 (.n 9) (.n 10)) (f := fun ρ' M' => sxs (Cj (k + 4)) inner2 ρ' M') (n := L) (xs := kept) (fun _ ρ S => S = M ∧ ∃ b9 b10, ρ = [a0, a1, a2, some (.ref L), a4, a5, a6, some (obj p g s f), some (tp4 p g s f), b9, b10]) (fun i ρ S hI => by rw [hI.1]; exact hL) (k := kept.length) (i := 0) (ρ := [a0, a1, a2, some (.ref L), a4, a5, a6, some (obj p g s f), some (tp4 p g s f), a9, a10]) (M := M) (by omega) ⟨rfl, a9, a10, rfl⟩ fun j x ρ S _ hx hI => by
      obtain ⟨rfl, b9, b10, rfl⟩ := hI
      obtain ⟨p', g', s', f', rfl, h', _⟩ := hk x (List.mem_of_getElem? hx)
      exact ⟨_, rfl, _, _, turn2 k S h h', rfl, _, _, rfl⟩
  exact ⟨b9, b10, (for_cel (n := L) (xs := kept) (by simp -implicitDefEqProofs only [bind_ok, bind_ex, fl_ok, fl_ex, seq_nx, seq_rt, seq_ex, q_k, q_v, q_g, q_tup, q_lst, q_bin, q_neg, q_evT, q_not, q_and1, q_and, q_or1, q_or, q_cmp, q_cmp2, q_ite, q_ix, q_sl, q_o0, q_o1, q_call, q_mk, q_bi, q_bm, q_attr, q_isi, q_e0, q_e1, q_e2, k_v, k_of, k_tup, k_tupX, k_lst, k_lstX, k_b1, k_b1X, k_b2, k_b2X, k_neg, k_t, k_tX, k_not, k_notX, k_and, k_andX, k_andT, k_andF, k_or, k_orX, k_orT, k_orF, k_c1, k_c1X, k_c2, k_c2X, k_d1, k_d2, k_d3T, k_d3F, k_d4, k_iT, k_iF, k_iX, k_x1, k_x1X, k_x2, k_x2X, k_s1, k_s2, k_s3, k_o, k_a1, k_a1X, k_a2, k_a2X, k_m1, k_m1X, k_m2, k_m2X, k_bi, k_biX, k_bm1, k_bm1X, k_bm2, k_bm3, k_bm3X, k_at, k_atX, k_is, k_isX, k_e1, k_e1X, k_e2, k_e2X, k_f1, k_f2, q_ss0, q_ss1, k_sq, k_sqR, k_sqX, k_sqB, k_sqC, q_set, k_set, k_setX, k_set2, q_par, k_p1, k_p1X, k_p2, k_p2X, q_sub, k_u1, k_u1X, k_u2, k_u3, k_u4, q_fld, k_w1, k_w1X, k_w2, q_ex, k_ex, k_exX, q_ret, k_rF, k_rT, k_rX, k_rf, q_retN, q_if, k_ifT, k_ifF, k_ifX, q_raise, k_rs, q_aug, k_agA, k_agS, q_pass, q_brk, q_cont, fin_rt, fin_nx, fin_ex, cmpR.eq_def, clsD.eq_def, ixD.eq_def, seqOf.eq_def, bin.eq_def, binI_add, binI_sub, binI_mod, binI_fdiv, binI_mulL, binI_mulR, Bool.and_self, sm_a, sm_b, sm_c, sm_d, sm_e, sm_f, sm_g, sm_h, sm_i, sm_j, sm_k, lg64, lg4096, lg65536, cmp.eq_def, truth.eq_def, biD.eq_def, lenD.eq_def, absD.eq_def, intD.eq_def, minD.eq_def, maxD.eq_def, newL.eq_def, bindT.eq_1, bindT.eq_2, bindT.eq_3, setD.eq_def, isNone.eq_def, List.getElem?_cons_zero, List.getElem?_cons_succ, List.set_cons_zero, List.set_cons_succ, List.length_cons, List.length_nil, at0, at1, at2, at3, if_true, if_false, decide_true, decide_false, and_self, and_true, true_and, Bool.false_eq_true, Nat.reduceAdd, Nat.reduceLT, Nat.reduceLeDiff, Nat.reduceSub, Nat.reduceEqDiff, Int.reduceLT, Int.reduceLE, Int.reduceNeg, Int.reduceToNat, reduceIte, reduceCtorEq, ix3_0, ix3_1, ix3_2, big, Nat.zero_le, ne_eq, not_false_eq_true, not_true_eq_false, isiD.eq_1, isiD.eq_2, isiOne.eq_def, tyBlt.eq_def, Option.map_some, Bool.not_true, Bool.not_false]) hL).trans e⟩
theorem C_at (j : Nat) (M : Store) {p g s f : D} : attrD (Cj j).exk M (obj p g s f) 4 = some p ∧ attrD (Cj j).exk M (obj p g s f) 1 = some g ∧ attrD (Cj j).exk M (obj p g s f) 3 = some s ∧ attrD (Cj j).exk M (obj p g s f) 2 = some f := ⟨rfl, rfl, rfl, rfl⟩
theorem isn_obj (k : Nat) (M : Store) {p g s f : D} : cmpR (Cj k) .is_ (obj p g s f) .non M = .ok (.bl false) M := rfl
theorem turn1 (k : Nat) (M : Store) {L : Nat} {kept : List D} {a0 a1 a2 a4 a5 a6 a9 a10 : Option D} {p g s f : D} (h : OKQ p g s f) (hL : M[L]? = some (.lst kept)) (hk : ∀ x ∈ kept, Kp x) : ∃ b9 b10, sxs (Cj (k + 4)) inner1 [a0, a1, a2, some (.ref L), a4, a5, a6, some (obj p g s f), some (tp4 p g s f), a9, a10] M = .nx [a0, a1, a2, some (.ref L), a4, a5, a6, some (obj p g s f), some (tp4 p g s f), b9, b10] M := by
  obtain ⟨b9, b10, e⟩ := loop2 k M (a0 := a0) (a1 := a1) (a2 := a2) (a4 := a4) (a5 := a5) (a6 := a6) (a9 := a9) (a10 := a10) h hL hk
  refine ⟨b9, b10, ?_⟩
  obtain ⟨c4, c1, c3, c2⟩ := C_at (k + 4) M (p := p) (g := g) (s := s) (f := f)
  have st := h.strict (k + 1) M
  have n1 := cmp_no (k + 3) M (p := p) (g := g) (s := s) (f := f) (y := tp4 p g s f) (.inl ⟨_, rfl⟩)
  have n2 : cmpR (Cj (k + 4)) .eq (obj p g s f) g M = .ok (.bl false) M := by
    obtain ⟨_, ⟨z, rfl, _⟩, _⟩ := h
    exact cmp_no (k + 3) M (.inr ⟨_, rfl⟩)
  unfold inner1
  have e1 : sx (Cj (k + 4)) (.ite (.not (.call 8 0 (.cons (.tup (.cons (.attr (.v 7) 4) (.cons (.attr (.v 7) 1) (.cons (.attr (.v 7) 3) (.cons (.attr (.v 7) 2) .nil))))) (.cons (.v 8) .nil)) .nil)) (.cons (.ret false (.k (.bl false))) .nil) .nil) [a0, a1, a2, some (.ref L), a4, a5, a6, some (obj p g s f), some (tp4 p g s f), a9, a10] M = .nx [a0, a1, a2, some (.ref L), a4, a5, a6, some (obj p g s f), some (tp4 p g s f), a9, a10] M := by
    simp -implicitDefEqProofs only [bind_ok, bind_ex, fl_ok, fl_ex, seq_nx, seq_rt, seq_ex, q_k, q_v, q_g, q_tup, q_lst, q_bin, q_neg, q_evT, q_not, q_and1, q_and, q_or1, q_or, q_cmp, q_cmp2, q_ite, q_ix, q_sl, q_o0, q_o1, q_call, q_mk, q_bi, q_bm, q_attr, q_isi, q_e0, q_e1, q_e2, k_v, k_of, k_tup, k_tupX, k_lst, k_lstX, k_b1, k_b1X, k_b2, k_b2X, k_neg, k_t, k_tX, k_not, k_notX, k_and, k_andX, k_andT, k_andF, k_or, k_orX, k_orT, k_orF, k_c1, k_c1X, k_c2, k_c2X, k_d1, k_d2, k_d3T, k_d3F, k_d4, k_iT, k_iF, k_iX, k_x1, k_x1X, k_x2, k_x2X, k_s1, k_s2, k_s3, k_o, k_a1, k_a1X, k_a2, k_a2X, k_m1, k_m1X, k_m2, k_m2X, k_bi, k_biX, k_bm1, k_bm1X, k_bm2, k_bm3, k_bm3X, k_at, k_atX, k_is, k_isX, k_e1, k_e1X, k_e2, k_e2X, k_f1, k_f2, q_ss0, q_ss1, k_sq, k_sqR, k_sqX, k_sqB, k_sqC, q_set, k_set, k_setX, k_set2, q_par, k_p1, k_p1X, k_p2, k_p2X, q_sub, k_u1, k_u1X, k_u2, k_u3, k_u4, q_fld, k_w1, k_w1X, k_w2, q_ex, k_ex, k_exX, q_ret, k_rF, k_rT, k_rX, k_rf, q_retN, q_if, k_ifT, k_ifF, k_ifX, q_raise, k_rs, q_aug, k_agA, k_agS, q_pass, q_brk, q_cont, fin_rt, fin_nx, fin_ex, cmpR.eq_def, clsD.eq_def, ixD.eq_def, seqOf.eq_def, bin.eq_def, binI_add, binI_sub, binI_mod, binI_fdiv, binI_mulL, binI_mulR, Bool.and_self, sm_a, sm_b, sm_c, sm_d, sm_e, sm_f, sm_g, sm_h, sm_i, sm_j, sm_k, lg64, lg4096, lg65536, cmp.eq_def, truth.eq_def, biD.eq_def, lenD.eq_def, absD.eq_def, intD.eq_def, minD.eq_def, maxD.eq_def, newL.eq_def, bindT.eq_1, bindT.eq_2, bindT.eq_3, setD.eq_def, isNone.eq_def, List.getElem?_cons_zero, List.getElem?_cons_succ, List.set_cons_zero, List.set_cons_succ, List.length_cons, List.length_nil, at0, at1, at2, at3, if_true, if_false, decide_true, decide_false, and_self, and_true, true_and, Bool.false_eq_true, Nat.reduceAdd, Nat.reduceLT, Nat.reduceLeDiff, Nat.reduceSub, Nat.reduceEqDiff, Int.reduceLT, Int.reduceLE, Int.reduceNeg, Int.reduceToNat, reduceIte, reduceCtorEq, ix3_0, ix3_1, ix3_2, big, Nat.zero_le, ne_eq, not_false_eq_true, not_true_eq_false, isiD.eq_1, isiD.eq_2, isiOne.eq_def, tyBlt.eq_def, Option.map_some, Bool.not_true, Bool.not_false, c4, c1, c3, c2, C_s0, callG.eq_def, sel.eq_1, sel.eq_2, sel.eq_3, sel.eq_4, C_call, List.append_nil, ↓st]
  have e2 : sx (Cj (k + 4)) (.ite (.or (.cons (.cmp .eq (.v 7) (.v 8)) (.cons (.cmp .is_ (.v 7) (.k (.non))) (.cons (.cmp .eq (.v 7) (.attr (.v 7) 1)) .nil)))) (.cons (.ret false (.k (.bl false))) .nil) .nil) [a0, a1, a2, some (.ref L), a4, a5, a6, some (obj p g s f), some (tp4 p g s f), a9, a10] M = .nx [a0, a1, a2, some (.ref L), a4, a5, a6, some (obj p g s f), some (tp4 p g s f), a9, a10] M := by
    simp -implicitDefEqProofs only [bind_ok, bind_ex, fl_ok, fl_ex, seq_nx, seq_rt, seq_ex, q_k, q_v, q_g, q_tup, q_lst, q_bin, q_neg, q_evT, q_not, q_and1, q_and, q_or1, q_or, q_cmp, q_cmp2, q_ite, q_ix, q_sl, q_o0, q_o1, q_call, q_mk, q_bi, q_bm, q_attr, q_isi, q_e0, q_e1, q_e2, k_v, k_of, k_tup, k_tupX, k_lst, k_lstX, k_b1, k_b1X, k_b2, k_b2X, k_neg, k_t, k_tX, k_not, k_notX, k_and, k_andX, k_andT, k_andF, k_or, k_orX, k_orT, k_orF, k_c1, k_c1X, k_c2, k_c2X, k_d1, k_d2, k_d3T, k_d3F, k_d4, k_iT, k_iF, k_iX, k_x1, k_x1X, k_x2, k_x2X, k_s1, k_s2, k_s3, k_o, k_a1, k_a1X, k_a2, k_a2X, k_m1, k_m1X, k_m2, k_m2X, k_bi, k_biX, k_bm1, k_bm1X, k_bm2, k_bm3, k_bm3X, k_at, k_atX, k_is, k_isX, k_e1, k_e1X, k_e2, k_e2X, k_f1, k_f2, q_ss0, q_ss1, k_sq, k_sqR, k_sqX, k_sqB, k_sqC, q_set, k_set, k_setX, k_set2, q_par, k_p1, k_p1X, k_p2, k_p2X, q_sub, k_u1, k_u1X, k_u2, k_u3, k_u4, q_fld, k_w1, k_w1X, k_w2, q_ex, k_ex, k_exX, q_ret, k_rF, k_rT, k_rX, k_rf, q_retN, q_if, k_ifT, k_ifF, k_ifX, q_raise, k_rs, q_aug, k_agA, k_agS, q_pass, q_brk, q_cont, fin_rt, fin_nx, fin_ex, cmpR.eq_def, clsD.eq_def, ixD.eq_def, seqOf.eq_def, bin.eq_def, binI_add, binI_sub, binI_mod, binI_fdiv, binI_mulL, binI_mulR, Bool.and_self, sm_a, sm_b, sm_c, sm_d, sm_e, sm_f, sm_g, sm_h, sm_i, sm_j, sm_k, lg64, lg4096, lg65536, cmp.eq_def, truth.eq_def, biD.eq_def, lenD.eq_def, absD.eq_def, intD.eq_def, minD.eq_def, maxD.eq_def, newL.eq_def, bindT.eq_1, bindT.eq_2, bindT.eq_3, setD.eq_def, isNone.eq_def, List.getElem?_cons_zero, List.getElem?_cons_succ, List.set_cons_zero, List.set_cons_succ, List.length_cons, List.length_nil, at0, at1, at2, at3, if_true, if_false, decide_true, decide_false, and_self, and_true, true_and, Bool.false_eq_true, Nat.reduceAdd, Nat.reduceLT, Nat.reduceLeDiff, Nat.reduceSub, Nat.reduceEqDiff, Int.reduceLT, Int.reduceLE, Int.reduceNeg, Int.reduceToNat, reduceIte, reduceCtorEq, ix3_0, ix3_1, ix3_2, big, Nat.zero_le, ne_eq, not_false_eq_true, not_true_eq_false, isiD.eq_1, isiD.eq_2, isiOne.eq_def, tyBlt.eq_def, Option.map_some, Bool.not_true, Bool.not_false, c4, c1, c3, c2, ↓n1, ↓n2, ↓isn_obj]
  rw [sxs_nx e1, sxs_nx e2, sxs_nx e, sxs.eq_1]
theorem loop1 (k : Nat) (M : Store) {L : Nat} {kept : List D} {a0 a1 a2 a4 a5 a6 a7 a8 a9 a10 : Option D} (hL : M[L]? = some (.lst kept)) (hk : ∀ x ∈ kept, Kp x) : ∃ b7 b8 b9 b10, sx (Cj (k + 4)) (.for_ .seq (.cons (.v 3) .nil) (.t2 (.n 7) (.n 8)) inner1) [a0, a1, a2, some (.ref L), a4, a5, a6, a7, a8, a9, a10] M = .nx [a0, a1, a2, some (.ref L), a4, a5, a6, b7, b8, b9, b10] M := by
  obtain ⟨ρ', M', e, rfl, b7, b8, b9, b10, rfl⟩ := forC_inv (tg := .t2 (.n 7) (.n 8)) (f := fun ρ' M' => sxs (Cj (k + 4)) inner1 ρ' M') (n := L) (xs := kept) (fun _ ρ S => S = M ∧ ∃ b7 b8 b9 b10, ρ = [a0, a1, a2, some (.ref L), a4, a5, a6, b7, b8, b9, b10]) (fun i ρ S hI => by rw [hI.1]; exact hL) (k := kept.length) (i := 0) (ρ := [a0, a1, a2, some (.ref L), a4, a5, a6, a7, a8, a9, a10]) (M := M) (by omega) ⟨rfl, a7, a8, a9, a10, rfl⟩ fun j x ρ S _ hx hI => by
      obtain ⟨rfl, b7, b8, b9, b10, rfl⟩ := hI
      obtain ⟨p', g', s', f', rfl, h', _⟩ := hk x (List.mem_of_getElem? hx)
      obtain ⟨c9, c10, e⟩ := turn1 k S (a0 := a0) (a1 := a1) (a2 := a2) (a4 := a4) (a5 := a5) (a6 := a6) (a9 := b9) (a10 := b10) h' hL hk
      exact ⟨_, rfl, _, _, e, rfl, _, _, _, _, rfl⟩
  exact ⟨b7, b8, b9, b10, (for_cel (n := L) (xs := kept) (by simp -implicitDefEqProofs only [bind_ok, bind_ex, fl_ok, fl_ex, seq_nx, seq_rt, seq_ex, q_k, q_v, q_g, q_tup, q_lst, q_bin, q_neg, q_evT, q_not, q_and1, q_and, q_or1, q_or, q_cmp, q_cmp2, q_ite, q_ix, q_sl, q_o0, q_o1, q_call, q_mk, q_bi, q_bm, q_attr, q_isi, q_e0, q_e1, q_e2, k_v, k_of, k_tup, k_tupX, k_lst, k_lstX, k_b1, k_b1X, k_b2, k_b2X, k_neg, k_t, k_tX, k_not, k_notX, k_and, k_andX, k_andT, k_andF, k_or, k_orX, k_orT, k_orF, k_c1, k_c1X, k_c2, k_c2X, k_d1, k_d2, k_d3T, k_d3F, k_d4, k_iT, k_iF, k_iX, k_x1, k_x1X, k_x2, k_x2X, k_s1, k_s2, k_s3, k_o, k_a1, k_a1X, k_a2, k_a2X, k_m1, k_m1X, k_m2, k_m2X, k_bi, k_biX, k_bm1, k_bm1X, k_bm2, k_bm3, k_bm3X, k_at, k_atX, k_is, k_isX, k_e1, k_e1X, k_e2, k_e2X, k_f1, k_f2, q_ss0, q_ss1, k_sq, k_sqR, k_sqX, k_sqB, k_sqC, q_set, k_set, k_setX, k_set2, q_par, k_p1, k_p1X, k_p2, k_p2X, q_sub, k_u1, k_u1X, k_u2, k_u3, k_u4, q_fld, k_w1, k_w1X, k_w2, q_ex, k_ex, k_exX, q_ret, k_rF, k_rT, k_rX, k_rf, q_retN, q_if, k_ifT, k_ifF, k_ifX, q_raise, k_rs, q_aug, k_agA, k_agS, q_pass, q_brk, q_cont, fin_rt, fin_nx, fin_ex, cmpR.eq_def, clsD.eq_def, ixD.eq_def, seqOf.eq_def, bin.eq_def, binI_add, binI_sub, binI_mod, binI_fdiv, binI_mulL, binI_mulR, Bool.and_self, sm_a, sm_b, sm_c, sm_d, sm_e, sm_f, sm_g, sm_h, sm_i, sm_j, sm_k, lg64, lg4096, lg65536, cmp.eq_def, truth.eq_def, biD.eq_def, lenD.eq_def, absD.eq_def, intD.eq_def, minD.eq_def, maxD.eq_def, newL.eq_def, bindT.eq_1, bindT.eq_2, bindT.eq_3, setD.eq_def, isNone.eq_def, List.getElem?_cons_zero, List.getElem?_cons_succ, List.set_cons_zero, List.set_cons_succ, List.length_cons, List.length_nil, at0, at1, at2, at3, if_true, if_false, decide_true, decide_false, and_self, and_true, true_and, Bool.false_eq_true, Nat.reduceAdd, Nat.reduceLT, Nat.reduceLeDiff, Nat.reduceSub, Nat.reduceEqDiff, Int.reduceLT, Int.reduceLE, Int.reduceNeg, Int.reduceToNat, reduceIte, reduceCtorEq, ix3_0, ix3_1, ix3_2, big, Nat.zero_le, ne_eq, not_false_eq_true, not_true_eq_false, isiD.eq_1, isiD.eq_2, isiOne.eq_def, tyBlt.eq_def, Option.map_some, Bool.not_true, Bool.not_false]) hL).trans e⟩
/-! ### a turn -/
def turnB : Ss := .cons (.set (.t2 (.n 5) (.n 6)) (.call 11 0 (.cons (.v 0) (.cons (.v 2) .nil)) .nil)) (.cons (.set (.n 4) (.call 9 6 (.cons (.ix (.v 5) (.k (.int 0))) (.cons (.ix (.v 5) (.k (.int 1))) (.cons (.ix (.v 5) (.k (.int 2))) (.cons (.ix (.v 5) (.k (.int 3))) .nil)))) .nil)) (.cons (.ite (.or (.cons (.cmp .isNot (.v 6) (.k (.non))) (.cons (.isi (.v 4) [.str]) .nil))) (.cons (.ite (.or (.cons (.not (.isi (.v 4) [.str])) (.cons (.cmp .ne (.v 4) (.v 6)) .nil))) (.cons (.ret false (.k (.bl false))) .nil) .nil) .nil) (.cons (.ex (.bm .append (.v 3) (.cons (.tup (.cons (.v 4) (.cons (.v 5) .nil))) .nil))) .nil)) (.cons (.for_ .seq (.cons (.v 3) .nil) (.t2 (.n 7) (.n 8)) inner1) .nil)))
theorem part_ok {ws : List Str} {p g s f : D} {q : Str} (h : part ws p g s f = some q) : PyData.strOk q = true := by
  unfold part at h
  repeat' split at h
  all_goals first | (cases h; decide +kernel) | cases h
theorem C_cok0 (j : Nat) : (Cj j).cok 0 = true := rfl
theorem turn0 (k n t : Nat) (M1 : Store) {ws : List Str} {kept : List D} {a1 a4 a5 a6 a7 a8 a9 a10 : Option D} (hw : WsOk ws) (h0 : 0 < ws.length) (hl : ws.length < 1000) (hp : PotAt M1 n t) (ht : t < 10000) (hk : ∀ x ∈ kept, Kp x) (hkl : kept.length < 1000) :
    ∃ M2 kept' b4 b5 b6 b7 b8 b9 b10, sxs (Cj (k + 5)) turnB [some (.ref n), a1, some (.lst (ws.map .str)), some (.ref M1.length), a4, a5, a6, a7, a8, a9, a10] (M1 ++ [.lst kept]) = .nx [some (.ref n), a1, some (.lst (ws.map .str)), some (.ref M1.length), b4, b5, b6, b7, b8, b9, b10] (M2 ++ [.lst kept']) ∧ PotAt M2 n (t + 10) ∧ Drawn n M1 M2 ∧ (∀ x ∈ kept', Kp x) ∧ kept'.length ≤ kept.length + 1 := by
  obtain ⟨p, g, s, f, S2, e1, GD, p2, d2⟩ := callers_ok k n t (M1 ++ [.lst kept]) hw h0 hl (hp.app) ht
  obtain ⟨M2, rfl, d3⟩ := d2.app hp.lt
  have hM2 := d3.len
  have p3 := p2.unapp (by rw [hM2]; exact hp.lt)
  have e2 := made_ok (k + 1) (M2 ++ [.lst kept]) GD.v GD.u GD.fl
  have hg : ∀ c, (M2 ++ [c])[M1.length]? = some c := fun c => by rw [← hM2]; exact g1a
  have hs : ∀ c d, (M2 ++ [c]).set M1.length d = M2 ++ [d] := fun c d => by rw [← hM2]; exact s1a
  unfold turnB
  have s1 : sx (Cj (k + 5)) (.set (.t2 (.n 5) (.n 6)) (.call 11 0 (.cons (.v 0) (.cons (.v 2) .nil)) .nil)) [some (.ref n), a1, some (.lst (ws.map .str)), some (.ref M1.length), a4, a5, a6, a7, a8, a9, a10] (M1 ++ [.lst kept]) = .nx [some (.ref n), a1, some (.lst (ws.map .str)), some (.ref M1.length), a4, some (tp4 p g s f), some (dueD ws p g s f), a7, a8, a9, a10] (M2 ++ [.lst kept]) := by
    simp -implicitDefEqProofs only [bind_ok, bind_ex, fl_ok, fl_ex, seq_nx, seq_rt, seq_ex, q_k, q_v, q_g, q_tup, q_lst, q_bin, q_neg, q_evT, q_not, q_and1, q_and, q_or1, q_or, q_cmp, q_cmp2, q_ite, q_ix, q_sl, q_o0, q_o1, q_call, q_mk, q_bi, q_bm, q_attr, q_isi, q_e0, q_e1, q_e2, k_v, k_of, k_tup, k_tupX, k_lst, k_lstX, k_b1, k_b1X, k_b2, k_b2X, k_neg, k_t, k_tX, k_not, k_notX, k_and, k_andX, k_andT, k_andF, k_or, k_orX, k_orT, k_orF, k_c1, k_c1X, k_c2, k_c2X, k_d1, k_d2, k_d3T, k_d3F, k_d4, k_iT, k_iF, k_iX, k_x1, k_x1X, k_x2, k_x2X, k_s1, k_s2, k_s3, k_o, k_a1, k_a1X, k_a2, k_a2X, k_m1, k_m1X, k_m2, k_m2X, k_bi, k_biX, k_bm1, k_bm1X, k_bm2, k_bm3, k_bm3X, k_at, k_atX, k_is, k_isX, k_e1, k_e1X, k_e2, k_e2X, k_f1, k_f2, q_ss0, q_ss1, k_sq, k_sqR, k_sqX, k_sqB, k_sqC, q_set, k_set, k_setX, k_set2, q_par, k_p1, k_p1X, k_p2, k_p2X, q_sub, k_u1, k_u1X, k_u2, k_u3, k_u4, q_fld, k_w1, k_w1X, k_w2, q_ex, k_ex, k_exX, q_ret, k_rF, k_rT, k_rX, k_rf, q_retN, q_if, k_ifT, k_ifF, k_ifX, q_raise, k_rs, q_aug, k_agA, k_agS, q_pass, q_brk, q_cont, fin_rt, fin_nx, fin_ex, cmpR.eq_def, clsD.eq_def, ixD.eq_def, seqOf.eq_def, bin.eq_def, binI_add, binI_sub, binI_mod, binI_fdiv, binI_mulL, binI_mulR, Bool.and_self, sm_a, sm_b, sm_c, sm_d, sm_e, sm_f, sm_g, sm_h, sm_i, sm_j, sm_k, lg64, lg4096, lg65536, cmp.eq_def, truth.eq_def, biD.eq_def, lenD.eq_def, absD.eq_def, intD.eq_def, minD.eq_def, maxD.eq_def, newL.eq_def, bindT.eq_1, bindT.eq_2, bindT.eq_3, setD.eq_def, isNone.eq_def, List.getElem?_cons_zero, List.getElem?_cons_succ, List.set_cons_zero, List.set_cons_succ, List.length_cons, List.length_nil, at0, at1, at2, at3, if_true, if_false, decide_true, decide_false, and_self, and_true, true_and, Bool.false_eq_true, Nat.reduceAdd, Nat.reduceLT, Nat.reduceLeDiff, Nat.reduceSub, Nat.reduceEqDiff, Int.reduceLT, Int.reduceLE, Int.reduceNeg, Int.reduceToNat, reduceIte, reduceCtorEq, ix3_0, ix3_1, ix3_2, big, Nat.zero_le, ne_eq, not_false_eq_true, not_true_eq_false, isiD.eq_1, isiD.eq_2, isiOne.eq_def, tyBlt.eq_def, Option.map_some, Bool.not_true, Bool.not_false, C_s0, callG.eq_def, sel.eq_1, sel.eq_2, sel.eq_3, sel.eq_4, C_call, List.append_nil, e1, Option.bind_some]
  have s2 : sx (Cj (k + 5)) (.set (.n 4) (.call 9 6 (.cons (.ix (.v 5) (.k (.int 0))) (.cons (.ix (.v 5) (.k (.int 1))) (.cons (.ix (.v 5) (.k (.int 2))) (.cons (.ix (.v 5) (.k (.int 3))) .nil)))) .nil)) [some (.ref n), a1, some (.lst (ws.map .str)), some (.ref M1.length), a4, some (tp4 p g s f), some (dueD ws p g s f), a7, a8, a9, a10] (M2 ++ [.lst kept]) = .nx [some (.ref n), a1, some (.lst (ws.map .str)), some (.ref M1.length), some (res9 ws p g s f), some (tp4 p g s f), some (dueD ws p g s f), a7, a8, a9, a10] (M2 ++ [.lst kept]) := by
    simp -implicitDefEqProofs only [bind_ok, bind_ex, fl_ok, fl_ex, seq_nx, seq_rt, seq_ex, q_k, q_v, q_g, q_tup, q_lst, q_bin, q_neg, q_evT, q_not, q_and1, q_and, q_or1, q_or, q_cmp, q_cmp2, q_ite, q_ix, q_sl, q_o0, q_o1, q_call, q_mk, q_bi, q_bm, q_attr, q_isi, q_e0, q_e1, q_e2, k_v, k_of, k_tup, k_tupX, k_lst, k_lstX, k_b1, k_b1X, k_b2, k_b2X, k_neg, k_t, k_tX, k_not, k_notX, k_and, k_andX, k_andT, k_andF, k_or, k_orX, k_orT, k_orF, k_c1, k_c1X, k_c2, k_c2X, k_d1, k_d2, k_d3T, k_d3F, k_d4, k_iT, k_iF, k_iX, k_x1, k_x1X, k_x2, k_x2X, k_s1, k_s2, k_s3, k_o, k_a1, k_a1X, k_a2, k_a2X, k_m1, k_m1X, k_m2, k_m2X, k_bi, k_biX, k_bm1, k_bm1X, k_bm2, k_bm3, k_bm3X, k_at, k_atX, k_is, k_isX, k_e1, k_e1X, k_e2, k_e2X, k_f1, k_f2, q_ss0, q_ss1, k_sq, k_sqR, k_sqX, k_sqB, k_sqC, q_set, k_set, k_setX, k_set2, q_par, k_p1, k_p1X, k_p2, k_p2X, q_sub, k_u1, k_u1X, k_u2, k_u3, k_u4, q_fld, k_w1, k_w1X, k_w2, q_ex, k_ex, k_exX, q_ret, k_rF, k_rT, k_rX, k_rf, q_retN, q_if, k_ifT, k_ifF, k_ifX, q_raise, k_rs, q_aug, k_agA, k_agS, q_pass, q_brk, q_cont, fin_rt, fin_nx, fin_ex, cmpR.eq_def, clsD.eq_def, ixD.eq_def, seqOf.eq_def, bin.eq_def, binI_add, binI_sub, binI_mod, binI_fdiv, binI_mulL, binI_mulR, Bool.and_self, sm_a, sm_b, sm_c, sm_d, sm_e, sm_f, sm_g, sm_h, sm_i, sm_j, sm_k, lg64, lg4096, lg65536, cmp.eq_def, truth.eq_def, biD.eq_def, lenD.eq_def, absD.eq_def, intD.eq_def, minD.eq_def, maxD.eq_def, newL.eq_def, bindT.eq_1, bindT.eq_2, bindT.eq_3, setD.eq_def, isNone.eq_def, List.getElem?_cons_zero, List.getElem?_cons_succ, List.set_cons_zero, List.set_cons_succ, List.length_cons, List.length_nil, at0, at1, at2, at3, if_true, if_false, decide_true, decide_false, and_self, and_true, true_and, Bool.false_eq_true, Nat.reduceAdd, Nat.reduceLT, Nat.reduceLeDiff, Nat.reduceSub, Nat.reduceEqDiff, Int.reduceLT, Int.reduceLE, Int.reduceNeg, Int.reduceToNat, reduceIte, reduceCtorEq, ix3_0, ix3_1, ix3_2, big, Nat.zero_le, ne_eq, not_false_eq_true, not_true_eq_false, isiD.eq_1, isiD.eq_2, isiOne.eq_def, tyBlt.eq_def, Option.map_some, Bool.not_true, Bool.not_false, C_s6, callG.eq_def, sel.eq_1, sel.eq_2, sel.eq_3, sel.eq_4, C_call, List.append_nil, e2]
  have s3 : ∃ kept', sx (Cj (k + 5)) (.ite (.or (.cons (.cmp .isNot (.v 6) (.k (.non))) (.cons (.isi (.v 4) [.str]) .nil))) (.cons (.ite (.or (.cons (.not (.isi (.v 4) [.str])) (.cons (.cmp .ne (.v 4) (.v 6)) .nil))) (.cons (.ret false (.k (.bl false))) .nil) .nil) .nil) (.cons (.ex (.bm .append (.v 3) (.cons (.tup (.cons (.v 4) (.cons (.v 5) .nil))) .nil))) .nil)) [some (.ref n), a1, some (.lst (ws.map .str)), some (.ref M1.length), some (res9 ws p g s f), some (tp4 p g s f), some (dueD ws p g s f), a7, a8, a9, a10] (M2 ++ [.lst kept]) = .nx [some (.ref n), a1, some (.lst (ws.map .str)), some (.ref M1.length), some (res9 ws p g s f), some (tp4 p g s f), some (dueD ws p g s f), a7, a8, a9, a10] (M2 ++ [.lst kept']) ∧ (∀ x ∈ kept', Kp x) ∧ kept'.length ≤ kept.length + 1 := by
    unfold res9 dueD
    cases hq : part ws p g s f with
    | none =>
      refine ⟨kept ++ [.tup [obj p g s f, tp4 p g s f]], ?_, fun x hx => ?_, by simp⟩
      · have hb : kept.length < 16777216 := by omega
        unfold obj
        simp -implicitDefEqProofs only [bind_ok, bind_ex, fl_ok, fl_ex, seq_nx, seq_rt, seq_ex, q_k, q_v, q_g, q_tup, q_lst, q_bin, q_neg, q_evT, q_not, q_and1, q_and, q_or1, q_or, q_cmp, q_cmp2, q_ite, q_ix, q_sl, q_o0, q_o1, q_call, q_mk, q_bi, q_bm, q_attr, q_isi, q_e0, q_e1, q_e2, k_v, k_of, k_tup, k_tupX, k_lst, k_lstX, k_b1, k_b1X, k_b2, k_b2X, k_neg, k_t, k_tX, k_not, k_notX, k_and, k_andX, k_andT, k_andF, k_or, k_orX, k_orT, k_orF, k_c1, k_c1X, k_c2, k_c2X, k_d1, k_d2, k_d3T, k_d3F, k_d4, k_iT, k_iF, k_iX, k_x1, k_x1X, k_x2, k_x2X, k_s1, k_s2, k_s3, k_o, k_a1, k_a1X, k_a2, k_a2X, k_m1, k_m1X, k_m2, k_m2X, k_bi, k_biX, k_bm1, k_bm1X, k_bm2, k_bm3, k_bm3X, k_at, k_atX, k_is, k_isX, k_e1, k_e1X, k_e2, k_e2X, k_f1, k_f2, q_ss0, q_ss1, k_sq, k_sqR, k_sqX, k_sqB, k_sqC, q_set, k_set, k_setX, k_set2, q_par, k_p1, k_p1X, k_p2, k_p2X, q_sub, k_u1, k_u1X, k_u2, k_u3, k_u4, q_fld, k_w1, k_w1X, k_w2, q_ex, k_ex, k_exX, q_ret, k_rF, k_rT, k_rX, k_rf, q_retN, q_if, k_ifT, k_ifF, k_ifX, q_raise, k_rs, q_aug, k_agA, k_agS, q_pass, q_brk, q_cont, fin_rt, fin_nx, fin_ex, cmpR.eq_def, clsD.eq_def, ixD.eq_def, seqOf.eq_def, bin.eq_def, binI_add, binI_sub, binI_mod, binI_fdiv, binI_mulL, binI_mulR, Bool.and_self, sm_a, sm_b, sm_c, sm_d, sm_e, sm_f, sm_g, sm_h, sm_i, sm_j, sm_k, lg64, lg4096, lg65536, cmp.eq_def, truth.eq_def, biD.eq_def, lenD.eq_def, absD.eq_def, intD.eq_def, minD.eq_def, maxD.eq_def, newL.eq_def, bindT.eq_1, bindT.eq_2, bindT.eq_3, setD.eq_def, isNone.eq_def, List.getElem?_cons_zero, List.getElem?_cons_succ, List.set_cons_zero, List.set_cons_succ, List.length_cons, List.length_nil, at0, at1, at2, at3, if_true, if_false, decide_true, decide_false, and_self, and_true, true_and, Bool.false_eq_true, Nat.reduceAdd, Nat.reduceLT, Nat.reduceLeDiff, Nat.reduceSub, Nat.reduceEqDiff, Int.reduceLT, Int.reduceLE, Int.reduceNeg, Int.reduceToNat, reduceIte, reduceCtorEq, ix3_0, ix3_1, ix3_2, big, Nat.zero_le, ne_eq, not_false_eq_true, not_true_eq_false, isiD.eq_1, isiD.eq_2, isiOne.eq_def, tyBlt.eq_def, Option.map_some, Bool.not_true, Bool.not_false, tyOwn.eq_def, C_cok0, recvOk.eq_def, bmD.eq_def, appendD.eq_def, hg, hs, hb]
      · rcases List.mem_append.mp hx with h | h
        · exact hk x h
        · rw [List.mem_singleton.mp h]
          exact ⟨p, g, s, f, rfl, okq_of GD hq, GD.u⟩
    | some q =>
      refine ⟨kept, ?_, hk, by omega⟩
      have hz := part_ok hq
      have e : eqD (.str q) (.str q) = some true := by rw [eqD_ok (a := .str q) (b := .str q) hz hz (Nat.zero_le _) (Nat.zero_le _), eqDD_refl (a := .str q) hz]
      simp -implicitDefEqProofs only [bind_ok, bind_ex, fl_ok, fl_ex, seq_nx, seq_rt, seq_ex, q_k, q_v, q_g, q_tup, q_lst, q_bin, q_neg, q_evT, q_not, q_and1, q_and, q_or1, q_or, q_cmp, q_cmp2, q_ite, q_ix, q_sl, q_o0, q_o1, q_call, q_mk, q_bi, q_bm, q_attr, q_isi, q_e0, q_e1, q_e2, k_v, k_of, k_tup, k_tupX, k_lst, k_lstX, k_b1, k_b1X, k_b2, k_b2X, k_neg, k_t, k_tX, k_not, k_notX, k_and, k_andX, k_andT, k_andF, k_or, k_orX, k_orT, k_orF, k_c1, k_c1X, k_c2, k_c2X, k_d1, k_d2, k_d3T, k_d3F, k_d4, k_iT, k_iF, k_iX, k_x1, k_x1X, k_x2, k_x2X, k_s1, k_s2, k_s3, k_o, k_a1, k_a1X, k_a2, k_a2X, k_m1, k_m1X, k_m2, k_m2X, k_bi, k_biX, k_bm1, k_bm1X, k_bm2, k_bm3, k_bm3X, k_at, k_atX, k_is, k_isX, k_e1, k_e1X, k_e2, k_e2X, k_f1, k_f2, q_ss0, q_ss1, k_sq, k_sqR, k_sqX, k_sqB, k_sqC, q_set, k_set, k_setX, k_set2, q_par, k_p1, k_p1X, k_p2, k_p2X, q_sub, k_u1, k_u1X, k_u2, k_u3, k_u4, q_fld, k_w1, k_w1X, k_w2, q_ex, k_ex, k_exX, q_ret, k_rF, k_rT, k_rX, k_rf, q_retN, q_if, k_ifT, k_ifF, k_ifX, q_raise, k_rs, q_aug, k_agA, k_agS, q_pass, q_brk, q_cont, fin_rt, fin_nx, fin_ex, cmpR.eq_def, clsD.eq_def, ixD.eq_def, seqOf.eq_def, bin.eq_def, binI_add, binI_sub, binI_mod, binI_fdiv, binI_mulL, binI_mulR, Bool.and_self, sm_a, sm_b, sm_c, sm_d, sm_e, sm_f, sm_g, sm_h, sm_i, sm_j, sm_k, lg64, lg4096, lg65536, cmp.eq_def, truth.eq_def, biD.eq_def, lenD.eq_def, absD.eq_def, intD.eq_def, minD.eq_def, maxD.eq_def, newL.eq_def, bindT.eq_1, bindT.eq_2, bindT.eq_3, setD.eq_def, isNone.eq_def, List.getElem?_cons_zero, List.getElem?_cons_succ, List.set_cons_zero, List.set_cons_succ, List.length_cons, List.length_nil, at0, at1, at2, at3, if_true, if_false, decide_true, decide_false, and_self, and_true, true_and, Bool.false_eq_true, Nat.reduceAdd, Nat.reduceLT, Nat.reduceLeDiff, Nat.reduceSub, Nat.reduceEqDiff, Int.reduceLT, Int.reduceLE, Int.reduceNeg, Int.reduceToNat, reduceIte, reduceCtorEq, ix3_0, ix3_1, ix3_2, big, Nat.zero_le, ne_eq, not_false_eq_true, not_true_eq_false, isiD.eq_1, isiD.eq_2, isiOne.eq_def, tyBlt.eq_def, Option.map_some, Bool.not_true, Bool.not_false, D.see, e]
  obtain ⟨kept', s3, hk', hkl'⟩ := s3
  obtain ⟨b7, b8, b9, b10, s4⟩ := loop1 (k + 1) (M2 ++ [.lst kept']) (a0 := some (.ref n)) (a1 := a1) (a2 := some (.lst (ws.map .str))) (a4 := some (res9 ws p g s f)) (a5 := some (tp4 p g s f)) (a6 := some (dueD ws p g s f)) (a7 := a7) (a8 := a8) (a9 := a9) (a10 := a10) (L := M1.length) (hg _) hk'
  refine ⟨M2, kept', some (res9 ws p g s f), some (tp4 p g s f), some (dueD ws p g s f), b7, b8, b9, b10, ?_, p3, d3, hk', hkl'⟩
  rw [sxs_nx s1, sxs_nx s2, sxs_nx s3, sxs_nx s4, sxs.eq_1]
end Law
namespace Law
open PySem Dv
theorem wd_ok {pre suf : List Nat} {sh i : Nat} (h : Stem pre suf) : Wq (wd pre suf sh i) := by
  obtain ⟨h1, h2, h3⟩ := h
  refine ⟨pre ++ (97 + (sh + i) % 26) :: suf, rfl, by simp; omega, by simp at h3 ⊢; omega, fun c hc => ?_, ?_⟩
  · simp only [List.mem_append, List.mem_cons] at hc h1
    rcases hc with h | rfl | h
    · exact h1 c (.inl h)
    · omega
    · exact h1 c (.inr h)
  · simp only [List.mem_append, List.mem_cons] at h2 ⊢
    rcases h2 with h | h
    · exact .inl h
    · exact .inr (.inr h)
theorem b12_eq : b12 = .cons (.par 2 3 (.call 6 0 (.cons (.v 0) (.cons (.k (.int 20)) .nil)) .nil) (.lst true .nil)) (.cons (.for_ .rng (.cons (.k (.int 6)) .nil) (.n 1) turnB) (.cons (.ret false (.k (.bl true))) .nil)) := rfl
theorem right_ok (k n : Nat) (M : Store) (hp : PotAt M n 0) : ∃ M', run Z.G (k + 6) 12 [.ref n] M = .ok (.bl true) M' ∧ Drawn n M M' := by
  obtain ⟨pre, suf, sh, M1, e1, st, p1, d1⟩ := words (k + 2) n 0 20 M hp (by omega) (by omega)
  have hM1 := d1.len
  let ws : List Str := (List.range 20).map fun i => wd pre suf sh i
  have hws : (List.range 20).map (fun i => D.str (wd pre suf sh i)) = ws.map D.str := by simp [ws]
  have hw : WsOk ws := fun w hm => by
    obtain ⟨i, _, rfl⟩ := List.mem_map.mp hm
    exact wd_ok st
  have hl : ws.length = 20 := by simp [ws]
  rw [hws] at e1
  rw [run_eq (G := Z.G) (f := 12) (F := ⟨1, 11, b12⟩) rfl ⟨rfl, (by decide : 1 ≤ 11)⟩]
  show ∃ M', fin _ (sxs (Cj (k + 5)) b12 [some (.ref n), none, none, none, none, none, none, none, none, none, none] _) = _ ∧ _
  rw [b12_eq]
  have s1 : sx (Cj (k + 5)) (.par 2 3 (.call 6 0 (.cons (.v 0) (.cons (.k (.int 20)) .nil)) .nil) (.lst true .nil)) [some (.ref n), none, none, none, none, none, none, none, none, none, none] M = .nx [some (.ref n), none, some (.lst (ws.map .str)), some (.ref M1.length), none, none, none, none, none, none, none] (M1 ++ [.lst []]) := by
    have e1' : Dv.run Z.G (k + 5) 6 [D.ref n, D.int 20] M = .ok (.lst (ws.map .str)) M1 := e1
    simp -implicitDefEqProofs only [bind_ok, bind_ex, fl_ok, fl_ex, seq_nx, seq_rt, seq_ex, q_k, q_v, q_g, q_tup, q_lst, q_bin, q_neg, q_evT, q_not, q_and1, q_and, q_or1, q_or, q_cmp, q_cmp2, q_ite, q_ix, q_sl, q_o0, q_o1, q_call, q_mk, q_bi, q_bm, q_attr, q_isi, q_e0, q_e1, q_e2, k_v, k_of, k_tup, k_tupX, k_lst, k_lstX, k_b1, k_b1X, k_b2, k_b2X, k_neg, k_t, k_tX, k_not, k_notX, k_and, k_andX, k_andT, k_andF, k_or, k_orX, k_orT, k_orF, k_c1, k_c1X, k_c2, k_c2X, k_d1, k_d2, k_d3T, k_d3F, k_d4, k_iT, k_iF, k_iX, k_x1, k_x1X, k_x2, k_x2X, k_s1, k_s2, k_s3, k_o, k_a1, k_a1X, k_a2, k_a2X, k_m1, k_m1X, k_m2, k_m2X, k_bi, k_biX, k_bm1, k_bm1X, k_bm2, k_bm3, k_bm3X, k_at, k_atX, k_is, k_isX, k_e1, k_e1X, k_e2, k_e2X, k_f1, k_f2, q_ss0, q_ss1, k_sq, k_sqR, k_sqX, k_sqB, k_sqC, q_set, k_set, k_setX, k_set2, q_par, k_p1, k_p1X, k_p2, k_p2X, q_sub, k_u1, k_u1X, k_u2, k_u3, k_u4, q_fld, k_w1, k_w1X, k_w2, q_ex, k_ex, k_exX, q_ret, k_rF, k_rT, k_rX, k_rf, q_retN, q_if, k_ifT, k_ifF, k_ifX, q_raise, k_rs, q_aug, k_agA, k_agS, q_pass, q_brk, q_cont, fin_rt, fin_nx, fin_ex, cmpR.eq_def, clsD.eq_def, ixD.eq_def, seqOf.eq_def, bin.eq_def, binI_add, binI_sub, binI_mod, binI_fdiv, binI_mulL, binI_mulR, Bool.and_self, sm_a, sm_b, sm_c, sm_d, sm_e, sm_f, sm_g, sm_h, sm_i, sm_j, sm_k, lg64, lg4096, lg65536, cmp.eq_def, truth.eq_def, biD.eq_def, lenD.eq_def, absD.eq_def, intD.eq_def, minD.eq_def, maxD.eq_def, newL.eq_def, bindT.eq_1, bindT.eq_2, bindT.eq_3, setD.eq_def, isNone.eq_def, List.getElem?_cons_zero, List.getElem?_cons_succ, List.set_cons_zero, List.set_cons_succ, List.length_cons, List.length_nil, at0, at1, at2, at3, if_true, if_false, decide_true, decide_false, and_self, and_true, true_and, Bool.false_eq_true, Nat.reduceAdd, Nat.reduceLT, Nat.reduceLeDiff, Nat.reduceSub, Nat.reduceEqDiff, Int.reduceLT, Int.reduceLE, Int.reduceNeg, Int.reduceToNat, reduceIte, reduceCtorEq, ix3_0, ix3_1, ix3_2, big, Nat.zero_le, ne_eq, not_false_eq_true, not_true_eq_false, isiD.eq_1, isiD.eq_2, isiOne.eq_def, tyBlt.eq_def, Option.map_some, Bool.not_true, Bool.not_false, C_s0, callG.eq_def, sel.eq_1, sel.eq_2, sel.eq_3, sel.eq_4, C_call, List.append_nil, e1']
  obtain ⟨ρ', S', e, a1, a4, a5, a6, a7, a8, a9, a10, M2, kept, rfl, rfl, d2, p2, hk, hkl⟩ := forL_inv (tg := .n 1) (f := fun ρ' M' => sxs (Cj (k + 5)) turnB ρ' M') (fun i ρ S => ∃ a1 a4 a5 a6 a7 a8 a9 a10 M2 kept, ρ = [some (.ref n), a1, some (.lst (ws.map .str)), some (.ref M1.length), a4, a5, a6, a7, a8, a9, a10] ∧ S = M2 ++ [.lst kept] ∧ Drawn n M M2 ∧ PotAt M2 n (10 + 10 * i) ∧ (∀ x ∈ kept, Kp x) ∧ kept.length ≤ i)
    (xs := (List.range 6).map fun i => .int (i : Nat)) (i := 0) (ρ := [some (.ref n), none, some (.lst (ws.map .str)), some (.ref M1.length), none, none, none, none, none, none, none]) (M := M1 ++ [.lst []])
    ⟨none, none, none, none, none, none, none, none, M1, [], rfl, rfl, d1, by simpa using p1, by simp, by simp⟩ fun j x ρ S hj hI => by
      obtain ⟨a1, a4, a5, a6, a7, a8, a9, a10, M2, kept, rfl, rfl, d2, p2, hk, hkl⟩ := hI
      have hj6 : j < 6 := by simpa using (List.getElem?_eq_some_iff.mp hj).1
      have hM2 : M2.length = M1.length := by rw [d2.len, hM1]
      obtain ⟨M3, kept', b4, b5, b6, b7, b8, b9, b10, e, p3, d3, hk', hkl'⟩ := turn0 k n (10 + 10 * (0 + j)) M2 (a1 := some x) (a4 := a4) (a5 := a5) (a6 := a6) (a7 := a7) (a8 := a8) (a9 := a9) (a10 := a10) hw (by omega) (by omega) p2 (by omega) hk (by omega)
      rw [hM2] at e
      exact ⟨_, rfl, _, _, e, some x, b4, b5, b6, b7, b8, b9, b10, M3, kept', rfl, rfl, d2.trans d3, p3.mono (by omega), hk', by omega⟩
  have q1 : evs (Cj (k + 5)) (.cons (.k (.int 6)) .nil) [some (.ref n), none, some (.lst (ws.map .str)), some (.ref M1.length), none, none, none, none, none, none, none] (M1 ++ [.lst []]) = .ok [.int 6] (M1 ++ [.lst []]) := by simp -implicitDefEqProofs only [bind_ok, bind_ex, fl_ok, fl_ex, seq_nx, seq_rt, seq_ex, q_k, q_v, q_g, q_tup, q_lst, q_bin, q_neg, q_evT, q_not, q_and1, q_and, q_or1, q_or, q_cmp, q_cmp2, q_ite, q_ix, q_sl, q_o0, q_o1, q_call, q_mk, q_bi, q_bm, q_attr, q_isi, q_e0, q_e1, q_e2, k_v, k_of, k_tup, k_tupX, k_lst, k_lstX, k_b1, k_b1X, k_b2, k_b2X, k_neg, k_t, k_tX, k_not, k_notX, k_and, k_andX, k_andT, k_andF, k_or, k_orX, k_orT, k_orF, k_c1, k_c1X, k_c2, k_c2X, k_d1, k_d2, k_d3T, k_d3F, k_d4, k_iT, k_iF, k_iX, k_x1, k_x1X, k_x2, k_x2X, k_s1, k_s2, k_s3, k_o, k_a1, k_a1X, k_a2, k_a2X, k_m1, k_m1X, k_m2, k_m2X, k_bi, k_biX, k_bm1, k_bm1X, k_bm2, k_bm3, k_bm3X, k_at, k_atX, k_is, k_isX, k_e1, k_e1X, k_e2, k_e2X, k_f1, k_f2, q_ss0, q_ss1, k_sq, k_sqR, k_sqX, k_sqB, k_sqC, q_set, k_set, k_setX, k_set2, q_par, k_p1, k_p1X, k_p2, k_p2X, q_sub, k_u1, k_u1X, k_u2, k_u3, k_u4, q_fld, k_w1, k_w1X, k_w2, q_ex, k_ex, k_exX, q_ret, k_rF, k_rT, k_rX, k_rf, q_retN, q_if, k_ifT, k_ifF, k_ifX, q_raise, k_rs, q_aug, k_agA, k_agS, q_pass, q_brk, q_cont, fin_rt, fin_nx, fin_ex, cmpR.eq_def, clsD.eq_def, ixD.eq_def, seqOf.eq_def, bin.eq_def, binI_add, binI_sub, binI_mod, binI_fdiv, binI_mulL, binI_mulR, Bool.and_self, sm_a, sm_b, sm_c, sm_d, sm_e, sm_f, sm_g, sm_h, sm_i, sm_j, sm_k, lg64, lg4096, lg65536, cmp.eq_def, truth.eq_def, biD.eq_def, lenD.eq_def, absD.eq_def, intD.eq_def, minD.eq_def, maxD.eq_def, newL.eq_def, bindT.eq_1, bindT.eq_2, bindT.eq_3, setD.eq_def, isNone.eq_def, List.getElem?_cons_zero, List.getElem?_cons_succ, List.set_cons_zero, List.set_cons_succ, List.length_cons, List.length_nil, at0, at1, at2, at3, if_true, if_false, decide_true, decide_false, and_self, and_true, true_and, Bool.false_eq_true, Nat.reduceAdd, Nat.reduceLT, Nat.reduceLeDiff, Nat.reduceSub, Nat.reduceEqDiff, Int.reduceLT, Int.reduceLE, Int.reduceNeg, Int.reduceToNat, reduceIte, reduceCtorEq, ix3_0, ix3_1, ix3_2, big, Nat.zero_le, ne_eq, not_false_eq_true, not_true_eq_false, isiD.eq_1, isiD.eq_2, isiOne.eq_def, tyBlt.eq_def, Option.map_some, Bool.not_true, Bool.not_false]
  have q2 : itemsOf .rng (M1 ++ [.lst []]) [.int 6] = some ((List.range 6).map fun i => .int (i : Nat)) := by
    rw [items_rng (by decide) (by decide)]
    rfl
  have s2 := (for_rng (C := Cj (k + 5)) (tg := .n 1) (b := turnB) q1 q2).trans e
  refine ⟨M2, ?_, d2⟩
  rw [sxs_nx s1, sxs_nx s2]
  simp -implicitDefEqProofs only [bind_ok, bind_ex, fl_ok, fl_ex, seq_nx, seq_rt, seq_ex, q_k, q_v, q_g, q_tup, q_lst, q_bin, q_neg, q_evT, q_not, q_and1, q_and, q_or1, q_or, q_cmp, q_cmp2, q_ite, q_ix, q_sl, q_o0, q_o1, q_call, q_mk, q_bi, q_bm, q_attr, q_isi, q_e0, q_e1, q_e2, k_v, k_of, k_tup, k_tupX, k_lst, k_lstX, k_b1, k_b1X, k_b2, k_b2X, k_neg, k_t, k_tX, k_not, k_notX, k_and, k_andX, k_andT, k_andF, k_or, k_orX, k_orT, k_orF, k_c1, k_c1X, k_c2, k_c2X, k_d1, k_d2, k_d3T, k_d3F, k_d4, k_iT, k_iF, k_iX, k_x1, k_x1X, k_x2, k_x2X, k_s1, k_s2, k_s3, k_o, k_a1, k_a1X, k_a2, k_a2X, k_m1, k_m1X, k_m2, k_m2X, k_bi, k_biX, k_bm1, k_bm1X, k_bm2, k_bm3, k_bm3X, k_at, k_atX, k_is, k_isX, k_e1, k_e1X, k_e2, k_e2X, k_f1, k_f2, q_ss0, q_ss1, k_sq, k_sqR, k_sqX, k_sqB, k_sqC, q_set, k_set, k_setX, k_set2, q_par, k_p1, k_p1X, k_p2, k_p2X, q_sub, k_u1, k_u1X, k_u2, k_u3, k_u4, q_fld, k_w1, k_w1X, k_w2, q_ex, k_ex, k_exX, q_ret, k_rF, k_rT, k_rX, k_rf, q_retN, q_if, k_ifT, k_ifF, k_ifX, q_raise, k_rs, q_aug, k_agA, k_agS, q_pass, q_brk, q_cont, fin_rt, fin_nx, fin_ex, cmpR.eq_def, clsD.eq_def, ixD.eq_def, seqOf.eq_def, bin.eq_def, binI_add, binI_sub, binI_mod, binI_fdiv, binI_mulL, binI_mulR, Bool.and_self, sm_a, sm_b, sm_c, sm_d, sm_e, sm_f, sm_g, sm_h, sm_i, sm_j, sm_k, lg64, lg4096, lg65536, cmp.eq_def, truth.eq_def, biD.eq_def, lenD.eq_def, absD.eq_def, intD.eq_def, minD.eq_def, maxD.eq_def, newL.eq_def, bindT.eq_1, bindT.eq_2, bindT.eq_3, setD.eq_def, isNone.eq_def, List.getElem?_cons_zero, List.getElem?_cons_succ, List.set_cons_zero, List.set_cons_succ, List.length_cons, List.length_nil, at0, at1, at2, at3, if_true, if_false, decide_true, decide_false, and_self, and_true, true_and, Bool.false_eq_true, Nat.reduceAdd, Nat.reduceLT, Nat.reduceLeDiff, Nat.reduceSub, Nat.reduceEqDiff, Int.reduceLT, Int.reduceLE, Int.reduceNeg, Int.reduceToNat, reduceIte, reduceCtorEq, ix3_0, ix3_1, ix3_2, big, Nat.zero_le, ne_eq, not_false_eq_true, not_true_eq_false, isiD.eq_1, isiD.eq_2, isiOne.eq_def, tyBlt.eq_def, Option.map_some, Bool.not_true, Bool.not_false]
  exact gc_ok d2.gc d2.len rfl
theorem plain : ∀ l : List Int, l.length ≤ 63 → ∃ M, run Z.G (40 + 1) 13 [.scr l] [] = .ok (.bl true) M := by
  intro l hl
  rw [run_eq (G := Z.G) (f := 13) (F := ⟨1, 2, b13⟩) rfl ⟨rfl, (by decide : 1 ≤ 2)⟩]
  show ∃ M, fin _ (sxs (Cj 40) b13 [some (.scr l), none] _) = _
  unfold b13
  let m : Nat := max 1 (min 8 l.length)
  obtain ⟨ρ', S', e, a1, rfl⟩ := forL_inv (tg := .n 1) (f := fun ρ' M' => sxs (Cj 40) (.cons (.ite (.not (.call 12 7 (.cons (.call 3 0 (.cons (.v 0) (.cons (.v 1) .nil)) .nil) .nil) .nil)) (.cons (.ret false (.k (.bl false))) .nil) .nil) .nil) ρ' M') (fun _ ρ _ => ∃ a1, ρ = [some (.scr l), a1])
    (xs := (List.range m).map fun i => .int (i : Nat)) (i := 0) (ρ := [some (.scr l), none]) (M := []) ⟨none, rfl⟩ fun j x ρ S hj hI => by
      obtain ⟨a1, rfl⟩ := hI
      have hj8 : j < m := by simpa using (List.getElem?_eq_some_iff.mp hj).1
      have hx : x = .int (j : Nat) := by
        rw [List.getElem?_map, List.getElem?_range hj8] at hj
        exact (Option.some.inj hj).symm
      subst hx
      obtain ⟨a, b, e1, ha, hb, hb2⟩ := bag 39 S l j (by omega)
      have pt : PotAt (S ++ [.lst [.int a, .int b, .int 0]]) S.length 0 := ⟨a, b, 0, g1a, ha, hb, hb2, by decide, by decide⟩
      obtain ⟨M', e2, _⟩ := right_ok 34 S.length _ pt
      refine ⟨_, rfl, [some (.scr l), some (.int (j : Nat))], M', ?_, _, rfl⟩
      show sxs (Cj 40) _ [some (.scr l), some (.int (j : Nat))] S = _
      simp -implicitDefEqProofs only [bind_ok, bind_ex, fl_ok, fl_ex, seq_nx, seq_rt, seq_ex, q_k, q_v, q_g, q_tup, q_lst, q_bin, q_neg, q_evT, q_not, q_and1, q_and, q_or1, q_or, q_cmp, q_cmp2, q_ite, q_ix, q_sl, q_o0, q_o1, q_call, q_mk, q_bi, q_bm, q_attr, q_isi, q_e0, q_e1, q_e2, k_v, k_of, k_tup, k_tupX, k_lst, k_lstX, k_b1, k_b1X, k_b2, k_b2X, k_neg, k_t, k_tX, k_not, k_notX, k_and, k_andX, k_andT, k_andF, k_or, k_orX, k_orT, k_orF, k_c1, k_c1X, k_c2, k_c2X, k_d1, k_d2, k_d3T, k_d3F, k_d4, k_iT, k_iF, k_iX, k_x1, k_x1X, k_x2, k_x2X, k_s1, k_s2, k_s3, k_o, k_a1, k_a1X, k_a2, k_a2X, k_m1, k_m1X, k_m2, k_m2X, k_bi, k_biX, k_bm1, k_bm1X, k_bm2, k_bm3, k_bm3X, k_at, k_atX, k_is, k_isX, k_e1, k_e1X, k_e2, k_e2X, k_f1, k_f2, q_ss0, q_ss1, k_sq, k_sqR, k_sqX, k_sqB, k_sqC, q_set, k_set, k_setX, k_set2, q_par, k_p1, k_p1X, k_p2, k_p2X, q_sub, k_u1, k_u1X, k_u2, k_u3, k_u4, q_fld, k_w1, k_w1X, k_w2, q_ex, k_ex, k_exX, q_ret, k_rF, k_rT, k_rX, k_rf, q_retN, q_if, k_ifT, k_ifF, k_ifX, q_raise, k_rs, q_aug, k_agA, k_agS, q_pass, q_brk, q_cont, fin_rt, fin_nx, fin_ex, cmpR.eq_def, clsD.eq_def, ixD.eq_def, seqOf.eq_def, bin.eq_def, binI_add, binI_sub, binI_mod, binI_fdiv, binI_mulL, binI_mulR, Bool.and_self, sm_a, sm_b, sm_c, sm_d, sm_e, sm_f, sm_g, sm_h, sm_i, sm_j, sm_k, lg64, lg4096, lg65536, cmp.eq_def, truth.eq_def, biD.eq_def, lenD.eq_def, absD.eq_def, intD.eq_def, minD.eq_def, maxD.eq_def, newL.eq_def, bindT.eq_1, bindT.eq_2, bindT.eq_3, setD.eq_def, isNone.eq_def, List.getElem?_cons_zero, List.getElem?_cons_succ, List.set_cons_zero, List.set_cons_succ, List.length_cons, List.length_nil, at0, at1, at2, at3, if_true, if_false, decide_true, decide_false, and_self, and_true, true_and, Bool.false_eq_true, Nat.reduceAdd, Nat.reduceLT, Nat.reduceLeDiff, Nat.reduceSub, Nat.reduceEqDiff, Int.reduceLT, Int.reduceLE, Int.reduceNeg, Int.reduceToNat, reduceIte, reduceCtorEq, ix3_0, ix3_1, ix3_2, big, Nat.zero_le, ne_eq, not_false_eq_true, not_true_eq_false, isiD.eq_1, isiD.eq_2, isiOne.eq_def, tyBlt.eq_def, Option.map_some, Bool.not_true, Bool.not_false, C_s0, C_s7, callG.eq_def, sel.eq_1, sel.eq_2, sel.eq_3, sel.eq_4, C_call, List.append_nil, e1, e2]
  have hm : (if (if (l.length : Int) < 8 then (l.length : Int) else 8) > 1 then (if (l.length : Int) < 8 then (l.length : Int) else 8) else 1) = (m : Nat) := by
    show _ = ((max 1 (min 8 l.length) : Nat) : Int)
    repeat' split
    all_goals omega
  have q1 : evs (Cj 40) (.cons (.bi .max (.cons (.k (.int 1)) (.cons (.bi .min (.cons (.k (.int 8)) (.cons (.bi .len (.cons (.v 0) .nil)) .nil))) .nil))) .nil) [some (.scr l), none] [] = .ok [.int (m : Nat)] [] := by
    simp -implicitDefEqProofs only [bind_ok, bind_ex, fl_ok, fl_ex, seq_nx, seq_rt, seq_ex, q_k, q_v, q_g, q_tup, q_lst, q_bin, q_neg, q_evT, q_not, q_and1, q_and, q_or1, q_or, q_cmp, q_cmp2, q_ite, q_ix, q_sl, q_o0, q_o1, q_call, q_mk, q_bi, q_bm, q_attr, q_isi, q_e0, q_e1, q_e2, k_v, k_of, k_tup, k_tupX, k_lst, k_lstX, k_b1, k_b1X, k_b2, k_b2X, k_neg, k_t, k_tX, k_not, k_notX, k_and, k_andX, k_andT, k_andF, k_or, k_orX, k_orT, k_orF, k_c1, k_c1X, k_c2, k_c2X, k_d1, k_d2, k_d3T, k_d3F, k_d4, k_iT, k_iF, k_iX, k_x1, k_x1X, k_x2, k_x2X, k_s1, k_s2, k_s3, k_o, k_a1, k_a1X, k_a2, k_a2X, k_m1, k_m1X, k_m2, k_m2X, k_bi, k_biX, k_bm1, k_bm1X, k_bm2, k_bm3, k_bm3X, k_at, k_atX, k_is, k_isX, k_e1, k_e1X, k_e2, k_e2X, k_f1, k_f2, q_ss0, q_ss1, k_sq, k_sqR, k_sqX, k_sqB, k_sqC, q_set, k_set, k_setX, k_set2, q_par, k_p1, k_p1X, k_p2, k_p2X, q_sub, k_u1, k_u1X, k_u2, k_u3, k_u4, q_fld, k_w1, k_w1X, k_w2, q_ex, k_ex, k_exX, q_ret, k_rF, k_rT, k_rX, k_rf, q_retN, q_if, k_ifT, k_ifF, k_ifX, q_raise, k_rs, q_aug, k_agA, k_agS, q_pass, q_brk, q_cont, fin_rt, fin_nx, fin_ex, cmpR.eq_def, clsD.eq_def, ixD.eq_def, seqOf.eq_def, bin.eq_def, binI_add, binI_sub, binI_mod, binI_fdiv, binI_mulL, binI_mulR, Bool.and_self, sm_a, sm_b, sm_c, sm_d, sm_e, sm_f, sm_g, sm_h, sm_i, sm_j, sm_k, lg64, lg4096, lg65536, cmp.eq_def, truth.eq_def, biD.eq_def, lenD.eq_def, absD.eq_def, intD.eq_def, minD.eq_def, maxD.eq_def, newL.eq_def, bindT.eq_1, bindT.eq_2, bindT.eq_3, setD.eq_def, isNone.eq_def, List.getElem?_cons_zero, List.getElem?_cons_succ, List.set_cons_zero, List.set_cons_succ, List.length_cons, List.length_nil, at0, at1, at2, at3, if_true, if_false, decide_true, decide_false, and_self, and_true, true_and, Bool.false_eq_true, Nat.reduceAdd, Nat.reduceLT, Nat.reduceLeDiff, Nat.reduceSub, Nat.reduceEqDiff, Int.reduceLT, Int.reduceLE, Int.reduceNeg, Int.reduceToNat, reduceIte, reduceCtorEq, ix3_0, ix3_1, ix3_2, big, Nat.zero_le, ne_eq, not_false_eq_true, not_true_eq_false, isiD.eq_1, isiD.eq_2, isiOne.eq_def, tyBlt.eq_def, Option.map_some, Bool.not_true, Bool.not_false, List.length_map]
    rw [hm]
  have q2 : itemsOf .rng ([] : Store) [.int (m : Nat)] = some ((List.range m).map fun i => .int (i : Nat)) := by rw [items_rng (by omega) (by omega), Int.toNat_natCast]
  have s1 := (for_rng (C := Cj 40) (tg := .n 1) (b := .cons (.ite (.not (.call 12 7 (.cons (.call 3 0 (.cons (.v 0) (.cons (.v 1) .nil)) .nil) .nil) .nil)) (.cons (.ret false (.k (.bl false))) .nil) .nil) .nil) q1 q2).trans e
  rw [sxs_nx s1]
  simp -implicitDefEqProofs only [bind_ok, bind_ex, fl_ok, fl_ex, seq_nx, seq_rt, seq_ex, q_k, q_v, q_g, q_tup, q_lst, q_bin, q_neg, q_evT, q_not, q_and1, q_and, q_or1, q_or, q_cmp, q_cmp2, q_ite, q_ix, q_sl, q_o0, q_o1, q_call, q_mk, q_bi, q_bm, q_attr, q_isi, q_e0, q_e1, q_e2, k_v, k_of, k_tup, k_tupX, k_lst, k_lstX, k_b1, k_b1X, k_b2, k_b2X, k_neg, k_t, k_tX, k_not, k_notX, k_and, k_andX, k_andT, k_andF, k_or, k_orX, k_orT, k_orF, k_c1, k_c1X, k_c2, k_c2X, k_d1, k_d2, k_d3T, k_d3F, k_d4, k_iT, k_iF, k_iX, k_x1, k_x1X, k_x2, k_x2X, k_s1, k_s2, k_s3, k_o, k_a1, k_a1X, k_a2, k_a2X, k_m1, k_m1X, k_m2, k_m2X, k_bi, k_biX, k_bm1, k_bm1X, k_bm2, k_bm3, k_bm3X, k_at, k_atX, k_is, k_isX, k_e1, k_e1X, k_e2, k_e2X, k_f1, k_f2, q_ss0, q_ss1, k_sq, k_sqR, k_sqX, k_sqB, k_sqC, q_set, k_set, k_setX, k_set2, q_par, k_p1, k_p1X, k_p2, k_p2X, q_sub, k_u1, k_u1X, k_u2, k_u3, k_u4, q_fld, k_w1, k_w1X, k_w2, q_ex, k_ex, k_exX, q_ret, k_rF, k_rT, k_rX, k_rf, q_retN, q_if, k_ifT, k_ifF, k_ifX, q_raise, k_rs, q_aug, k_agA, k_agS, q_pass, q_brk, q_cont, fin_rt, fin_nx, fin_ex, cmpR.eq_def, clsD.eq_def, ixD.eq_def, seqOf.eq_def, bin.eq_def, binI_add, binI_sub, binI_mod, binI_fdiv, binI_mulL, binI_mulR, Bool.and_self, sm_a, sm_b, sm_c, sm_d, sm_e, sm_f, sm_g, sm_h, sm_i, sm_j, sm_k, lg64, lg4096, lg65536, cmp.eq_def, truth.eq_def, biD.eq_def, lenD.eq_def, absD.eq_def, intD.eq_def, minD.eq_def, maxD.eq_def, newL.eq_def, bindT.eq_1, bindT.eq_2, bindT.eq_3, setD.eq_def, isNone.eq_def, List.getElem?_cons_zero, List.getElem?_cons_succ, List.set_cons_zero, List.set_cons_succ, List.length_cons, List.length_nil, at0, at1, at2, at3, if_true, if_false, decide_true, decide_false, and_self, and_true, true_and, Bool.false_eq_true, Nat.reduceAdd, Nat.reduceLT, Nat.reduceLeDiff, Nat.reduceSub, Nat.reduceEqDiff, Int.reduceLT, Int.reduceLE, Int.reduceNeg, Int.reduceToNat, reduceIte, reduceCtorEq, ix3_0, ix3_1, ix3_2, big, Nat.zero_le, ne_eq, not_false_eq_true, not_true_eq_false, isiD.eq_1, isiD.eq_2, isiOne.eq_def, tyBlt.eq_def, Option.map_some, Bool.not_true, Bool.not_false]
  exact ⟨_, gc_ok (M' := []) (T := S') rfl rfl rfl⟩
end Law
open PySem PySem.W PySem.Calls PyProof.Rows
set_option maxRecDepth 100000 in
set_option maxHeartbeats 0 in
theorem PySem.Challenge.cw_carriedfields_k93_callers_made_holds : PySem.Challenge.rw_carriedfields_k93_callers_made.Holds := by
  w_on; o_law
  refine HandSHeadRun.head_any (r := OpenLaw.row PySem.Challenge.rw_carriedfields_k93_callers_made) (q := view (OpenLaw.row PySem.Challenge.rw_carriedfields_k93_callers_made).prog [24]) (H := Law.hk) (ob := Law.ob) (M := 3000) (loose := Law.loose) (d := HandSHeadRun.topDef (OpenLaw.row PySem.Challenge.rw_carriedfields_k93_callers_made).prog 24) (kwd := []) Law.ob_eq
    (by kernel_rfl) (fun s => by kernel_rfl) Law.run_ (by kernel_rfl) (by kernel_rfl) (by kernel_rfl) (by rfl) (by first | assumption | decide +kernel) (by decide +kernel) ⟨rfl, rfl, rfl, rfl, rfl, by decide +kernel⟩ ?hw ?hc
  case hw => w_witness2
  case hc =>
    refine L2.walk_ofE (l := PySem.Challenge.rw_carriedfields_k93_callers_made) (n := 63) (k := 2 * 40 + 4) (x := "_law_script") (CX := L2.CX0) rfl (by decide) (by kernel_rfl) ⟨rfl, by decide, by decide⟩ ?F (fun _ _ _ _ z => z)
    intro w mg fa h Y G hmg0
    obtain ⟨K, KX, c⟩ := Y
    have hmg : mg ("law" : PySem.Str) = some (.ref fa) := by
      have e : (HandSHeadRun.topDef (OpenLaw.row PySem.Challenge.rw_carriedfields_k93_callers_made).prog 24).name = ("law" : PySem.Str) := by kernel_rfl
      rw [← e]
      exact hmg0
    obtain ⟨fd, hb, hF⟩ := Law.facts (w := w) (j := 40) Law.plain KX G hmg c
    exact ⟨K, fd, Dv.spL K 63, KX, hb, fun H a ns hl _ hS => ⟨a, ns, rfl, hl, hS, fun _ => rfl⟩, hF⟩

