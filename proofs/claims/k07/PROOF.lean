import PyProof.Rows.All
import Wide.All
import OpenK.AllK
import Wide.FinOn
import HandS.ForMost
import HandS.Deep
import HandS.TupAny
import HandS.TupMul
import HandS.Exc
import HandS.WordsExc
import HandS.Style
import HandS.Dict
import HandS.More
import PyProof.ReprRoads
import HandS.WordsDict
import HandS.Text
import HandS.SetBool
import HandS.Star
import HandS.Ends
import PySem.Challenge.RW_anycaller_k07_parts_sizes_names
set_option Elab.async false
set_option linter.all false
set_option maxRecDepth 100000
set_option maxHeartbeats 0
/-! Fw1: own values D, store, own syntax E, S and their evaluator -/
namespace Fw
open PySem
inductive D where
  | non | bl (b : Bool) | int (i : Int) | str (s : Str) | tup (xs : List D) | fzl (xs : List D) | loc (l : Nat) | glob (x : Str) | ty (n : String)
  deriving Inhabited
inductive Cell where
  | lst (xs : List D)
  | dct (kvs : List (L2.Key × D))
  | set (xs : List D)
  | ins (c : Str) (fs : List (Str × D))
  deriving Inhabited
abbrev Store := List Cell
abbrev Env := List (Option D)
inductive R (α : Type) where
  | ok (a : α) (S : Store)
  | err (e : D) (S : Store)
  | bad
abbrev M (α : Type) := Store → R α
mutual
def D.dec : (a b : D) → Decidable (a = b)
  | .non, .non => .isTrue rfl
  | .bl a, .bl b => if h : a = b then .isTrue (by rw [h]) else .isFalse (by intro q; cases q; exact h rfl)
  | .int a, .int b => if h : a = b then .isTrue (by rw [h]) else .isFalse (by intro q; cases q; exact h rfl)
  | .str a, .str b => if h : a = b then .isTrue (by rw [h]) else .isFalse (by intro q; cases q; exact h rfl)
  | .tup a, .tup b => match D.decs a b with | .isTrue h => .isTrue (by rw [h]) | .isFalse h => .isFalse (by intro q; cases q; exact h rfl)
  | .fzl a, .fzl b => match D.decs a b with | .isTrue h => .isTrue (by rw [h]) | .isFalse h => .isFalse (by intro q; cases q; exact h rfl)
  | .loc a, .loc b => if h : a = b then .isTrue (by rw [h]) else .isFalse (by intro q; cases q; exact h rfl)
  | .glob a, .glob b => if h : a = b then .isTrue (by rw [h]) else .isFalse (by intro q; cases q; exact h rfl)
  | .ty a, .ty b => if h : a = b then .isTrue (by rw [h]) else .isFalse (by intro q; cases q; exact h rfl)
  | .non, .bl _ | .non, .int _ | .non, .str _ | .non, .tup _ | .non, .fzl _ | .non, .loc _ | .non, .glob _ | .non, .ty _ => .isFalse nofun
  | .bl _, .non | .bl _, .int _ | .bl _, .str _ | .bl _, .tup _ | .bl _, .fzl _ | .bl _, .loc _ | .bl _, .glob _ | .bl _, .ty _ => .isFalse nofun
  | .int _, .non | .int _, .bl _ | .int _, .str _ | .int _, .tup _ | .int _, .fzl _ | .int _, .loc _ | .int _, .glob _ | .int _, .ty _ => .isFalse nofun
  | .str _, .non | .str _, .bl _ | .str _, .int _ | .str _, .tup _ | .str _, .fzl _ | .str _, .loc _ | .str _, .glob _ | .str _, .ty _ => .isFalse nofun
  | .tup _, .non | .tup _, .bl _ | .tup _, .int _ | .tup _, .str _ | .tup _, .fzl _ | .tup _, .loc _ | .tup _, .glob _ | .tup _, .ty _ => .isFalse nofun
  | .fzl _, .non | .fzl _, .bl _ | .fzl _, .int _ | .fzl _, .str _ | .fzl _, .tup _ | .fzl _, .loc _ | .fzl _, .glob _ | .fzl _, .ty _ => .isFalse nofun
  | .loc _, .non | .loc _, .bl _ | .loc _, .int _ | .loc _, .str _ | .loc _, .tup _ | .loc _, .fzl _ | .loc _, .glob _ | .loc _, .ty _ => .isFalse nofun
  | .glob _, .non | .glob _, .bl _ | .glob _, .int _ | .glob _, .str _ | .glob _, .tup _ | .glob _, .fzl _ | .glob _, .loc _ | .glob _, .ty _ => .isFalse nofun
  | .ty _, .non | .ty _, .bl _ | .ty _, .int _ | .ty _, .str _ | .ty _, .tup _ | .ty _, .fzl _ | .ty _, .loc _ | .ty _, .glob _ => .isFalse nofun
def D.decs : (a b : List D) → Decidable (a = b)
  | [], [] => .isTrue rfl
  | [], _ :: _ => .isFalse nofun
  | _ :: _, [] => .isFalse nofun
  | x :: xs, y :: ys => match D.dec x y with
    | .isTrue h => (match D.decs xs ys with | .isTrue h' => .isTrue (by rw [h, h']) | .isFalse h' => .isFalse (by intro q; cases q; exact h' rfl))
    | .isFalse h => .isFalse (by intro q; cases q; exact h rfl)
end
instance : DecidableEq D := D.dec
instance : DecidableEq Cell := fun a b => match a, b with
  | .lst x, .lst y => if h : x = y then .isTrue (by rw [h]) else .isFalse (by intro q; cases q; exact h rfl)
  | .dct x, .dct y => if h : x = y then .isTrue (by rw [h]) else .isFalse (by intro q; cases q; exact h rfl)
  | .set x, .set y => if h : x = y then .isTrue (by rw [h]) else .isFalse (by intro q; cases q; exact h rfl)
  | .ins c x, .ins d y => if h : c = d ∧ x = y then .isTrue (by rw [h.1, h.2]) else .isFalse (by intro q; cases q; exact h ⟨rfl, rfl⟩)
  | .lst _, .dct _ | .lst _, .set _ | .lst _, .ins _ _ => .isFalse nofun
  | .dct _, .lst _ | .dct _, .set _ | .dct _, .ins _ _ => .isFalse nofun
  | .set _, .lst _ | .set _, .dct _ | .set _, .ins _ _ => .isFalse nofun
  | .ins _ _, .lst _ | .ins _ _, .dct _ | .ins _ _, .set _ => .isFalse nofun
namespace M
def pure (a : α) : M α := fun S => .ok a S
def bind (m : M α) (f : α → M β) : M β := fun S => match m S with
  | .ok a S' => f a S'
  | .err e S' => .err e S'
  | .bad => .bad
instance : Monad M where
  pure := M.pure
  bind := M.bind
def bad : M α := fun _ => .bad
def alloc (c : Cell) : M D := fun S => .ok (.loc S.length) (S ++ [c])
def get (l : Nat) : M Cell := fun S => match S[l]? with
  | some c => .ok c S
  | none => .bad
def set (l : Nat) (c : Cell) : M Unit := fun S => .ok () (S.set l c)
end M
/-! ### data, deep -/
def optAll : List (Option α) → Option (List α)
  | [] => some []
  | none :: _ => none
  | some a :: r => match optAll r with
    | some l => some (a :: l)
    | none => none
def keyD : L2.Key → D
  | .inl i => .int i
  | .inr s => .str s
def keyP : L2.Key → PyData
  | .inl i => .int i
  | .inr s => .str s
def deep (S : Store) : Nat → D → Option PyData
  | _, .non => some .none
  | _, .bl b => some (.bool b)
  | _, .int i => some (.int i)
  | _, .str s => some (.str s)
  | n + 1, .tup xs => (optAll (xs.map (deep S n))).map .tuple
  | n + 1, .loc l => match S[l]? with
    | some (.lst xs) => (optAll (xs.map (deep S n))).map .list
    | some (.dct kvs) => (optAll (kvs.map fun p => (deep S n p.2).map fun d => (keyP p.1, d))).map .dict
    | _ => none
  | _, _ => none
/-- how deep data may be nested -/
def DEEP : Nat := 60
/-! ### own syntax -/
inductive Bi where
  | len | int | list | tuple | repr | sorted | sum | max | min | all | any | isinstance | set | dict | str | bool | abs
  deriving DecidableEq
inductive Mt where
  | append | extend | pop | get | items | values | keys | join
  deriving DecidableEq
mutual
inductive E where
  | var (i : Nat)
  | glb (k : Nat)
  | non | bl (b : Bool) | int (i : Int) | str (s : Str)
  | bin (o : Operator) (a b : E)
  | neg (a : E)
  | cmp (o : CmpOp) (a b : E)
  | chn (o o' : CmpOp) (a b c : E)
  | and (xs : L) | or (xs : L) | not (a : E)
  | ife (t a b : E)
  | tup (xs : L) | lst (xs : L) | dct (ps : PL)
  | idx (a i : E) | slc (a : E) (lo hi : O) | rev (a : E)
  | call (f : Nat) (xs : L) | callk (f : Nat) (xs ks : L) (p : Nat)
  | bi (b : Bi) (xs : L)
  | mth (m : Mt) (o : E) (xs : L)
  | lcp (elt : E) (g : G) (it : I) (c : O) (own : List Nat)
  | ssc (elt : E) (g : G) (it : I) (c : O) (own : List Nat)
inductive L where
  | nil | cons (e : E) (r : L) | star (e : E) (r : L)
inductive PL where
  | nil | cons (k v : E) (r : PL)
inductive O where
  | none | some (e : E)
inductive G where
  | name (i : Nat) | tup (gs : GL) | sub (o i : E)
inductive GL where
  | nil | cons (g : G) (r : GL)
inductive I where
  | val (e : E) | rng1 (a : E) | rng2 (a b : E) | zip (a b : E)
end
def L.len : L → Nat
  | .nil => 0
  | .cons _ r => r.len + 1
  | .star _ r => r.len + 1
def GL.len : GL → Nat
  | .nil => 0
  | .cons _ r => r.len + 1
mutual
inductive Sm where
  | pass | brk | cnt | ret (e : O) | exp (e : E) | asg (g : G) (e : E)
  | par (i j : Nat) (a b : E)
  | par3 (i j k : Nat) (a b c : E)
  | aug (i : Nat) (o : Operator) (e : E)
  | ite (t : E) (a b : Sb)
  | for (g : G) (it : I) (b : Sb)
  | whl (t : E) (b : Sb)
inductive Sb where
  | nil | cons (s : Sm) (r : Sb)
end
/-! ### operations by values -/
def b2i (b : Bool) : Int := if b then 1 else 0
def lineOk (n : Nat) : Bool := decide (n ≤ sizeLine)
def mulOk (i j : Int) : Bool := decide (-(2 ^ 64) < i ∧ i < 2 ^ 64) || decide (-(2 ^ 64) < j ∧ j < 2 ^ 64)
def addD (a b : D) : M D := fun S => match a, b with
  | .int i, .int j => .ok (.int (i + j)) S
  | .str s, .str t => if s.length + t.length ≤ sizeLine then .ok (.str (s ++ t)) S else .bad
  | .tup xs, .tup ys => if xs.length + ys.length ≤ sizeLine then .ok (.tup (xs ++ ys)) S else .bad
  | .loc l, .loc k => match S[l]?, S[k]? with
    | some (.lst xs), some (.lst ys) => if xs.length + ys.length ≤ sizeLine then M.alloc (.lst (xs ++ ys)) S else .bad
    | _, _ => .bad
  | _, _ => .bad
def subD (a b : D) : M D := fun S => match a, b with
  | .int i, .int j => .ok (.int (i - j)) S
  | _, _ => .bad
def mulD (a b : D) : M D := fun S => match a, b with
  | .int i, .int j => if mulOk i j then .ok (.int (i * j)) S else .bad
  | .tup xs, .int k => if 1 ≤ k ∧ k ≤ 1000 ∧ xs.length ≤ 1000 ∧ xs ≠ [] then .ok (.tup (List.replicate k.toNat xs).flatten) S else .bad
  | _, _ => .bad
def fdivD (a b : D) : M D := fun S => match a, b with
  | .int i, .int j => if j ≠ 0 ∧ j.natAbs < 1073741824 then .ok (.int (i.fdiv j)) S else .bad
  | _, _ => .bad
def modD (a b : D) : M D := fun S => match a, b with
  | .int i, .int j => if j ≠ 0 then .ok (.int (i.fmod j)) S else .bad
  | _, _ => .bad
def powD (a b : D) : M D := fun S => match a, b with
  | .int i, .int j => if 0 ≤ j ∧ j ≤ 1000000 ∧ i.natAbs < 2 ^ 64 then .ok (.int (i ^ j.toNat)) S else .bad
  | _, _ => .bad
def binop (o : Operator) (a b : D) : M D := match o with
  | .Add => addD a b
  | .Sub => subD a b
  | .Mult => mulD a b
  | .FloorDiv => fdivD a b
  | .Mod => modD a b
  | .Pow => powD a b
  | _ => M.bad
/-- data of shape -/
def dataOf (S : Store) (d : D) : Option PyData := match deep S DEEP d with
  | some p => if SeqAt.shaped p then some p else none
  | none => none
def seqOf (S : Store) : D → Option (List D)
  | .tup xs => some xs
  | .fzl xs => some xs
  | .loc l => match S[l]? with
    | some (.lst xs) => some xs
    | _ => none
  | _ => none
def keyOf : D → Option L2.Key
  | .int i => some (.inl i)
  | .str s => some (.inr s)
  | _ => none
def isIn (a b : D) (S : Store) : Option Bool := match b with
  | .str t => match a with
    | .str s => some (!(Builtin.Str.occurrences t s 0 t.length 1).isEmpty)
    | _ => none
  | .loc l => match S[l]? with
    | some (.lst _) => match dataOf S a, dataOf S b with
      | some p, some (.list qs) => some (qs.any fun z => PyData.eqv z p)
      | _, _ => none
    | some (.dct kvs) => match keyOf a with
      | some k => some (kvs.any fun p => decide (p.1 = k))
      | none => none
    | _ => none
  | .tup _ => match dataOf S a, dataOf S b with
    | some p, some (.tuple qs) => some (qs.any fun z => PyData.eqv z p)
    | _, _ => none
  | _ => none
def eqD (a b : D) (S : Store) : Option Bool := match dataOf S a, dataOf S b with
  | some p, some q => some (PyData.eqv p q)
  | _, _ => none
def ordI (f : Int → Int → Bool) (a b : D) (S : Store) : Option Bool := match a, b with
  | .int i, .int j => some (f i j)
  | _, _ => none
def ltD (a b : D) (S : Store) : Option Bool := match a, b with
  | .int i, .int j => some (decide (i < j))
  | .str s, .str t => some (decide (s.cps.toList < t.cps.toList))
  | _, _ => none
def isNon (a b : D) : Option Bool := match b with
  | .non => match a with
    | .non => some true
    | .glob _ => none
    | _ => some false
  | _ => none
def cmpop (o : CmpOp) (a b : D) (S : Store) : Option Bool := match o with
  | .Eq => eqD a b S
  | .NotEq => (eqD a b S).map (!·)
  | .Lt => ltD a b S
  | .LtE => ordI (fun i j => decide (i ≤ j)) a b S
  | .Gt => ordI (fun i j => decide (j < i)) a b S
  | .GtE => ordI (fun i j => decide (j ≤ i)) a b S
  | .Is => isNon a b
  | .IsNot => (isNon a b).map (!·)
  | .In => isIn a b S
  | .NotIn => (isIn a b S).map (!·)
def ofOpt (f : Store → Option Bool) : M Bool := fun S => match f S with
  | some b => .ok b S
  | none => .bad
def truth (d : D) : M Bool := fun S => match d with
  | .bl b => .ok b S
  | .int i => .ok (i != 0) S
  | .non => .ok false S
  | .str s => if s.length ≤ sizeLine then .ok ((s.length : Int) != 0) S else .bad
  | .tup xs => .ok (!xs.isEmpty) S
  | .loc l => match S[l]? with
    | some (.lst xs) => .ok (!xs.isEmpty) S
    | some (.dct kvs) => .ok (!kvs.isEmpty) S
    | _ => .bad
  | _ => .bad
def isBl (d : D) : M Bool := fun S => match d with
  | .bl b => .ok b S
  | _ => .bad
def valD (kvs : List (L2.Key × D)) (k : L2.Key) : Option D := (kvs.find? fun kv => decide (kv.1 = k)).map (·.2)
def getix (a i : D) : M D := fun S => match a, i with
  | .str s, .int j => if s.length ≤ sizeLine then match L2.atI s.cps.toList j with
      | some c => .ok (.str ⟨#[c]⟩) S
      | none => .bad else .bad
  | .tup xs, .int j => match L2.atI xs j with
    | some d => .ok d S
    | none => .bad
  | .fzl xs, .int j => match L2.atI xs j with
    | some d => .ok d S
    | none => .bad
  | .loc l, _ => match S[l]? with
    | some (.lst xs) => match i with
      | .int j => match L2.atI xs j with
        | some d => .ok d S
        | none => .bad
      | _ => .bad
    | some (.dct kvs) => match keyOf i with
      | some k => match valD kvs k with
        | some d => .ok d S
        | none => .bad
      | none => .bad
    | _ => .bad
  | _, _ => .bad
def putKey (k : L2.Key) (v : D) (kvs : List (L2.Key × D)) : List (L2.Key × D) :=
  if (kvs.any fun kv => decide (kv.1 = k)) = true then kvs.map (fun kv => if kv.1 = k then (kv.1, v) else kv) else kvs ++ [(k, v)]
def setix (o i v : D) : M Unit := fun S => match o with
  | .loc l => match S[l]? with
    | some (.lst xs) => match i with
      | .int j => match L2.ixN xs.length j with
        | some n => .ok () (S.set l (.lst (xs.set n v)))
        | none => .bad
      | _ => .bad
    | some (.dct kvs) => match keyOf i with
      | some k => if kvs.length < sizeLine then .ok () (S.set l (.dct (putKey k v kvs))) else .bad
      | none => .bad
    | _ => .bad
  | _ => .bad
def cutD (xs : List D) (lo hi : Option Int) : List D := (xs.drop (HT.sIx xs.length 0 lo)).take (HT.sIx xs.length xs.length hi - HT.sIx xs.length 0 lo)
def slice (a : D) (lo hi : Option Int) : M D := fun S => match a with
  | .tup xs => .ok (.tup (cutD xs lo hi)) S
  | .fzl xs => M.alloc (.lst (cutD xs lo hi)) S
  | .loc l => match S[l]? with
    | some (.lst xs) => M.alloc (.lst (cutD xs lo hi)) S
    | _ => .bad
  | _ => .bad
def reversed (a : D) : M D := fun S => match a with
  | .loc l => match S[l]? with
    | some (.lst xs) => M.alloc (.lst xs.reverse) S
    | _ => .bad
  | _ => .bad
end Fw
/-! Fw2: the evaluator -/
namespace Fw
open PySem
inductive Fl where
  | nx | brk | cnt | ret (d : D)
inductive RS where
  | ok (f : Fl) (η : Env) (S : Store)
  | err (e : D) (η : Env) (S : Store)
  | bad
structure Fn where
  call : Nat → List D → M D
  consts : Nat → Option D
  perm : Nat → List D → List D
  fuel : Nat
abbrev Guard := List (Nat × List D)
def gOk (gs : Guard) (S : Store) : Bool := gs.all fun p => decide (S[p.1]? = some (.lst p.2))
def many (xs : List D) : M (List D) := fun S => if xs.length ≤ sizeLine then .ok xs S else .bad
def rngD (lo : Int) (n : Nat) : List D := (List.range n).map fun i => D.int (lo + Int.ofNat i)
def bd62 (i : Int) : Bool := decide (-(2 ^ 62) ≤ i ∧ i < 2 ^ 62)
def walkOf (d : D) : M (List D × Guard) := fun S => match d with
  | .tup xs => .ok (xs, []) S
  | .fzl xs => .ok (xs, []) S
  | .loc l => match S[l]? with
    | some (.lst xs) => .ok (xs, [(l, xs)]) S
    | _ => .bad
  | _ => .bad
def comp (gs : Guard) (g : D → Env → M Env) (c : Env → M Bool) (elt : Env → M D) (η : Env) : List D → M (List D)
  | [] => fun S => if gOk gs S then .ok [] S else .bad
  | x :: xs => fun S => if gOk gs S then
      M.bind (g x η) (fun η' => M.bind (c η') fun b => if b then M.bind (elt η') fun y => M.bind (comp gs g c elt η xs) fun r => M.pure (y :: r) else comp gs g c elt η xs) S
    else .bad
def wipeE (η : Env) : List Nat → Env
  | [] => η
  | i :: is => (wipeE η is).set i none
def noErr (r : R α) : R α := match r with
  | .ok a S => .ok a S
  | _ => .bad
def forLoop (gs : Guard) (step : D → Env → Store → RS) : List D → Env → Store → RS
  | [], η, S => if gOk gs S then .ok .nx η S else .bad
  | x :: xs, η, S => if gOk gs S then match step x η S with
      | .ok .nx η' S' => forLoop gs step xs η' S'
      | .ok .cnt η' S' => forLoop gs step xs η' S'
      | .ok .brk η' S' => .ok .nx η' S'
      | .ok (.ret d) η' S' => .ok (.ret d) η' S'
      | .err e η' S' => .err e η' S'
      | .bad => .bad
    else .bad
def whlLoop (t : Env → M Bool) (step : Env → Store → RS) : Nat → Env → Store → RS
  | 0, _, _ => .bad
  | n + 1, η, S => match t η S with
    | .ok true S1 => (match step η S1 with
      | .ok .nx η' S' => whlLoop t step n η' S'
      | .ok .cnt η' S' => whlLoop t step n η' S'
      | .ok .brk η' S' => .ok .nx η' S'
      | .ok (.ret d) η' S' => .ok (.ret d) η' S'
      | .err e η' S' => .err e η' S'
      | .bad => .bad)
    | .ok false S1 => .ok .nx η S1
    | .err e S1 => .err e η S1
    | .bad => .bad
def RS.of (η : Env) (f : α → Env) (g : α → Fl) : R α → RS
  | .ok a S => .ok (g a) (f a) S
  | .err e S => .err e η S
  | .bad => .bad
def RS.then (r : RS) (k : Env → Store → RS) : RS := match r with
  | .ok .nx η S => k η S
  | r => r
/-! ### built-ins -/
def sumInts : List D → Option Int
  | [] => some 0
  | .int i :: r => (sumInts r).map (i + ·)
  | _ :: _ => none
def allInts : List D → Option (List Int)
  | [] => some []
  | .int i :: r => (allInts r).map (i :: ·)
  | _ :: _ => none
def allBls : List D → Option (List Bool)
  | [] => some []
  | .bl i :: r => (allBls r).map (i :: ·)
  | _ :: _ => none
def allStrs : List D → Option (List Str)
  | [] => some []
  | .str i :: r => (allStrs r).map (i :: ·)
  | _ :: _ => none
def maxI : Int → List Int → Int
  | m, [] => m
  | m, x :: r => maxI (if x > m then x else m) r
def strLt (a b : Str) : Bool := Spec.ltCps a.cps.toList b.cps.toList
def insStr (a : Str) : List Str → List Str
  | [] => [a]
  | b :: r => if strLt b a then b :: insStr a r else a :: b :: r
def sortStr : List Str → List Str
  | [] => []
  | a :: r => insStr a (sortStr r)
def mergeD (kvs more : List (L2.Key × D)) : List (L2.Key × D) := more.foldl (fun acc kv => putKey kv.1 kv.2 acc) kvs
def addS (ks : List Str) (k : Str) : List Str := if k ∈ ks then ks else ks ++ [k]
def dedup (ss : List Str) : List Str := ss.foldl addS []
def lstOf (S : Store) (d : D) : Option (List D) := match d with
  | .loc l => match S[l]? with
    | some (.lst xs) => some xs
    | _ => none
  | _ => none
def lenC (vs : List D) : M D := fun S => match vs with
  | [.str s] => if s.length ≤ sizeLine then .ok (.int s.length) S else .bad
  | [.tup xs] => .ok (.int xs.length) S
  | [.fzl xs] => .ok (.int xs.length) S
  | [.loc l] => match S[l]? with
    | some (.lst xs) => .ok (.int xs.length) S
    | some (.dct kvs) => .ok (.int kvs.length) S
    | _ => .bad
  | _ => .bad
def intC (vs : List D) : M D := fun S => match vs with
  | [.int i] => .ok (.int i) S
  | [.bl k] => .ok (.int (b2i k)) S
  | _ => .bad
def listC (vs : List D) : M D := fun S => match vs with
  | [d] => match seqOf S d with
    | some xs => M.alloc (.lst xs) S
    | none => .bad
  | _ => .bad
def tupleC (vs : List D) : M D := fun S => match vs with
  | [.tup xs] => .ok (.tup xs) S
  | [.loc l] => match S[l]? with
    | some (.lst xs) => .ok (.tup xs) S
    | _ => .bad
  | _ => .bad
def reprC (vs : List D) : M D := fun S => match vs with
  | [d] => match deep S DEEP d with
    | some p => if p.showable && lineOk p.shown.length && decide (p.depth ≤ 100) then .ok (.str p.shown) S else .bad
    | none => .bad
  | _ => .bad
def sumC (vs : List D) : M D := fun S => match vs with
  | [.loc l] => match S[l]? with
    | some (.lst xs) => match allInts xs with
      | some is => .ok (.int is.sum) S
      | none => .bad
    | _ => .bad
  | _ => .bad
def maxC (vs : List D) : M D := fun S => match vs with
  | [.loc l] => match S[l]? with
    | some (.lst xs) => match allInts xs with
      | some (i :: is) => .ok (.int (maxI i is)) S
      | _ => .bad
    | _ => .bad
  | _ => .bad
def allC (vs : List D) : M D := fun S => match vs with
  | [.loc l] => match S[l]? with
    | some (.lst xs) => match allBls xs with
      | some bs => .ok (.bl (bs.all id)) S
      | none => .bad
    | _ => .bad
  | _ => .bad
def anyC (vs : List D) : M D := fun S => match vs with
  | [.loc l] => match S[l]? with
    | some (.lst xs) => match allBls xs with
      | some bs => .ok (.bl (bs.any id)) S
      | none => .bad
    | _ => .bad
  | _ => .bad
def strKeys : List (L2.Key × D) → Option (List Str)
  | [] => some []
  | (.inr s, _) :: r => (strKeys r).map (s :: ·)
  | _ :: _ => none
def sortedC (vs : List D) : M D := fun S => match vs with
  | [.loc l] => match S[l]? with
    | some (.lst xs) => match allStrs xs with
      | some ss => if ss.length < 64 then M.alloc (.lst ((sortStr ss).map .str)) S else .bad
      | none => .bad
    | some (.dct kvs) => match strKeys kvs with
      | some ss => if ss.length < 64 then M.alloc (.lst ((sortStr ss).map .str)) S else .bad
      | none => .bad
    | _ => .bad
  | _ => .bad
def bicall (b : Bi) (vs : List D) : M D := match b with
  | .len => lenC vs
  | .int => intC vs
  | .list => listC vs
  | .tuple => tupleC vs
  | .repr => reprC vs
  | .sum => sumC vs
  | .max => maxC vs
  | .all => allC vs
  | .any => anyC vs
  | .sorted => sortedC vs
  | _ => M.bad
def appendC (o : D) (vs : List D) : M D := fun S => match o with
  | .loc l => match S[l]? with
    | some (.lst xs) => match vs with
      | [d] => if xs.length < sizeLine then .ok .non (S.set l (.lst (xs ++ [d]))) else .bad
      | _ => .bad
    | _ => .bad
  | _ => .bad
def extendC (o : D) (vs : List D) : M D := fun S => match o with
  | .loc l => match S[l]? with
    | some (.lst xs) => match vs with
      | [.loc k] => match S[k]? with
        | some (.lst ys) => if xs.length + ys.length ≤ sizeLine then .ok .non (S.set l (.lst (xs ++ ys))) else .bad
        | _ => .bad
      | [.tup ys] => if xs.length + ys.length ≤ sizeLine then .ok .non (S.set l (.lst (xs ++ ys))) else .bad
      | _ => .bad
    | _ => .bad
  | _ => .bad
def popC (o : D) (vs : List D) : M D := fun S => match o with
  | .loc l => match S[l]? with
    | some (.lst xs) => match vs with
      | [] => match xs[xs.length - 1]? with
        | some d => .ok d (S.set l (.lst xs.dropLast))
        | none => .bad
      | _ => .bad
    | _ => .bad
  | _ => .bad
def getC (o : D) (vs : List D) : M D := fun S => match o with
  | .loc l => match S[l]? with
    | some (.dct kvs) => match vs with
      | [k] => match keyOf k with
        | some k => .ok ((valD kvs k).getD .non) S
        | none => .bad
      | [k, d] => match keyOf k with
        | some k => .ok ((valD kvs k).getD d) S
        | none => .bad
      | _ => .bad
    | _ => .bad
  | _ => .bad
def joinC (o : D) (vs : List D) : M D := fun S => match o with
  | .str s => match vs with
    | [.loc l] => match S[l]? with
      | some (.lst xs) => match allStrs xs with
        | some ss => if (ss.map (·.length)).sum + ss.length * s.length ≤ 16777216 then .ok (.str (Str.join s ss)) S else .bad
        | none => .bad
      | _ => .bad
    | _ => .bad
  | _ => .bad
def mtcall (m : Mt) (o : D) (vs : List D) : M D := match m with
  | .append => appendC o vs
  | .extend => extendC o vs
  | .pop => popC o vs
  | .get => getC o vs
  | .join => joinC o vs
  | _ => M.bad
/-- the receiver's kind, checked ahead of the arguments -/
def recvOk (m : Mt) (d : D) (S : Store) : Bool := match m, d with
  | .append, .loc l => (match S[l]? with | some (.lst _) => true | _ => false)
  | .extend, .loc l => (match S[l]? with | some (.lst _) => true | _ => false)
  | .pop, .loc l => (match S[l]? with | some (.lst _) => true | _ => false)
  | .get, .loc l => (match S[l]? with | some (.dct _) => true | _ => false)
  | .join, .str _ => true
  | _, _ => false
def recv (m : Mt) (d : D) : M D := fun S => if recvOk m d S = true then .ok d S else .bad
/-! ### the evaluator -/
section
variable (F : Fn)
mutual
def evE : E → Env → M D
  | .var i, η => fun S => match η[i]? with
    | some (some d) => .ok d S
    | _ => .bad
  | .glb k, _ => fun S => match F.consts k with
    | some d => .ok d S
    | none => .bad
  | .non, _ => M.pure .non
  | .bl b, _ => M.pure (.bl b)
  | .int i, _ => M.pure (.int i)
  | .str s, _ => M.pure (.str s)
  | .bin o a b, η => M.bind (evE a η) fun x => M.bind (evE b η) fun y => binop o x y
  | .neg a, η => M.bind (evE a η) fun x => match x with
    | .int i => M.pure (.int (-i))
    | _ => M.bad
  | .cmp o a b, η => M.bind (evE a η) fun x => M.bind (evE b η) fun y => M.bind (ofOpt (cmpop o x y)) fun k => M.pure (.bl k)
  | .chn o o' a b c, η => M.bind (evE a η) fun x => M.bind (evE b η) fun y => M.bind (ofOpt (cmpop o x y)) fun k =>
      if k then M.bind (evE c η) fun z => M.bind (ofOpt (cmpop o' y z)) fun k' => M.pure (.bl k') else M.pure (.bl false)
  | .and xs, η => evAnd xs η
  | .or xs, η => evOr xs η
  | .not a, η => M.bind (evE a η) fun x => M.bind (isBl x) fun k => M.pure (.bl (!k))
  | .ife t a b, η => M.bind (evT t η) fun k => if k then evE a η else evE b η
  | .tup xs, η => M.bind (evL xs η) fun vs => M.bind (many vs) fun vs => M.pure (.tup vs)
  | .lst xs, η => M.bind (evL xs η) fun vs => M.bind (many vs) fun vs => M.alloc (.lst vs)
  | .dct ps, η => M.bind (evP ps η) fun ps => if ps.length ≤ 15 then M.alloc (.dct (mergeD [] ps)) else M.bad
  | .idx a i, η => M.bind (evE a η) fun x => M.bind (evE i η) fun y => getix x y
  | .slc a lo hi, η => M.bind (evE a η) fun x => M.bind (evO lo η) fun l => M.bind (evO hi η) fun h => slice x l h
  | .rev a, η => M.bind (evE a η) fun x => reversed x
  | .call f xs, η => M.bind (evL xs η) fun vs => F.call f vs
  | .callk f xs ks p, η => M.bind (evL xs η) fun vs => M.bind (evL ks η) fun ws => F.call f (F.perm p (vs ++ ws))
  | .bi b xs, η => M.bind (evL xs η) fun vs => bicall b vs
  | .mth m o xs, η => M.bind (evE o η) fun x => M.bind (recv m x) fun x => M.bind (evL xs η) fun vs => mtcall m x vs
  | .lcp elt g it c own, η => M.bind (evI it η) fun w => M.bind (many w.1) fun _ => M.bind (fun S => noErr (comp w.2 (asG g) (evC c) (evE elt) (wipeE η own) w.1 S)) fun ys => M.alloc (.lst ys)
  | .ssc elt g it c own, η => M.bind (evI it η) fun w => M.bind (many w.1) fun _ => M.bind (fun S => noErr (comp w.2 (asG g) (evC c) (evE elt) (wipeE η own) w.1 S)) fun ys => fun S => match allStrs ys with
    | some ss => if (dedup ss).length < 64 then M.alloc (.lst ((sortStr (dedup ss)).map .str)) S else .bad
    | none => .bad
def evT : E → Env → M Bool
  | .and xs, η => tsAnd xs η
  | .or xs, η => tsOr xs η
  | .not a, η => M.bind (evT a η) fun k => M.pure (!k)
  | .cmp o a b, η => M.bind (evE a η) fun x => M.bind (evE b η) fun y => ofOpt (cmpop o x y)
  | .chn o o' a b c, η => M.bind (evE a η) fun x => M.bind (evE b η) fun y => M.bind (ofOpt (cmpop o x y)) fun k =>
      if k then M.bind (evE c η) fun z => ofOpt (cmpop o' y z) else M.pure false
  | .bl b, _ => M.pure b
  | .var i, η => M.bind (fun S => match η[i]? with
    | some (some d) => .ok d S
    | _ => .bad) truth
  | .call f xs, η => M.bind (M.bind (evL xs η) fun vs => F.call f vs) truth
  | .bi b xs, η => M.bind (M.bind (evL xs η) fun vs => bicall b vs) truth
  | .idx a i, η => M.bind (M.bind (evE a η) fun x => M.bind (evE i η) fun y => getix x y) truth
  | _, _ => M.bad
def evAnd : L → Env → M D
  | .cons e .nil, η => evE e η
  | .cons e r, η => M.bind (evE e η) fun x => M.bind (isBl x) fun k => if k then evAnd r η else M.pure (.bl false)
  | _, _ => M.bad
def evOr : L → Env → M D
  | .cons e .nil, η => evE e η
  | .cons e r, η => M.bind (evE e η) fun x => M.bind (isBl x) fun k => if k then M.pure (.bl true) else evOr r η
  | _, _ => M.bad
def tsAnd : L → Env → M Bool
  | .cons e .nil, η => evT e η
  | .cons e r, η => M.bind (evT e η) fun k => if k then tsAnd r η else M.pure false
  | _, _ => M.bad
def tsOr : L → Env → M Bool
  | .cons e .nil, η => evT e η
  | .cons e r, η => M.bind (evT e η) fun k => if k then M.pure true else tsOr r η
  | _, _ => M.bad
def evL : L → Env → M (List D)
  | .nil, _ => M.pure []
  | .cons e r, η => M.bind (evE e η) fun x => M.bind (evL r η) fun xs => M.pure (x :: xs)
  | .star e r, η => M.bind (evE e η) fun x => M.bind (fun S => match seqOf S x with
      | some ys => .ok ys S
      | none => .bad) fun ys => M.bind (evL r η) fun xs => M.pure (ys ++ xs)
def evP : PL → Env → M (List (L2.Key × D))
  | .nil, _ => M.pure []
  | .cons k v r, η => M.bind (evE k η) fun x => M.bind (evE v η) fun y => M.bind (evP r η) fun ps => match keyOf x with
    | some k => M.pure ((k, y) :: ps)
    | none => M.bad
def evO : O → Env → M (Option Int)
  | .none, _ => M.pure none
  | .some e, η => M.bind (evE e η) fun x => match x with
    | .int i => M.pure (some i)
    | _ => M.bad
def evC : O → Env → M Bool
  | .none, _ => M.pure true
  | .some e, η => evT e η
def asG : G → D → Env → M Env
  | .name i, d, η => M.pure (η.set i (some d))
  | .tup gs, d, η => match d with
    | .tup xs => if xs.length = gs.len then (fun S => noErr (asGs gs xs η S)) else M.bad
    | _ => M.bad
  | .sub o i, d, η => M.bind (evE o η) fun x => M.bind (evE i η) fun y => M.bind (setix x y d) fun _ => M.pure η
def asGs : GL → List D → Env → M Env
  | .nil, [], η => M.pure η
  | .cons g r, d :: ds, η => M.bind (asG g d η) fun η' => asGs r ds η'
  | _, _, _ => M.bad
def evI : I → Env → M (List D × Guard)
  | .val e, η => M.bind (evE e η) fun x => walkOf x
  | .rng1 a, η => M.bind (evE a η) fun x => fun S => match x with
    | .int j => if bd62 j then .ok (rngD 0 j.toNat, []) S else .bad
    | _ => .bad
  | .rng2 a b, η => M.bind (evE a η) fun x => M.bind (evE b η) fun y => fun S => match x, y with
    | .int i, .int j => if bd62 i && bd62 j then .ok (rngD i (j - i).toNat, []) S else .bad
    | _, _ => .bad
  | .zip a b, η => M.bad
end
mutual
def exS : Sm → Env → Store → RS
  | .pass, η => fun S => .ok .nx η S
  | .brk, η => fun S => .ok .brk η S
  | .cnt, η => fun S => .ok .cnt η S
  | .ret .none, η => fun S => .ok (.ret .non) η S
  | .ret (.some e), η => fun S => RS.of η (fun _ => η) .ret (evE F e η S)
  | .exp e, η => fun S => RS.of η (fun _ => η) (fun _ => .nx) (evE F e η S)
  | .asg g e, η => fun S => RS.of η id (fun _ => .nx) (M.bind (evE F e η) (fun d => asG F g d η) S)
  | .par i j a b, η => fun S => RS.of η id (fun _ => .nx) (M.bind (evE F a η) (fun x => M.bind (evE F b η) fun y => M.pure ((η.set i (some x)).set j (some y))) S)
  | .par3 i j k a b c, η => fun S => RS.of η id (fun _ => .nx) (M.bind (evE F a η) (fun x => M.bind (evE F b η) fun y => M.bind (evE F c η) fun z => M.pure (((η.set i (some x)).set j (some y)).set k (some z))) S)
  | .aug i o e, η => fun S => RS.of η id (fun _ => .nx) (M.bind (evE F (.var i) η) (fun x => M.bind (evE F e η) fun y => M.bind (match x, y with
      | .int _, .int _ => binop o x y
      | _, _ => M.bad) fun z => M.pure (η.set i (some z))) S)
  | .ite t a b, η => fun S => match evT F t η S with
    | .ok true S' => exL a η S'
    | .ok false S' => exL b η S'
    | .err e S' => .err e η S'
    | .bad => .bad
  | .for g it b, η => fun S => match evI F it η S with
    | .ok w S' => forLoop w.2 (fun x η S => RS.then (RS.of η id (fun _ => .nx) (asG F g x η S)) fun η S => exL b η S) w.1 η S'
    | .err e S' => .err e η S'
    | .bad => .bad
  | .whl t b, η => fun S => whlLoop (evT F t) (fun η S => exL b η S) F.fuel η S
def exL : Sb → Env → Store → RS
  | .nil, η => fun S => .ok .nx η S
  | .cons s r, η => fun S => RS.then (exS s η S) fun η S => exL r η S
end
end
structure Def where
  np : Nat
  ns : Nat
  body : Sb
structure Tab where
  defs : List Def
  consts : List D
  perms : List (List Nat)
  fuel : Nat
def permOf (p : List Nat) (vs : List D) : List D := p.map fun i => vs.getD i .non
def runDef (F : Fn) (d : Def) (vs : List D) : M D := fun S => if vs.length = d.np then match exL F d.body (vs.map some ++ List.replicate (d.ns - d.np) none) S with
    | .ok (.ret v) _ S' => .ok v S'
    | .ok .nx _ S' => .ok .non S'
    | .err e _ S' => .err e S'
    | _ => .bad
  else .bad
def Tab.fn (T : Tab) (call : Nat → List D → M D) : Fn := ⟨call, fun k => T.consts[k]?, fun p vs => permOf (T.perms.getD p []) vs, T.fuel⟩
def callN (T : Tab) : Nat → Nat → List D → M D
  | 0, _, _ => M.bad
  | n + 1, f, vs => match T.defs[f]? with
    | some d => runDef (T.fn (callN T n)) d vs
    | none => M.bad
end Fw
/-! Fw3: what stands for what; lifted readings -/
namespace Fw
open PySem PySem.Spec PyProof.Rows L2
def FzL (K : PySem.W.Frag) (H : Hp) (a : Addr) (xs : List V) : Prop :=
  (∃ o, H a = some (.frz o (.lst xs))) ∨
    ∃ (o : Obj) (its : Array Value) (n : Nat), K.lookup a = some o ∧ o.cls = .type "list" ∧ o.dict = none ∧ o.data = .seq its n ∧ its.size ≤ sizeLine ∧ Vals xs its.toList
theorem FzL.sq {K : PySem.W.Frag} {H : Hp} {a : Addr} {xs : List V} (h : FzL K H a xs) : SqL K H a xs := by
  rcases h with h | h
  · exact .inl (.inr h)
  · exact .inr h
section
variable (K : PySem.W.Frag) (mg : Str → Option Value)
mutual
def RepV (ρ : List Addr) (H : Hp) : D → V → Prop
  | .non, v => v = .non
  | .bl b, v => v = .bl b
  | .int i, v => v = .int i
  | .str s, v => v = .str s
  | .tup ds, v => ∃ a vs, v = .ref a ∧ SqT K H a vs ∧ RepL ρ H ds vs
  | .fzl ds, v => ∃ a vs, v = .ref a ∧ FzL K H a vs ∧ RepL ρ H ds vs
  | .loc l, v => ∃ a, ρ[l]? = some a ∧ v = .ref a
  | .glob x, v => ∃ u, mg x = some u ∧ RelV v u
  | .ty n, v => v = .ty n
def RepL (ρ : List Addr) (H : Hp) : List D → List V → Prop
  | [], vs => vs = []
  | d :: ds, vs => ∃ v r, vs = v :: r ∧ RepV ρ H d v ∧ RepL ρ H ds r
end
def RepK (ρ : List Addr) (H : Hp) : List (Key × D) → List (Key × V) → Prop
  | [], ps => ps = []
  | p :: r, ps => ∃ v q, ps = (p.1, v) :: q ∧ RepV K mg ρ H p.2 v ∧ RepK ρ H r q
def CellRep (ρ : List Addr) (H : Hp) (a : Addr) : Cell → Prop
  | .lst ds => ∃ vs, H a = some (.lst vs) ∧ RepL K mg ρ H ds vs
  | .dct kvs => ∃ ps, H a = some (.dK ps) ∧ RepK K mg ρ H kvs ps
  | .set _ => False
  | .ins _ _ => False
structure Sim (ρ : List Addr) (S : Store) (H : Hp) : Prop where
  len : ρ.length = S.length
  nd : ρ.Nodup
  obj : ∀ (l : Nat) (a : Addr) (c : Cell), ρ[l]? = some a → S[l]? = some c → CellRep K mg ρ H a c
def EnvRel (ρ : List Addr) (H : Hp) (η : Env) (σ : L2.St) : Prop :=
  η.length = σ.length ∧ ∀ (i : Nat) (d : D), η[i]? = some (some d) → ∃ v, σ[i]? = some (some v) ∧ RepV K mg ρ H d v
end
/-- never changes -/
def Fix : HO → Prop
  | .tup _ => True
  | .frz _ _ => True
  | _ => False
structure Ext (ρ : List Addr) (H : Hp) (ρ' : List Addr) (H' : Hp) : Prop where
  pre : ∀ (l : Nat) (a : Addr), ρ[l]? = some a → ρ'[l]? = some a
  fix : ∀ a o, H a = some o → Fix o → H' a = some o
  keep : ∀ a o, H a = some o → a ∉ ρ → H' a = some o
  new : ∀ a ∈ ρ', a ∈ ρ ∨ H a = none
theorem Ext.refl {ρ : List Addr} {H : Hp} : Ext ρ H ρ H := ⟨fun _ _ h => h, fun _ _ h _ => h, fun _ _ h _ => h, fun _ h => .inl h⟩
theorem Ext.trans {ρ ρ1 ρ2 : List Addr} {H H1 H2 : Hp} (a : Ext ρ H ρ1 H1) (b : Ext ρ1 H1 ρ2 H2) : Ext ρ H ρ2 H2 where
  pre := fun l x h => b.pre l x (a.pre l x h)
  fix := fun x o h f => b.fix x o (a.fix x o h f) f
  keep := fun x o h n => b.keep x o (a.keep x o h n) fun hm => by
    rcases a.new x hm with z | z
    · exact n z
    · rw [h] at z; cases z
  new := fun x h => by
    by_cases hx : x ∈ ρ
    · exact .inl hx
    · refine .inr ?_
      rcases b.new x h with z | z
      · rcases a.new x z with z | z
        · exact absurd z hx
        · exact z
      · cases e : H x with
        | none => rfl
        | some o => rw [a.keep x o e hx] at z; cases z
section
variable {K : PySem.W.Frag} {mg : Str → Option Value} {ρ ρ' : List Addr} {H H' : Hp} {S : Store}
/-- what a value's standing leans on -/
structure Kp (ρ : List Addr) (H : Hp) (ρ' : List Addr) (H' : Hp) : Prop where
  pre : ∀ (l : Nat) (a : Addr), ρ[l]? = some a → ρ'[l]? = some a
  fix : ∀ a o, H a = some o → Fix o → H' a = some o
theorem Ext.kp (e : Ext ρ H ρ' H') : Kp ρ H ρ' H' := ⟨e.pre, e.fix⟩
theorem SqT.kp {a : Addr} {vs : List V} (e : Kp ρ H ρ' H') (h : SqT K H a vs) : SqT K H' a vs := by
  rcases h with (h | ⟨o, h⟩) | h
  · exact .inl (.inl (e.fix _ _ h trivial))
  · exact .inl (.inr ⟨o, e.fix _ _ h trivial⟩)
  · exact .inr h
theorem SqT.ext {a : Addr} {vs : List V} (e : Ext ρ H ρ' H') (h : SqT K H a vs) : SqT K H' a vs := SqT.kp e.kp h
theorem FzL.kp {a : Addr} {vs : List V} (e : Kp ρ H ρ' H') (h : FzL K H a vs) : FzL K H' a vs := by
  rcases h with ⟨o, h⟩ | h
  · exact .inl ⟨o, e.fix _ _ h trivial⟩
  · exact .inr h
theorem FzL.ext {a : Addr} {vs : List V} (e : Ext ρ H ρ' H') (h : FzL K H a vs) : FzL K H' a vs := FzL.kp e.kp h
mutual
theorem RepV.kp (e : Kp ρ H ρ' H') : ∀ {d : D} {v : V}, RepV K mg ρ H d v → RepV K mg ρ' H' d v
  | .non, _, h => h
  | .bl _, _, h => h
  | .int _, _, h => h
  | .str _, _, h => h
  | .tup ds, v, h => by
    simp only [RepV] at h ⊢
    obtain ⟨a, vs, h1, h2, h3⟩ := h
    exact ⟨a, vs, h1, SqT.kp e h2, RepL.kp e h3⟩
  | .fzl ds, v, h => by
    simp only [RepV] at h ⊢
    obtain ⟨a, vs, h1, h2, h3⟩ := h
    exact ⟨a, vs, h1, FzL.kp e h2, RepL.kp e h3⟩
  | .loc l, v, h => by
    simp only [RepV] at h ⊢
    obtain ⟨a, h1, h2⟩ := h
    exact ⟨a, e.pre _ _ h1, h2⟩
  | .glob _, _, h => h
  | .ty _, _, h => h
theorem RepL.kp (e : Kp ρ H ρ' H') : ∀ {ds : List D} {vs : List V}, RepL K mg ρ H ds vs → RepL K mg ρ' H' ds vs
  | [], _, h => h
  | d :: ds, vs, h => by
    simp only [RepL] at h ⊢
    obtain ⟨v, r, h1, h2, h3⟩ := h
    exact ⟨v, r, h1, RepV.kp e h2, RepL.kp e h3⟩
end
theorem RepV.ext (e : Ext ρ H ρ' H') {d : D} {v : V} (h : RepV K mg ρ H d v) : RepV K mg ρ' H' d v := RepV.kp e.kp h
theorem RepL.ext (e : Ext ρ H ρ' H') {ds : List D} {vs : List V} (h : RepL K mg ρ H ds vs) : RepL K mg ρ' H' ds vs := RepL.kp e.kp h
theorem RepK.kp (e : Kp ρ H ρ' H') : ∀ {kvs : List (Key × D)} {ps : List (Key × V)}, RepK K mg ρ H kvs ps → RepK K mg ρ' H' kvs ps
  | [], _, h => h
  | p :: r, ps, h => by
    obtain ⟨v, q, h1, h2, h3⟩ := h
    exact ⟨v, q, h1, h2.kp e, RepK.kp e h3⟩
theorem RepK.ext (e : Ext ρ H ρ' H') {kvs : List (Key × D)} {ps : List (Key × V)} (h : RepK K mg ρ H kvs ps) : RepK K mg ρ' H' kvs ps := RepK.kp e.kp h
theorem EnvRel.ext {η : Env} {σ : L2.St} (e : Ext ρ H ρ' H') (h : EnvRel K mg ρ H η σ) : EnvRel K mg ρ' H' η σ :=
  ⟨h.1, fun i d q => let ⟨v, h1, h2⟩ := h.2 i d q; ⟨v, h1, h2.ext e⟩⟩
theorem CellRep.kp {a : Addr} {c : Cell} (e : Kp ρ H ρ' H') (hs : H' a = H a) (h : CellRep K mg ρ H a c) : CellRep K mg ρ' H' a c := by
  cases c with
  | lst ds => obtain ⟨vs, h1, h2⟩ := h; exact ⟨vs, by rw [hs]; exact h1, h2.kp e⟩
  | dct kvs => obtain ⟨ps, h1, h2⟩ := h; exact ⟨ps, by rw [hs]; exact h1, h2.kp e⟩
  | set _ => exact h
  | ins _ _ => exact h
theorem CellRep.stay {a : Addr} {c : Cell} (e : Ext ρ H ρ' H') (hs : H' a = H a) (h : CellRep K mg ρ H a c) : CellRep K mg ρ' H' a c := CellRep.kp e.kp hs h
theorem CellRep.there {a : Addr} {c : Cell} (h : CellRep K mg ρ H a c) : ∃ o, H a = some o ∧ ¬ Fix o := by
  cases c with
  | lst ds => obtain ⟨vs, h1, h2⟩ := h; exact ⟨_, h1, fun z => z⟩
  | dct kvs => obtain ⟨ps, h1, h2⟩ := h; exact ⟨_, h1, fun z => z⟩
  | set _ => exact h.elim
  | ins _ _ => exact h.elim
theorem Sim.cell (s : Sim K mg ρ S H) {l : Nat} {a : Addr} (h : ρ[l]? = some a) : ∃ c, S[l]? = some c ∧ CellRep K mg ρ H a c := by
  have hl : l < S.length := by rw [← s.len]; exact (List.getElem?_eq_some_iff.mp h).1
  exact ⟨S[l], List.getElem?_eq_getElem hl, s.obj l a _ h (List.getElem?_eq_getElem hl)⟩
theorem Sim.addr (s : Sim K mg ρ S H) {l : Nat} {c : Cell} (h : S[l]? = some c) : ∃ a, ρ[l]? = some a ∧ CellRep K mg ρ H a c := by
  have hl : l < ρ.length := by rw [s.len]; exact (List.getElem?_eq_some_iff.mp h).1
  exact ⟨ρ[l], List.getElem?_eq_getElem hl, s.obj l _ c (List.getElem?_eq_getElem hl) h⟩
theorem Sim.mem (s : Sim K mg ρ S H) {a : Addr} (h : a ∈ ρ) : ∃ o, H a = some o ∧ ¬ Fix o := by
  obtain ⟨l, hl⟩ := List.mem_iff_getElem?.mp h
  obtain ⟨c, _, hc⟩ := s.cell hl
  exact hc.there
theorem Sim.free (s : Sim K mg ρ S H) {p : Addr} (h : H p = none) : p ∉ ρ := fun hm => by
  obtain ⟨o, ho, _⟩ := s.mem hm
  rw [h] at ho; cases ho
/-- a new untracked object (a tuple, say) -/
theorem Ext.tmp {p : Addr} {o : HO} (hp : H p = none) : Ext ρ H ρ (upd H p o) where
  pre := fun _ _ h => h
  fix := fun a u h _ => by rw [upd_ne (ne_of_none h hp)]; exact h
  keep := fun a u h _ => by rw [upd_ne (ne_of_none h hp)]; exact h
  new := fun _ h => .inl h
theorem Sim.tmp (s : Sim K mg ρ S H) {p : Addr} {o : HO} (hp : H p = none) : Sim K mg ρ S (upd H p o) :=
  ⟨s.len, s.nd, fun l a c h1 h2 => (s.obj l a c h1 h2).stay (Ext.tmp hp) (upd_ne fun z => by
    subst z
    exact s.free hp (List.mem_of_getElem? h1))⟩
/-- a new cell -/
theorem get_append {α : Type} {l : List α} {a b : α} {i : Nat} (h : (l ++ [a])[i]? = some b) : l[i]? = some b ∨ (i = l.length ∧ a = b) := by
  rcases Nat.lt_trichotomy i l.length with q | q | q
  · rw [List.getElem?_append_left q] at h; exact .inl h
  · subst q
    rw [List.getElem?_append_right (Nat.le_refl _)] at h
    simp at h
    exact .inr ⟨rfl, h⟩
  · rw [List.getElem?_eq_none (by simp; omega)] at h; cases h
theorem Ext.cell {p : Addr} {o : HO} (hp : H p = none) : Ext ρ H (ρ ++ [p]) (upd H p o) where
  pre := fun l a h => by rw [List.getElem?_append_left (List.getElem?_eq_some_iff.mp h).1]; exact h
  fix := fun a u h _ => by rw [upd_ne (ne_of_none h hp)]; exact h
  keep := fun a u h _ => by rw [upd_ne (ne_of_none h hp)]; exact h
  new := fun a h => by
    rcases List.mem_append.mp h with z | z
    · exact .inl z
    · simp at z; subst z; exact .inr hp
theorem Sim.new (s : Sim K mg ρ S H) {p : Addr} {o : HO} {c : Cell} (hp : H p = none) (hc : CellRep K mg (ρ ++ [p]) (upd H p o) p c) : Sim K mg (ρ ++ [p]) (S ++ [c]) (upd H p o) where
  len := by simp [s.len]
  nd := by
    rw [List.nodup_append]
    refine ⟨s.nd, by simp, fun a ha b hb e => ?_⟩
    simp at hb
    subst hb; subst e
    exact s.free hp ha
  obj := fun l a c' h1 h2 => by
    rcases get_append h1 with q | ⟨q, q'⟩
    · rcases get_append h2 with r | ⟨r, r'⟩
      · exact (s.obj l a c' q r).stay (Ext.cell hp) (upd_ne fun z => by
          subst z
          exact s.free hp (List.mem_of_getElem? q))
      · have := (List.getElem?_eq_some_iff.mp q).1
        rw [s.len] at this; omega
    · subst q'
      rcases get_append h2 with r | ⟨r, r'⟩
      · have := (List.getElem?_eq_some_iff.mp r).1
        rw [q, s.len] at this; omega
      · subst r'; exact hc
/-- a cell that is set -/
theorem Ext.set {a : Addr} {o u : HO} (ha : a ∈ ρ) (hu : H a = some u) (nf : ¬ Fix u) : Ext ρ H ρ (upd H a o) where
  pre := fun _ _ h => h
  fix := fun b w h f => by
    rw [upd_ne fun z => ?_]; exact h
    subst z; rw [hu] at h; cases h; exact nf f
  keep := fun b w h n => by
    rw [upd_ne fun z => ?_]; exact h
    subst z; exact n ha
  new := fun _ h => .inl h
/-- an object that is not the store's changes -/
theorem Kp.off {p : Addr} {o u : HO} (hu : H p = some u) (nf : ¬ Fix u) : Kp ρ H ρ (upd H p o) where
  pre := fun _ _ h => h
  fix := fun b w h f => by
    rw [upd_ne fun z => ?_]; exact h
    subst z; rw [hu] at h; cases h; exact nf f
theorem Sim.off (s : Sim K mg ρ S H) {p : Addr} {o u : HO} (hu : H p = some u) (nf : ¬ Fix u) (hp : p ∉ ρ) : Sim K mg ρ S (upd H p o) :=
  ⟨s.len, s.nd, fun l a c h1 h2 => (s.obj l a c h1 h2).kp (Kp.off hu nf) (upd_ne fun z => by
    subst z
    exact hp (List.mem_of_getElem? h1))⟩
theorem Ext.off {ρ0 : List Addr} {H0 : Hp} {p : Addr} {o : HO} (e : Ext ρ0 H0 ρ H) (hp : H0 p = none) : Ext ρ0 H0 ρ (upd H p o) where
  pre := e.pre
  fix := fun a w h f => by rw [upd_ne (ne_of_none h hp)]; exact e.fix a w h f
  keep := fun a w h n => by rw [upd_ne (ne_of_none h hp)]; exact e.keep a w h n
  new := e.new
theorem nodup_get {l : List Addr} (hn : l.Nodup) {i j : Nat} {x : Addr} (a : l[i]? = some x) (b : l[j]? = some x) : i = j := by
  obtain ⟨h1, e1⟩ := List.getElem?_eq_some_iff.mp a
  obtain ⟨h2, e2⟩ := List.getElem?_eq_some_iff.mp b
  exact (List.getElem_inj hn).mp (e1.trans e2.symm)
theorem Sim.set (s : Sim K mg ρ S H) {l : Nat} {a : Addr} {o : HO} {c : Cell} (hl : ρ[l]? = some a) (hc : CellRep K mg ρ (upd H a o) a c) : Sim K mg ρ (S.set l c) (upd H a o) where
  len := by simp [s.len]
  nd := s.nd
  obj := fun l' a' c' h1 h2 => by
    obtain ⟨c0, _, hc0⟩ := s.cell hl
    obtain ⟨u, hu, nf⟩ := hc0.there
    by_cases e : l' = l
    · subst e
      rw [hl] at h1; cases h1
      rw [List.getElem?_set_self (by rw [← s.len]; exact (List.getElem?_eq_some_iff.mp hl).1)] at h2
      cases h2
      exact hc
    · rw [List.getElem?_set_ne (Ne.symm e)] at h2
      exact (s.obj l' a' c' h1 h2).stay (Ext.set (List.mem_of_getElem? hl) hu nf) (upd_ne fun z => by
        subst z
        exact e (nodup_get s.nd h1 hl))
theorem RepL.len : ∀ {ds : List D} {vs : List V}, RepL K mg ρ H ds vs → ds.length = vs.length
  | [], _, h => by simp only [RepL] at h; subst h; rfl
  | d :: ds, vs, h => by
    simp only [RepL] at h
    obtain ⟨v, r, rfl, _, h3⟩ := h
    simp [RepL.len h3]
theorem RepL.get : ∀ {ds : List D} {vs : List V} {i : Nat} {d : D}, RepL K mg ρ H ds vs → ds[i]? = some d → ∃ v, vs[i]? = some v ∧ RepV K mg ρ H d v
  | [], _, _, _, _, e => by simp at e
  | d :: ds, vs, 0, _, h, e => by
    simp only [RepL] at h
    obtain ⟨v, r, rfl, h2, h3⟩ := h
    simp at e; subst e
    exact ⟨v, rfl, h2⟩
  | d :: ds, vs, i + 1, _, h, e => by
    simp only [RepL] at h
    obtain ⟨v, r, rfl, h2, h3⟩ := h
    exact RepL.get (i := i) h3 (by simpa using e)
theorem RepL.append : ∀ {ds ds' : List D} {vs vs' : List V}, RepL K mg ρ H ds vs → RepL K mg ρ H ds' vs' → RepL K mg ρ H (ds ++ ds') (vs ++ vs')
  | [], _, _, _, h, h' => by simp only [RepL] at h; subst h; exact h'
  | d :: ds, _, vs, _, h, h' => by
    simp only [RepL] at h
    obtain ⟨v, r, rfl, h2, h3⟩ := h
    exact ⟨v, _, rfl, h2, RepL.append h3 h'⟩
theorem RepL.take : ∀ {ds : List D} {vs : List V} (n : Nat), RepL K mg ρ H ds vs → RepL K mg ρ H (ds.take n) (vs.take n)
  | _, _, 0, _ => rfl
  | [], _, n + 1, h => by simp only [RepL] at h; subst h; rfl
  | d :: ds, _, n + 1, h => by
    simp only [RepL] at h
    obtain ⟨v, r, rfl, h2, h3⟩ := h
    exact ⟨v, _, rfl, h2, RepL.take n h3⟩
theorem RepL.drop : ∀ {ds : List D} {vs : List V} (n : Nat), RepL K mg ρ H ds vs → RepL K mg ρ H (ds.drop n) (vs.drop n)
  | _, _, 0, h => h
  | [], _, n + 1, h => by simp only [RepL] at h; subst h; rfl
  | d :: ds, _, n + 1, h => by
    simp only [RepL] at h
    obtain ⟨v, r, rfl, h2, h3⟩ := h
    exact RepL.drop n h3
theorem RepL.set : ∀ {ds : List D} {vs : List V} {d : D} {v : V} (n : Nat), RepL K mg ρ H ds vs → RepV K mg ρ H d v → RepL K mg ρ H (ds.set n d) (vs.set n v)
  | [], _, _, _, _, h, _ => by simp only [RepL] at h; subst h; rfl
  | d :: ds, _, _, w, 0, h, hv => by
    simp only [RepL] at h
    obtain ⟨v, r, rfl, h2, h3⟩ := h
    exact ⟨w, r, rfl, hv, h3⟩
  | d :: ds, _, _, _, n + 1, h, hv => by
    simp only [RepL] at h
    obtain ⟨v, r, rfl, h2, h3⟩ := h
    exact ⟨v, _, rfl, h2, RepL.set n h3 hv⟩
theorem RepL.dropLast : ∀ {ds : List D} {vs : List V}, RepL K mg ρ H ds vs → RepL K mg ρ H ds.dropLast vs.dropLast := fun {ds vs} h => by
  rw [List.dropLast_eq_take, List.dropLast_eq_take, h.len]
  exact h.take _
theorem RepL.reverse : ∀ {ds : List D} {vs : List V}, RepL K mg ρ H ds vs → RepL K mg ρ H ds.reverse vs.reverse
  | [], _, h => by simp only [RepL] at h; subst h; rfl
  | d :: ds, _, h => by
    simp only [RepL] at h
    obtain ⟨v, r, rfl, h2, h3⟩ := h
    rw [List.reverse_cons, List.reverse_cons]
    exact (RepL.reverse h3).append ⟨v, [], rfl, h2, rfl⟩
end
/-! ### results, lifted -/
/-- an error e stands for an exception of class cls, its own dict at dd -/
def ErrRep (K : PySem.W.Frag) (mg : Str → Option Value) (ρ : List Addr) (H : Hp) (S : Store) (e : D) (cls : Value) (dd : Option Addr) : Prop := False
/-- a result r of base (ρ, H), wanted Q of what stands for its value, Z of what stands for its error -/
def WpG {α β : Type} (K : PySem.W.Frag) (mg : Str → Option Value) (rep : List Addr → Hp → α → β → Prop) (Z : XK) (ρ : List Addr) (H : Hp) (r : R α) (Q : β → Hp → Prop) : Prop := match r with
  | .ok a S' => ∀ ρ' H' b, Ext ρ H ρ' H' → Sim K mg ρ' S' H' → rep ρ' H' a b → Q b H'
  | .err e S' => ∀ ρ' H' cls dd, Ext ρ H ρ' H' → Sim K mg ρ' S' H' → ErrRep K mg ρ' H' S' e cls dd → Z cls dd H'
  | .bad => False
section
variable {α β γ δ : Type} {K : PySem.W.Frag} {mg : Str → Option Value} {rep : List Addr → Hp → α → β → Prop} {rep' : List Addr → Hp → γ → δ → Prop} {Z : XK} {ρ ρ1 : List Addr} {H H1 : Hp}
theorem WpG.later {r : R α} {Q : β → Hp → Prop} (e : Ext ρ H ρ1 H1) (h : WpG K mg rep Z ρ H r Q) : WpG K mg rep Z ρ1 H1 r Q := by
  cases r with
  | ok a S' => exact fun ρ' H' b e' s q => h ρ' H' b (e.trans e') s q
  | err d S' => exact fun ρ' H' cls dd e' s q => h ρ' H' cls dd (e.trans e') s q
  | bad => exact h
theorem WpG.mono {r : R α} {Q Q' : β → Hp → Prop} (h : WpG K mg rep Z ρ H r Q) (hq : ∀ b H', Q b H' → Q' b H') : WpG K mg rep Z ρ H r Q' := by
  cases r with
  | ok a S' => exact fun ρ' H' b e' s q => hq _ _ (h ρ' H' b e' s q)
  | err d S' => exact h
  | bad => exact h
/-- the first step of two -/
theorem WpG.bind {m : M α} {k : α → M γ} {S : Store} {Q : δ → Hp → Prop} (h : WpG K mg rep' Z ρ H (M.bind m k S) Q) :
    WpG K mg rep Z ρ H (m S) (fun b H1 => ∃ a ρ1 S1, Ext ρ H ρ1 H1 ∧ Sim K mg ρ1 S1 H1 ∧ rep ρ1 H1 a b ∧ WpG K mg rep' Z ρ1 H1 (k a S1) Q) := by
  unfold M.bind at h
  cases e : m S with
  | ok a S' =>
    rw [e] at h
    exact fun ρ' H' b e' s q => ⟨a, ρ', S', e', s, q, WpG.later e' h⟩
  | err d S' => rw [e] at h; exact h
  | bad => rw [e] at h; exact h
theorem WpG.pure {a : α} {b : β} {S : Store} {Q : β → Hp → Prop} (s : Sim K mg ρ S H) (r : rep ρ H a b) (h : WpG K mg rep Z ρ H (M.pure a S) Q) : Q b H := h ρ H b .refl s r
end
abbrev repV (K : PySem.W.Frag) (mg : Str → Option Value) : List Addr → Hp → D → V → Prop := RepV K mg
abbrev repL (K : PySem.W.Frag) (mg : Str → Option Value) : List Addr → Hp → List D → List V → Prop := RepL K mg
abbrev repE {α : Type} : List Addr → Hp → α → α → Prop := fun _ _ a b => a = b
/-- a computation from an environment, as a reading -/
def Lft {α β : Type} (K : PySem.W.Frag) (mg : Str → Option Value) (rep : List Addr → Hp → α → β → Prop) (W : WX) (m : Env → M α) : L2.St → Hp → (β → Hp → Prop) → Prop := fun σ H Q =>
  ∃ ρ S η, Sim K mg ρ S H ∧ EnvRel K mg ρ H η σ ∧ WpG K mg rep (fun c d H' => W c d σ H') ρ H (m η S) Q
abbrev LE (X : Cx) (W : WX) (m : Env → M D) : TE := Lft X.K X.mg (repV X.K X.mg) W m
abbrev LT (X : Cx) (W : WX) (m : Env → M Bool) : TT := Lft X.K X.mg repE W m
abbrev LA (X : Cx) (W : WX) (m : Env → M (List D)) : TA := Lft X.K X.mg (repL X.K X.mg) W m
abbrev Z0 : XK := fun _ _ _ => False
/-- operations by values -/
def Lv2 (K : PySem.W.Frag) (mg : Str → Option Value) (m : D → D → M D) : R2 := fun x y H Q =>
  ∃ ρ S d e, Sim K mg ρ S H ∧ RepV K mg ρ H d x ∧ RepV K mg ρ H e y ∧ ∃ Z, WpG K mg (repV K mg) Z ρ H (m d e S) Q
def Lv1 {β δ : Type} (K : PySem.W.Frag) (mg : Str → Option Value) (rep : List Addr → Hp → β → δ → Prop) (m : D → M β) : V → Hp → (δ → Hp → Prop) → Prop := fun x H Q =>
  ∃ ρ S d, Sim K mg ρ S H ∧ RepV K mg ρ H d x ∧ ∃ Z, WpG K mg rep Z ρ H (m d S) Q
def LvL (K : PySem.W.Frag) (mg : Str → Option Value) (m : List D → M D) : List V → Hp → VK → Prop := fun vs H Q =>
  ∃ ρ S ds, Sim K mg ρ S H ∧ RepL K mg ρ H ds vs ∧ ∃ Z, WpG K mg (repV K mg) Z ρ H (m ds S) Q
def LvM (K : PySem.W.Frag) (mg : Str → Option Value) (m : D → List D → M D) : V → List V → Hp → VK → Prop := fun x vs H Q =>
  ∃ ρ S d ds, Sim K mg ρ S H ∧ RepV K mg ρ H d x ∧ RepL K mg ρ H ds vs ∧ ∃ Z, WpG K mg (repV K mg) Z ρ H (m d ds S) Q
end Fw
/-! Fw4: that a piece of own syntax is a rendition of a piece of PySem's -/
namespace Fw
open PySem L2
def Bi.name : Bi → Str
  | .len => "len" | .int => "int" | .list => "list" | .tuple => "tuple" | .repr => "repr" | .sorted => "sorted" | .sum => "sum" | .max => "max" | .min => "min" | .all => "all" | .any => "any"
  | .isinstance => "isinstance" | .set => "set" | .dict => "dict" | .str => "str" | .bool => "bool" | .abs => "abs"
def Bi.val : Bi → Value
  | .len => .builtin "len" | .int => .type "int" | .list => .type "list" | .tuple => .type "tuple" | .repr => .builtin "repr" | .sorted => .builtin "sorted" | .sum => .builtin "sum" | .max => .builtin "max" | .min => .builtin "min" | .all => .builtin "all" | .any => .builtin "any"
  | .isinstance => .builtin "isinstance" | .set => .type "set" | .dict => .type "dict" | .str => .type "str" | .bool => .type "bool" | .abs => .builtin "abs"
def Mt.name : Mt → Str
  | .append => "append" | .extend => "extend" | .pop => "pop" | .get => "get" | .items => "items" | .values => "values" | .keys => "keys" | .join => "join"
/-- the names that a text uses -/
structure Nm where
  fns : List Str
  cns : List Str
  kws : List (Nat × Nat × List Str)
  gone : List Str
structure SC where
  N : List Str
  sc : Scope
  nm : Nm
  blk : Option Scope := none
def SC.inner (C : SC) (scope : Scope) : SC := { C with sc := relS scope C.sc, blk := some scope }
/-- a name that may be stored -/
def SC.mine (C : SC) (x : Str) : Bool := match C.sc.names.lookup x with
  | some .local => true
  | some .cell => match C.blk with
    | none => true
    | some s => decide (s.names.lookup x = some .cell)
  | _ => false
def SC.gl (C : SC) (x : Str) : Bool := decide (C.sc.names.lookup x = some .globalImplicit) && decide (x ∈ C.nm.gone)
def SC.glob (C : SC) (x : Str) : Bool := decide (C.sc.names.lookup x = some .globalImplicit)
def visB (sc : Scope) (x : Str) : Bool := match sc.names.lookup x with
  | some .local => true | some .cell => true | some .free => true | _ => false
def locB (sc : Scope) (x : Str) : Bool := match sc.names.lookup x with
  | some .local => true | some .cell => true | _ => false
def okName (x : Str) : Bool := decide (x ≠ "__debug__") && decide (x ≠ "__classdict__") && decide (x ≠ "__name__")
def noSets : Expr → Bool
  | .Set .. => false
  | _ => true
def notStar : Expr → Bool
  | .Starred .. => false
  | _ => true
def notSlice : Expr → Bool
  | .Slice .. => false
  | _ => true
def plainBase : Expr → Bool
  | .Call .. => false
  | _ => true
def Mt.there : Mt → Bool
  | .items => false | .values => false | .keys => false
  | _ => true
mutual
def G.slots : G → List Nat
  | .name i => [i]
  | .tup gs => gs.slots
  | .sub _ _ => []
def GL.slots : GL → List Nat
  | .nil => []
  | .cons g r => g.slots ++ r.slots
end
def L.isNil : L → Bool
  | .nil => true
  | _ => false
def notComp : Expr → Bool
  | .ListComp .. => false | .SetComp .. => false | .DictComp .. => false
  | _ => true
def pairStores : Expr → Expr → Bool
  | .Tuple .., .Tuple _ .. => true
  | .List .., .Tuple .. => true
  | _, _ => false
/-- .. that the compiler folds -/
def pairOk : Expr → Expr → Bool
  | .Tuple .., .Tuple es _ _ => es.all (foldedForSure 8) && es.all notStar
  | _, _ => false
/-- .. with a target that is no local name: no swap -/
def pairCell (C : SC) : Expr → Bool
  | .Tuple ts _ _ => ts.any fun t => match t with
    | .Name x _ => decide (C.sc.names.lookup x ≠ some .local)
    | _ => true
  | _ => false
mutual
def chkE (C : SC) : E → Expr → Bool
  | .var i, e => match e with
    | .Name x _ => decide (C.N[i]? = some x) && visB C.sc x && okName x
    | _ => false
  | .glb k, e => match e with
    | .Name x _ => decide (C.nm.cns[k]? = some x) && C.glob x && okName x
    | _ => false
  | .non, e => match e with | .Constant .none _ _ => true | _ => false
  | .bl b, e => match e with | .Constant (.bool c) _ _ => decide (b = c) | _ => false
  | .int i, e => match e with | .Constant (.int j) _ _ => decide (i = j) | _ => false
  | .str s, e => match e with | .Constant (.str t) _ _ => decide (s = t) | _ => false
  | .bin o a b, e => match e with | .BinOp x o' y _ => decide (o = o') && chkE C a x && chkE C b y | _ => false
  | .neg a, e => match e with | .UnaryOp .USub x _ => chkE C a x | _ => false
  | .cmp o a b, e => match e with | .Compare x [o'] [y] _ => decide (o = o') && chkE C a x && chkE C b y && noSets y | _ => false
  | .chn o1 o2 a b c, e => match e with | .Compare x [p1, p2] [y, z] _ => decide (o1 = p1) && decide (o2 = p2) && chkE C a x && chkE C b y && chkE C c z && noSets y && noSets z | _ => false
  | .and xs, e => match e with | .BoolOp .And es _ => chkL C xs es && !es.isEmpty | _ => false
  | .or xs, e => match e with | .BoolOp .Or es _ => chkL C xs es && !es.isEmpty | _ => false
  | .not a, e => match e with | .UnaryOp .Not x _ => chkE C a x | _ => false
  | .ife t a b, e => match e with | .IfExp x y z _ => chkT C t x && chkE C a y && chkE C b z | _ => false
  | .tup xs, e => match e with | .Tuple es _ _ => chkM C xs es | _ => false
  | .lst xs, e => match e with | .List es _ => chkM C xs es | _ => false
  | .dct ps, e => match e with | .Dict keys vals _ => chkP C ps keys vals && decide (keys.length ≤ 15) | _ => false
  | .idx a i, e => match e with | .Subscript x y _ => chkE C a x && chkE C i y && notSlice y | _ => false
  | .slc a lo hi, e => match e with | .Subscript x (.Slice l h none _) _ => chkE C a x && chkO C lo l && chkO C hi h | _ => false
  | .rev a, e => match e with | .Subscript x (.Slice none none (some (.UnaryOp .USub (.Constant (.int 1) _ _) _)) _) _ => chkE C a x | _ => false
  | .call f xs, e => match e with | .Call (.Name x _) es [] _ => decide (C.nm.fns[f]? = some x) && C.glob x && okName x && chkL C xs es | _ => false
  | .callk f xs ks p, e => match e with | .Call (.Name x _) es kws _ => decide (C.nm.fns[f]? = some x) && C.glob x && okName x && chkL C xs es && chkK C ks kws && decide (C.nm.kws[p]? = some (f, es.length, kws.filterMap (·.arg))) && decide (kws.length = (kws.filterMap (·.arg)).length) | _ => false
  | .bi b xs, e => match e with | .Call (.Name x _) es [] _ => decide (b.name = x) && C.gl x && chkL C xs es && !es.isEmpty | _ => false
  | .mth m o xs, e => match e with | .Call (.Attribute x a p) es [] q => decide (m.name = a) && chkE C o x && chkL C xs es && m.there && plainBase x && (p.endLine == q.line) && decide (es.length < 30) | _ => false
  | .lcp elt g it c own, e => match e with
    | .ListComp el [⟨tg, iter, ifs, 0⟩] scope _ => chkI C it iter && noSets iter && g.slots.all (fun i => decide (i ∈ own)) && blkC C.N C.sc scope (own.filterMap fun i => C.N[i]?.map fun x => (x, i)) && decide ((own.filterMap fun i => C.N[i]?.map fun x => (x, i)).map (·.2) = own) &&
        chkG (C.inner scope) g tg && chkC (C.inner scope) c ifs && chkE (C.inner scope) elt el
    | _ => false
  | .ssc elt g it c own, e => match e with
    | .Call (.Name x _) [.SetComp el [⟨tg, iter, ifs, 0⟩] scope _] [] _ => decide (x = "sorted") && C.gl x && chkI C it iter && noSets iter && g.slots.all (fun i => decide (i ∈ own)) && blkC C.N C.sc scope (own.filterMap fun i => C.N[i]?.map fun x => (x, i)) && decide ((own.filterMap fun i => C.N[i]?.map fun x => (x, i)).map (·.2) = own) &&
        chkG (C.inner scope) g tg && chkC (C.inner scope) c ifs && chkE (C.inner scope) elt el
    | _ => false
def chkT (C : SC) : E → Expr → Bool
  | .and xs, e => match e with | .BoolOp .And es _ => chkTs C xs es && !es.isEmpty | _ => false
  | .or xs, e => match e with | .BoolOp .Or es _ => chkTs C xs es && !es.isEmpty | _ => false
  | .not a, e => match e with | .UnaryOp .Not x _ => chkT C a x | _ => false
  | .cmp o a b, e => match e with | .Compare x [o'] [y] _ => decide (o = o') && chkE C a x && chkE C b y && noSets y | _ => false
  | .chn o1 o2 a b c, e => match e with | .Compare x [p1, p2] [y, z] _ => decide (o1 = p1) && decide (o2 = p2) && chkE C a x && chkE C b y && chkE C c z && noSets y && noSets z | _ => false
  | .bl b, e => match e with | .Constant (.bool c) _ _ => decide (b = c) | _ => false
  | .var i, e => match e with
    | .Name x _ => decide (C.N[i]? = some x) && visB C.sc x && okName x
    | _ => false
  | .call f xs, e => match e with | .Call (.Name x _) es [] _ => decide (C.nm.fns[f]? = some x) && C.glob x && okName x && chkL C xs es | _ => false
  | .bi b xs, e => match e with | .Call (.Name x _) es [] _ => decide (b.name = x) && C.gl x && chkL C xs es && !es.isEmpty | _ => false
  | .idx a i, e => match e with | .Subscript x y _ => chkE C a x && chkE C i y && notSlice y | _ => false
  | _, _ => false
def chkTs (C : SC) : L → List Expr → Bool
  | .nil, es => match es with | [] => true | _ => false
  | .cons x r, es => match es with | e :: es => chkT C x e && chkTs C r es | _ => false
  | .star _ _, _ => false
def chkL (C : SC) : L → List Expr → Bool
  | .nil, es => match es with | [] => true | _ => false
  | .cons x r, es => match es with | e :: es => chkE C x e && chkL C r es && notStar e | _ => false
  | .star x r, es => false
/-- with stars -/
def chkM (C : SC) : L → List Expr → Bool
  | .nil, es => match es with | [] => true | _ => false
  | .cons x r, es => match es with | e :: es => chkE C x e && chkM C r es && notStar e | _ => false
  | .star x r, es => match es with | .Starred e _ :: es => chkE C x e && chkM C r es | _ => false
def chkP (C : SC) : PL → List (Option Expr) → List Expr → Bool
  | .nil, ks, vs => match ks, vs with | [], [] => true | _, _ => false
  | .cons x y r, ks, vs => match ks, vs with | some k :: ks, v :: vs => chkE C x k && chkE C y v && chkP C r ks vs | _, _ => false
def chkK (C : SC) : L → List Keyword → Bool
  | .nil, es => match es with | [] => true | _ => false
  | .cons x r, es => match es with | ⟨some _, e, _⟩ :: es => chkE C x e && chkK C r es | _ => false
  | .star _ _, _ => false
def chkO (C : SC) : O → Option Expr → Bool
  | .none, e => match e with | none => true | _ => false
  | .some x, e => match e with | some e => chkE C x e | _ => false
def chkC (C : SC) : O → List Expr → Bool
  | .none, e => match e with | [] => true | _ => false
  | .some x, e => match e with | [e] => chkT C x e | _ => false
def chkG (C : SC) : G → Expr → Bool
  | .name i, e => match e with | .Name x _ => decide (C.N[i]? = some x) && C.mine x | _ => false
  | .tup gs, e => match e with | .Tuple es _ _ => chkGs C gs es | _ => false
  | .sub o i, e => match e with | .Subscript x y _ => chkE C o x && chkE C i y && notSlice y | _ => false
def chkGs (C : SC) : GL → List Expr → Bool
  | .nil, es => match es with | [] => true | _ => false
  | .cons g r, es => match es with | e :: es => chkG C g e && chkGs C r es && notStar e | _ => false
def chkI (C : SC) : I → Expr → Bool
  | .val x, e => chkE C x e
  | .rng1 a, e => match e with | .Call (.Name x _) [y] [] _ => decide (x = "range") && C.gl x && chkE C a y && notStar y | _ => false
  | .rng2 a b, e => match e with | .Call (.Name x _) [y, z] [] _ => decide (x = "range") && C.gl x && chkE C a y && chkE C b z && notStar y && notStar z | _ => false
  | .zip _ _, _ => false
end
mutual
def chkS (C : SC) : Sm → Stmt → Bool
  | .pass, s => match s with | .Pass _ => true | _ => false
  | .brk, s => match s with | .Break _ => true | _ => false
  | .cnt, s => match s with | .Continue _ => true | _ => false
  | .ret .none, s => match s with | .Return none _ => true | _ => false
  | .ret (.some x), s => match s with | .Return (some e) _ => chkE C x e | _ => false
  | .exp x, s => match s with | .Expr e _ => chkE C x e && notComp e | _ => false
  | .asg g x, s => match s with
    | .Assign [t] e _ => chkG C g t && chkE C x e && notStar t && (!pairStores t e || pairOk t e || pairCell C t) && (match t, e with
      | .Name .., .ListComp .. => true
      | _, e => notComp e)
    | _ => false
  | .par i j a b, s => match s with
    | .Assign [.Tuple [.Name x p1, .Name y p2] _ _] (.Tuple [e, f] _ _) _ => decide (C.N[i]? = some x) && decide (C.N[j]? = some y) && decide (i ≠ j) && decide (C.sc.names.lookup x = some .local) && decide (C.sc.names.lookup y = some .local) && chkE C a e && chkE C b f &&
        (p2.line == p1.line) && decide (x ≠ y) && notStar e && notStar f && !(foldedForSure 8 e && foldedForSure 8 f) && !(constantsAlone 8 e && constantsAlone 8 f)
    | _ => false
  | .par3 i j l a b c, s => match s with
    | .Assign [.Tuple [.Name x p1, .Name y p2, .Name z p3] _ _] (.Tuple [e, f, g] _ _) _ => decide (C.N[i]? = some x) && decide (C.N[j]? = some y) && decide (C.N[l]? = some z) && decide (i ≠ j ∧ i ≠ l ∧ j ≠ l) && decide (C.sc.names.lookup x = some .local) && decide (C.sc.names.lookup y = some .local) && decide (C.sc.names.lookup z = some .local) &&
        chkE C a e && chkE C b f && chkE C c g && ((p2.line == p1.line) && (p3.line == p1.line)) && decide (x ≠ y ∧ x ≠ z ∧ y ≠ z) && (notStar e && notStar f && notStar g) && !(foldedForSure 8 e && foldedForSure 8 f && foldedForSure 8 g) && !(constantsAlone 8 e && constantsAlone 8 f && constantsAlone 8 g)
    | _ => false
  | .aug i o x, s => match s with | .AugAssign (.Name y _) o' e _ => decide (C.N[i]? = some y) && C.mine y && decide (o = o') && decide (o = .Add ∨ o = .Sub) && chkE C x e | _ => false
  | .ite t a b, s => match s with | .If c x y _ => chkT C t c && chkSb C a x && chkSb C b y | _ => false
  | .for g it b, s => match s with | .For t i body [] _ => chkG C g t && chkI C it i && chkSb C b body && noSets i | _ => false
  | .whl t b, s => match s with | .While c body [] _ => chkT C t c && chkSb C b body | _ => false
def chkSb (C : SC) : Sb → List Stmt → Bool
  | .nil, s => match s with | [] => true | _ => false
  | .cons x r, s => match s with | st :: rest => chkS C x st && chkSb C r rest | _ => false
end
end Fw
/-! Fw5: the operations by values -/
namespace Fw
open PySem PySem.Spec PyProof.Rows L2
theorem PE.imp {X : Cx} {e : Expr} {t t' : TE} (h : PE X e t) (i : ∀ σ H Q, t' σ H Q → t σ H Q) : PE X e t' := ⟨fun pins s σ H Q I q => h.run pins s σ H Q I (i σ H Q q)⟩
theorem PT.imp {X : Cx} {e : Expr} {t t' : TT} (h : PT X e t) (i : ∀ σ H Q, t' σ H Q → t σ H Q) : PT X e t' := ⟨fun pins s σ H Q I q => h.run pins s σ H Q I (i σ H Q q)⟩
theorem PA.imp {X : Cx} {e : List Expr} {t t' : TA} (h : PA X e t) (i : ∀ σ H Q, t' σ H Q → t σ H Q) : PA X e t' := ⟨fun pos pins s σ H Q I q => h.run pos pins s σ H Q I (i σ H Q q)⟩
theorem PS.imp {X : Cx} {e : Stmt} {t t' : TS} (h : PS X e t) (i : ∀ D σ H, t' D σ H → t D σ H) : PS X e t' := ⟨fun pins s σ H D I q => h.run pins s σ H D I (i D σ H q)⟩
theorem PSs.imp {X : Cx} {e : List Stmt} {t t' : TS} (h : PSs X e t) (i : ∀ D σ H, t' D σ H → t D σ H) : PSs X e t' := ⟨fun pins s σ H D I q => h.run pins s σ H D I (i D σ H q)⟩
theorem OpR.imp {X : Cx} {f : Value → Value → Sem Value} {r r' : R2} (h : OpR X f r) (i : ∀ x y H Q, r' x y H Q → r x y H Q) : OpR X f r' := fun pins s σ H x y v u Q I rx ry q => h pins s σ H x y v u Q I rx ry (i x y H Q q)
theorem CallR.imp {X : Cx} {f : Value} {r r' : List V → Hp → VK → Prop} (h : CallR X f r) (i : ∀ xs H Q, r' xs H Q → r xs H Q) : CallR X f r' := fun pins s σ H xs us Q I rx q => h pins s σ H xs us Q I rx (i xs H Q q)
theorem MtR.imp {X : Cx} {id : String} {r r' : V → List V → Hp → VK → Prop} (h : MtR X id r) (i : ∀ x xs H Q, r' x xs H Q → r x xs H Q) : MtR X id r' := fun pins s σ H x xs v us Q I rx rxs q => h pins s σ H x xs v us Q I rx rxs (i x xs H Q q)
theorem OpR.false {X : Cx} {f : Value → Value → Sem Value} : OpR X f fun _ _ _ _ => False := fun _ _ _ _ _ _ _ _ _ _ _ _ q => q.elim
section
variable {X : Cx} {K : PySem.W.Frag} {mg : Str → Option Value} {ρ : List Addr} {H : Hp} {S : Store} {Z : XK}
theorem ok_at {α β : Type} {rep : List Addr → Hp → α → β → Prop} {a : α} {b : β} {Q : β → Hp → Prop} (h : WpG K mg rep Z ρ H (.ok a S) Q) (s : Sim K mg ρ S H) (r : rep ρ H a b) : Q b H := h ρ H b .refl s r
theorem ok_tup {ds : List D} {vs : List V} {Q : VK} {p : Addr} (h : WpG K mg (repV K mg) Z ρ H (.ok (.tup ds) S) Q) (s : Sim K mg ρ S H) (r : RepL K mg ρ H ds vs) (hp : H p = none) : Q (.ref p) (upd H p (.tup vs)) := by
  refine h ρ _ (.ref p) (Ext.tmp hp) (s.tmp hp) ?_
  show RepV K mg _ _ (.tup ds) _
  simp only [RepV]
  exact ⟨p, vs, rfl, SqT.of upd_same, r.ext (Ext.tmp hp)⟩
theorem ok_new {c : Cell} {o : HO} {Q : VK} {p : Addr} (h : WpG K mg (repV K mg) Z ρ H (M.alloc c S) Q) (s : Sim K mg ρ S H) (hp : H p = none) (hc : CellRep K mg (ρ ++ [p]) (upd H p o) p c) : Q (.ref p) (upd H p o) := by
  refine h (ρ ++ [p]) _ (.ref p) (Ext.cell hp) (s.new hp hc) ?_
  show RepV K mg _ _ (.loc S.length) _
  simp only [RepV]
  exact ⟨p, by rw [← s.len]; simp, rfl⟩
theorem ok_lst {ds : List D} {vs : List V} {Q : VK} {p : Addr} (h : WpG K mg (repV K mg) Z ρ H (M.alloc (.lst ds) S) Q) (s : Sim K mg ρ S H) (r : RepL K mg ρ H ds vs) (hp : H p = none) : Q (.ref p) (upd H p (.lst vs)) :=
  ok_new h s hp ⟨vs, upd_same, r.ext (Ext.cell hp)⟩
theorem rep_tup {ds : List D} {v : V} (h : RepV K mg ρ H (.tup ds) v) : ∃ a vs, v = .ref a ∧ SqT K H a vs ∧ RepL K mg ρ H ds vs := by simpa only [RepV] using h
theorem rep_fzl {ds : List D} {v : V} (h : RepV K mg ρ H (.fzl ds) v) : ∃ a vs, v = .ref a ∧ FzL K H a vs ∧ RepL K mg ρ H ds vs := by simpa only [RepV] using h
theorem rep_loc {l : Nat} {v : V} (h : RepV K mg ρ H (.loc l) v) : ∃ a, ρ[l]? = some a ∧ v = .ref a := by simpa only [RepV] using h
theorem rep_lst {l : Nat} {v : V} {ds : List D} (s : Sim K mg ρ S H) (h : RepV K mg ρ H (.loc l) v) (e : S[l]? = some (.lst ds)) : ∃ a vs, v = .ref a ∧ ρ[l]? = some a ∧ H a = some (.lst vs) ∧ RepL K mg ρ H ds vs := by
  obtain ⟨a, h1, h2⟩ := rep_loc h
  obtain ⟨vs, h3, h4⟩ := s.obj l a _ h1 e
  exact ⟨a, vs, h2, h1, h3, h4⟩
theorem rep_dct {l : Nat} {v : V} {kvs : List (Key × D)} (s : Sim K mg ρ S H) (h : RepV K mg ρ H (.loc l) v) (e : S[l]? = some (.dct kvs)) : ∃ a ps, v = .ref a ∧ ρ[l]? = some a ∧ H a = some (.dK ps) ∧ RepK K mg ρ H kvs ps := by
  obtain ⟨a, h1, h2⟩ := rep_loc h
  obtain ⟨vs, h3, h4⟩ := s.obj l a _ h1 e
  exact ⟨a, vs, h2, h1, h3, h4⟩
theorem RepL.nil_iff {ds : List D} {vs : List V} (r : RepL K mg ρ H ds vs) : vs = [] ↔ ds = [] := by
  have := r.len
  constructor
  · intro e; subst e; exact List.eq_nil_of_length_eq_zero this
  · intro e; subst e; exact List.eq_nil_of_length_eq_zero this.symm
theorem rep_tup_v {ds : List D} {a : Addr} {vs : List V} (h : SqT K H a vs) (r : RepL K mg ρ H ds vs) : RepV K mg ρ H (.tup ds) (.ref a) := by
  simp only [RepV]
  exact ⟨a, vs, rfl, h, r⟩
/-! ### arithmetic -/
theorem op_addD : OpR X (binaryOp .Add) (Lv2 X.K X.mg addD) := by
  refine OpR.imp ((op_add.or op_add_str).or (op_catA.or op_cat)) fun x y H Q h => ?_
  obtain ⟨ρ, S, d, e, s, r1, r2, Z, h⟩ := h
  unfold addD at h
  split at h
  · exact .inl (.inl ⟨_, _, r1, r2, ok_at h s (by rfl)⟩)
  · split at h
    · rename_i hz
      exact .inl (.inr ⟨_, _, r1, r2, hz, ok_at h s (by rfl)⟩)
    · exact h.elim
  · split at h
    · rename_i hz
      obtain ⟨a, vs, rfl, ha, ra⟩ := rep_tup r1
      obtain ⟨b, ws, rfl, hb, rb⟩ := rep_tup r2
      refine .inr (.inl ⟨a, b, vs, ws, rfl, rfl, ha, hb, by rw [← ra.len, ← rb.len]; exact hz, fun e => ?_, fun _ e => ?_, fun _ _ p hp => ok_tup h s (ra.append rb) hp⟩)
      · subst e
        have e' := ra.nil_iff.mp rfl
        subst e'
        exact ok_at h s (rep_tup_v hb rb)
      · subst e
        have e' := rb.nil_iff.mp rfl
        subst e'
        rw [List.append_nil] at h
        exact ok_at h s (rep_tup_v ha ra)
    · exact h.elim
  · split at h
    · split at h
      · rename_i e1 e2 hz
        obtain ⟨a, vs, rfl, _, ha, ra⟩ := rep_lst s r1 e1
        obtain ⟨b, ws, rfl, _, hb, rb⟩ := rep_lst s r2 e2
        exact .inr (.inr ⟨a, b, vs, ws, rfl, rfl, ha, hb, by rw [← ra.len, ← rb.len]; exact hz, fun p hp => ok_lst h s (ra.append rb) hp⟩)
      · exact h.elim
    · exact h.elim
  · exact h.elim
theorem op_subD : OpR X (binaryOp .Sub) (Lv2 X.K X.mg subD) := by
  refine OpR.imp op_sub fun x y H Q h => ?_
  obtain ⟨ρ, S, d, e, s, r1, r2, Z, h⟩ := h
  unfold subD at h
  split at h
  · exact ⟨_, _, r1, r2, ok_at h s (by rfl)⟩
  · exact h.elim
theorem RepL.rep {ds : List D} {vs : List V} (r : RepL K mg ρ H ds vs) : ∀ n : Nat, RepL K mg ρ H (List.replicate n ds).flatten (List.replicate n vs).flatten
  | 0 => by simp [RepL]
  | n + 1 => by rw [List.replicate_succ, List.replicate_succ, List.flatten_cons, List.flatten_cons]; exact r.append (r.rep n)
theorem op_fdivD : OpR X (binaryOp .FloorDiv) (Lv2 X.K X.mg fdivD) := by
  refine OpR.imp op_fdivN fun x y H Q h => ?_
  obtain ⟨ρ, S, d, e, s, r1, r2, Z, h⟩ := h
  unfold fdivD at h
  split at h
  · split at h
    · rename_i hz
      exact ⟨_, _, r1, r2, hz, ok_at h s (by rfl)⟩
    · exact h.elim
  · exact h.elim
theorem op_modD : OpR X (binaryOp .Mod) (Lv2 X.K X.mg modD) := by
  refine OpR.imp op_modN fun x y H Q h => ?_
  obtain ⟨ρ, S, d, e, s, r1, r2, Z, h⟩ := h
  unfold modD at h
  split at h
  · split at h
    · rename_i hz
      exact ⟨_, _, r1, r2, hz, ok_at h s (by rfl)⟩
    · exact h.elim
  · exact h.elim
theorem op_powD : OpR X (binaryOp .Pow) (Lv2 X.K X.mg powD) := by
  refine OpR.imp op_pow fun x y H Q h => ?_
  obtain ⟨ρ, S, d, e, s, r1, r2, Z, h⟩ := h
  unfold powD at h
  split at h
  · split at h
    · rename_i hz
      exact ⟨_, _, r1, r2, hz, ok_at h s (by rfl)⟩
    · exact h.elim
  · exact h.elim
/-- t * 1 is t -/
theorem tuple_mul1 (l : Addr) (items : Array Value) (n : Nat) (dd : Option Addr) (sl : Array (Option Value)) (x : Int) (u : Tok) (c0 : (decide (x < -(2 ^ 63)) || decide (x ≥ 2 ^ 63)) = false) (c1 : (items.isEmpty || x == 1) = true) :
    Meets (Builtin.«tuple.__mul__» ⟨[.ref l, .int x u], []⟩) (fun _ R s => s.heap.get? l = some { cls := .type "tuple", dict := dd, data := .seq items n, slots := sl } ∧
      R (.ok (.ret (Value.ref l))) s) :=
  .of_wp fun prog w A R s h => by
    obtain ⟨hp, g, d, tk, os⟩ := s
    obtain ⟨hl, h⟩ := h
    have f1 := AutoSeq1.idx_int
    wp_walk using wpAny_loadPart' hl
    repeat (first
      | (refine wpAny_ite_false (decide_eq_false (by rw [c0]; exact Bool.false_ne_true)) ?_; wp_walk using wpAny_loadPart' hl)
      | (refine wpAny_ite_true (decide_eq_true c1) ?_; wp_walk using wpAny_loadPart' hl))
    exact ⟨_, rfl, h⟩
def rRepT1 (K : PySem.W.Frag) : R2 := fun x y H Q => ∃ l xs, x = .ref l ∧ y = .int 1 ∧ SqT K H l xs ∧ Q (.ref l) H
theorem op_repT1 : OpR X (binaryOp .Mult) (rRepT1 X.K) := by
  intro pins s σ H x y v u Q I rx ry h
  obtain ⟨l, xs, rfl, rfl, hT, q⟩ := h
  cases rx
  obtain ⟨t, rfl⟩ := ry
  obtain ⟨its, r, ⟨⟨cls, dd, data, sl⟩, ho, hc, n, hd⟩, hs⟩ := I.tuple hT
  simp only at hc hd
  subst hc hd
  refine wpAny_binaryOp_repeat_ref (T := "tuple") (U := "int") (by decide) ⟨_, ho, rfl⟩ (fun s' => typeIs_int s' 1 t) noFill_tuple_mul F.fills_int_mul F.slot_int_rmul repeat_tuple F.slot_int_index.lookup
    (call_meets F.slot_int_rmul (typeIs_int s 1 t) F.entry_int_rmul (F.args_int_rmul_2 _ _) (int_rmul_tuple 1 t l its.toArray n dd sl)
      ⟨ho, rfl, ⟨_, ho, rfl⟩, call_meets F.slot_tuple_mul ⟨_, ho, rfl⟩ F.entry_tuple_mul (F.args_tuple_mul_2 _ _) (tuple_mul1 l its.toArray n dd sl 1 t (by decide) (by simp)) ⟨ho, ?_⟩⟩)
  exact ⟨.ref l, H, I, rfl, q⟩
theorem op_mulD : OpR X (binaryOp .Mult) (Lv2 X.K X.mg mulD) := by
  refine OpR.imp (op_mul.or (op_repT.or op_repT1)) fun x y H Q h => ?_
  obtain ⟨ρ, S, d, e, s, r1, r2, Z, h⟩ := h
  unfold mulD at h
  split at h
  · split at h
    · rename_i hz
      refine .inl ⟨_, _, r1, r2, ?_, ok_at h s (by rfl)⟩
      unfold mulOk at hz
      simp only [Bool.or_eq_true, decide_eq_true_eq] at hz
      exact hz
    · exact h.elim
  · split at h
    · rename_i k hz
      obtain ⟨z1, z2, z3, z4⟩ := hz
      obtain ⟨a, vs, rfl, ha, ra⟩ := rep_tup r1
      have e2 : _ = V.int k := r2
      by_cases hk : k = 1
      · subst hk
        refine .inr (.inr ⟨a, vs, rfl, e2, ha, ?_⟩)
        have e : ∀ l : List D, (List.replicate (1 : Int).toNat l).flatten = l := fun l => by
          show ([l] : List (List D)).flatten = l
          exact List.flatten_singleton
        rw [e] at h
        exact ok_at h s (rep_tup_v ha ra)
      · refine .inr (.inl ⟨a, k, vs, rfl, e2, ha, fun q => z4 (ra.nil_iff.mp q), by omega, z2, by rw [← ra.len]; exact z3, fun p hp => ok_tup h s (ra.rep k.toNat) hp⟩)
    · exact h.elim
  · exact h.elim
theorem op_binop (o : Operator) : OpR X (binaryOp o) (Lv2 X.K X.mg (binop o)) := by
  cases o <;> first | exact op_addD | exact op_subD | exact op_mulD | exact op_fdivD | exact op_modD | exact op_powD | exact OpR.imp OpR.false fun _ _ _ _ ⟨_, _, _, _, _, _, _, _, h⟩ => h
/-! ### data -/
theorem optAll_cons {α : Type} {a : Option α} {r : List (Option α)} {l : List α} (h : optAll (a :: r) = some l) : ∃ x t, a = some x ∧ optAll r = some t ∧ l = x :: t := by
  cases a with
  | none => simp [optAll] at h
  | some x =>
    simp only [optAll] at h
    split at h
    · rename_i t e
      cases h
      exact ⟨x, t, rfl, e, rfl⟩
    · cases h
theorem dps_of {n : Nat} (ih : ∀ (d : D) (p : PyData) (v : V), deep S n d = some p → p.canLay0 = true → RepV K mg ρ H d v → Dp K H v p) :
    ∀ (ds : List D) (ps : List PyData) (vs : List V), optAll (ds.map (deep S n)) = some ps → PyData.canLayAll0 ps = true → RepL K mg ρ H ds vs → DpAll K H vs ps
  | [], ps, vs, h, _, r => by
    simp [optAll] at h
    subst h
    simp only [RepL] at r
    subst r
    exact .nil
  | d :: ds, ps, vs, h, hc, r => by
    simp only [List.map_cons] at h
    obtain ⟨x, t, e1, e2, rfl⟩ := optAll_cons h
    simp only [RepL] at r
    obtain ⟨v, w, rfl, r1, r2⟩ := r
    simp only [PyData.canLayAll0, Bool.and_eq_true] at hc
    exact .cons (ih d x v e1 hc.1 r1) (dps_of ih ds t w e2 hc.2 r2)
theorem dp_of (s : Sim K mg ρ S H) : ∀ (n : Nat) (d : D) (p : PyData) (v : V), deep S n d = some p → p.canLay0 = true → RepV K mg ρ H d v → Dp K H v p := by
  intro n
  induction n with
  | zero =>
    intro d p v h hc r
    cases d <;> simp only [deep, Option.some.injEq, reduceCtorEq] at h <;> subst h <;> simp only [RepV] at r <;> subst r <;> constructor
  | succ n ih =>
    intro d p v h hc r
    cases d with
    | non => simp only [deep, Option.some.injEq] at h; subst h; simp only [RepV] at r; subst r; constructor
    | bl _ => simp only [deep, Option.some.injEq] at h; subst h; simp only [RepV] at r; subst r; constructor
    | int _ => simp only [deep, Option.some.injEq] at h; subst h; simp only [RepV] at r; subst r; constructor
    | str _ => simp only [deep, Option.some.injEq] at h; subst h; simp only [RepV] at r; subst r; constructor
    | tup ds =>
      simp only [deep, Option.map_eq_some_iff] at h
      obtain ⟨ps, h, rfl⟩ := h
      obtain ⟨a, vs, rfl, ha, ra⟩ := rep_tup r
      exact .tup ha (dps_of ih ds ps vs h (by simpa only [PyData.canLay0] using hc) ra)
    | loc l =>
      simp only [deep] at h
      split at h
      · rename_i ds e
        simp only [Option.map_eq_some_iff] at h
        obtain ⟨ps, h, rfl⟩ := h
        obtain ⟨a, vs, rfl, _, ha, ra⟩ := rep_lst s r e
        exact .lst (SqL.of ha) (dps_of ih ds ps vs h (by simpa only [PyData.canLay0] using hc) ra)
      · simp only [Option.map_eq_some_iff] at h
        obtain ⟨ps, h, rfl⟩ := h
        simp [PyData.canLay0] at hc
      · cases h
    | fzl _ => simp [deep] at h
    | glob _ => simp [deep] at h
    | ty _ => simp [deep] at h
theorem data_of (s : Sim K mg ρ S H) {d : D} {p : PyData} {v : V} (h : dataOf S d = some p) (r : RepV K mg ρ H d v) : Dp K H v p ∧ SeqAt.shaped p = true := by
  unfold dataOf at h
  split at h
  · split at h
    · rename_i e hs
      cases h
      exact ⟨dp_of s _ _ _ _ e (SeqAt.canLay_of_shaped hs) r, hs⟩
    · cases h
  · cases h
/-! ### comparisons -/
def cmpM (o : CmpOp) (a b : D) : M D := M.bind (ofOpt (cmpop o a b)) fun k => M.pure (.bl k)
theorem cmpM_ok {o : CmpOp} {d e : D} {Q : VK} (s : Sim K mg ρ S H) (h : WpG K mg (repV K mg) Z ρ H (cmpM o d e S) Q) : ∃ k, cmpop o d e S = some k ∧ Q (.bl k) H := by
  unfold cmpM M.bind ofOpt at h
  split at h
  · rename_i k S' e1
    split at e1
    · rename_i b eb
      cases e1
      exact ⟨k, eb, ok_at h s (by rfl)⟩
    · cases e1
  · rename_i e1
    split at e1 <;> cases e1
  · exact h.elim
theorem eqD_ok {d e : D} {k : Bool} {x y : V} (s : Sim K mg ρ S H) (h : eqD d e S = some k) (r1 : RepV K mg ρ H d x) (r2 : RepV K mg ρ H e y) :
    ∃ p q, Dp K H x p ∧ Dp K H y q ∧ SeqAt.shaped p = true ∧ SeqAt.shaped q = true ∧ k = PyData.eqv p q := by
  unfold eqD at h
  split at h
  · rename_i p q e1 e2
    cases h
    obtain ⟨a1, a2⟩ := data_of s e1 r1
    obtain ⟨b1, b2⟩ := data_of s e2 r2
    exact ⟨p, q, a1, b1, a2, b2, rfl⟩
  · cases h
theorem cmp_eq (hu : X.A.units + 100 < cLine) : OpR X (compareOp .Eq) (Lv2 X.K X.mg (cmpM .Eq)) := by
  refine OpR.imp (op_eqD (by omega)) fun x y H Q h => ?_
  obtain ⟨ρ, S, d, e, s, r1, r2, Z, h⟩ := h
  obtain ⟨k, hk, hq⟩ := cmpM_ok s h
  obtain ⟨p, q, a, b, c, c', rfl⟩ := eqD_ok s hk r1 r2
  exact ⟨p, q, a, b, c, c', hq⟩
theorem cmp_ne (hu : X.A.units + 100 < cLine) : OpR X (compareOp .NotEq) (Lv2 X.K X.mg (cmpM .NotEq)) := by
  refine OpR.imp (op_neD (by omega)) fun x y H Q h => ?_
  obtain ⟨ρ, S, d, e, s, r1, r2, Z, h⟩ := h
  obtain ⟨k, hk, hq⟩ := cmpM_ok s h
  simp only [cmpop, Option.map_eq_some_iff] at hk
  obtain ⟨k, hk, rfl⟩ := hk
  obtain ⟨p, q, a, b, c, c', rfl⟩ := eqD_ok s hk r1 r2
  exact ⟨p, q, a, b, c, c', hq⟩
theorem ordI_ok {f : Int → Int → Bool} {d e : D} {k : Bool} {x y : V} (h : ordI f d e S = some k) (r1 : RepV K mg ρ H d x) (r2 : RepV K mg ρ H e y) : ∃ i j, x = .int i ∧ y = .int j ∧ k = f i j := by
  unfold ordI at h
  split at h
  · cases h; exact ⟨_, _, r1, r2, rfl⟩
  · cases h
theorem cmp_le : OpR X (compareOp .LtE) (Lv2 X.K X.mg (cmpM .LtE)) := by
  refine OpR.imp op_le fun x y H Q h => ?_
  obtain ⟨ρ, S, d, e, s, r1, r2, Z, h⟩ := h
  obtain ⟨k, hk, hq⟩ := cmpM_ok s h
  obtain ⟨i, j, rfl, rfl, rfl⟩ := ordI_ok (S := S) hk r1 r2
  exact ⟨i, j, rfl, rfl, hq⟩
theorem cmp_gt : OpR X (compareOp .Gt) (Lv2 X.K X.mg (cmpM .Gt)) := by
  refine OpR.imp op_gt fun x y H Q h => ?_
  obtain ⟨ρ, S, d, e, s, r1, r2, Z, h⟩ := h
  obtain ⟨k, hk, hq⟩ := cmpM_ok s h
  obtain ⟨i, j, rfl, rfl, rfl⟩ := ordI_ok (S := S) hk r1 r2
  exact ⟨i, j, rfl, rfl, hq⟩
theorem cmp_ge : OpR X (compareOp .GtE) (Lv2 X.K X.mg (cmpM .GtE)) := by
  refine OpR.imp op_ge fun x y H Q h => ?_
  obtain ⟨ρ, S, d, e, s, r1, r2, Z, h⟩ := h
  obtain ⟨k, hk, hq⟩ := cmpM_ok s h
  obtain ⟨i, j, rfl, rfl, rfl⟩ := ordI_ok (S := S) hk r1 r2
  exact ⟨i, j, rfl, rfl, hq⟩
theorem cmp_lt : OpR X (compareOp .Lt) (Lv2 X.K X.mg (cmpM .Lt)) := by
  refine OpR.imp (op_lt.or op_lt_str) fun x y H Q h => ?_
  obtain ⟨ρ, S, d, e, s, r1, r2, Z, h⟩ := h
  obtain ⟨k, hk, hq⟩ := cmpM_ok s h
  simp only [cmpop] at hk
  unfold ltD at hk
  split at hk
  · cases hk; exact .inl ⟨_, _, r1, r2, hq⟩
  · cases hk; exact .inr ⟨_, _, r1, r2, hq⟩
  · cases hk
theorem isNon_ok {d e : D} {k : Bool} {x y : V} (h : isNon d e = some k) (r1 : RepV K mg ρ H d x) (r2 : RepV K mg ρ H e y) : y = .non ∧ k = decide (x = .non) := by
  unfold isNon at h
  split at h
  · refine ⟨r2, ?_⟩
    cases d <;> simp only [RepV, Option.some.injEq, reduceCtorEq] at r1 h <;> try subst h
    case tup => obtain ⟨a, vs, rfl, _⟩ := r1; rfl
    case fzl => obtain ⟨a, vs, rfl, _⟩ := r1; rfl
    case loc => obtain ⟨a, _, rfl⟩ := r1; rfl
    all_goals (subst r1; rfl)
  · cases h
theorem RepL.isEmpty {ds : List D} {vs : List V} (r : RepL K mg ρ H ds vs) : vs.isEmpty = ds.isEmpty := by
  have := r.nil_iff
  cases vs <;> cases ds <;> simp_all
end
end Fw
/-! Fw6: the operations by values, further -/
namespace Fw
open PySem PySem.Spec PyProof.Rows L2
section
variable {X : Cx} {K : PySem.W.Frag} {mg : Str → Option Value} {ρ : List Addr} {H : Hp} {S : Store} {Z : XK}
/-! ### a value is none or not -/
theorem op_isV : OpR X (compareOp .Is) (Lv2 X.K X.mg (cmpM .Is)) := by
  refine OpR.imp op_isN fun x y H Q h => ?_
  obtain ⟨ρ, S, d, e, s, r1, r2, Z, h⟩ := h
  obtain ⟨k, hk, hq⟩ := cmpM_ok s h
  obtain ⟨rfl, rfl⟩ := isNon_ok hk r1 r2
  exact ⟨rfl, hq⟩
theorem op_isnotV : OpR X (compareOp .IsNot) (Lv2 X.K X.mg (cmpM .IsNot)) := by
  refine OpR.imp op_notN fun x y H Q h => ?_
  obtain ⟨ρ, S, d, e, s, r1, r2, Z, h⟩ := h
  obtain ⟨k, hk, hq⟩ := cmpM_ok s h
  simp only [cmpop, Option.map_eq_some_iff] at hk
  obtain ⟨k, hk, rfl⟩ := hk
  obtain ⟨rfl, rfl⟩ := isNon_ok hk r1 r2
  exact ⟨rfl, hq⟩
/-! ### in -/
def rInT (K : PySem.W.Frag) (neg : Bool) : R2 := fun x y H Q => ∃ d ds, Dp K H x d ∧ Dp K H y (.tuple ds) ∧ SeqAt.shaped d = true ∧ SeqAt.shaped (.tuple ds) = true ∧ Q (.bl (if neg then !ds.any fun z => PyData.eqv z d else ds.any fun z => PyData.eqv z d)) H
theorem op_inT (hu : X.A.units + 65 < cLine) : OpR X (compareOp .In) (rInT X.K false) := by
  intro pins s σ H x y v u Q I rx ry h
  obtain ⟨d, ds, hd, he, sd, se, q⟩ := h
  obtain ⟨as, r1⟩ := Dp.reads I d x v hd rx
  obtain ⟨bs, r2⟩ := Dp.reads I (.tuple ds) y u he ry
  exact SeqAt.in_tuple_reads r2 r1 (SeqAt.canLay_of_shaped se) (SeqAt.canLay_of_shaped sd) (room_in_shaped sd hu) ⟨.bl _, H, I, rfl, q⟩
theorem op_notInT (hu : X.A.units + 65 < cLine) : OpR X (compareOp .NotIn) (rInT X.K true) := by
  intro pins s σ H x y v u Q I rx ry h
  obtain ⟨d, ds, hd, he, sd, se, q⟩ := h
  obtain ⟨as, r1⟩ := Dp.reads I d x v hd rx
  obtain ⟨bs, r2⟩ := Dp.reads I (.tuple ds) y u he ry
  exact SeqAt.notIn_tuple_reads r2 r1 (SeqAt.canLay_of_shaped se) (SeqAt.canLay_of_shaped sd) (room_in_shaped sd hu) ⟨.bl _, H, I, rfl, q⟩
def rInDct (neg : Bool) : R2 := fun x y H Q => ∃ a o, y = .ref a ∧ DGet H a x o ∧ Q (.bl (if neg then !o.isSome else o.isSome)) H
theorem op_inDct (hu : X.A.units + 1 < cLine) : OpR X (compareOp .In) (rInDct false) := by
  intro pins s σ H x y v u Q I rx ry h
  obtain ⟨a, o, rfl, g, q⟩ := h
  obtain rfl : u = Value.ref a := ry
  exact d_in hu I g rx fun s3 I3 => ⟨.bl o.isSome, H, I3, rfl, q⟩
theorem op_notInDct (hu : X.A.units + 1 < cLine) : OpR X (compareOp .NotIn) (rInDct true) := by
  intro pins s σ H x y v u Q I rx ry h
  obtain ⟨a, o, rfl, g, q⟩ := h
  obtain rfl : u = Value.ref a := ry
  exact d_notIn hu I g rx fun s3 I3 => ⟨.bl (!o.isSome), H, I3, rfl, q⟩
theorem RepK.val {kvs : List (Key × D)} {ps : List (Key × V)} (k : Key) : RepK K mg ρ H kvs ps → (valD kvs k = none → valV ps k = none) ∧ ∀ d, valD kvs k = some d → ∃ v, valV ps k = some v ∧ RepV K mg ρ H d v := by
  induction kvs generalizing ps with
  | nil =>
    intro h
    simp only [RepK] at h
    subst h
    exact ⟨fun _ => rfl, fun d e => by simp [valD] at e⟩
  | cons p r ih =>
    intro h
    obtain ⟨v, q, rfl, h1, h2⟩ := h
    obtain ⟨i1, i2⟩ := ih h2
    by_cases e : p.1 = k
    · have z : valD (p :: r) k = some p.2 := by simp [valD, List.find?_cons, e]
      have z' : valV ((p.1, v) :: q) k = some v := valV_pos e
      rw [z, z']
      refine ⟨fun q => (nomatch q), fun d q => ?_⟩
      cases q
      exact ⟨v, rfl, h1⟩
    · have z : valD (p :: r) k = valD r k := by simp [valD, List.find?_cons, e]
      have z' : valV ((p.1, v) :: q) k = valV q k := valV_neg e
      rw [z, z']
      exact ⟨i1, i2⟩
theorem RepK.len : ∀ {kvs : List (Key × D)} {ps : List (Key × V)}, RepK K mg ρ H kvs ps → kvs.length = ps.length
  | [], _, h => by simp only [RepK] at h; subst h; rfl
  | p :: r, _, h => by
    obtain ⟨v, q, rfl, _, h2⟩ := h
    simp [RepK.len h2]
theorem RepK.isEmpty {kvs : List (Key × D)} {ps : List (Key × V)} (r : RepK K mg ρ H kvs ps) : ps.isEmpty = kvs.isEmpty := by
  have := r.len
  cases ps <;> cases kvs <;> simp_all
theorem RepK.any {kvs : List (Key × D)} {ps : List (Key × V)} (k : Key) : RepK K mg ρ H kvs ps → (kvs.any fun p => decide (p.1 = k)) = ps.any fun p => decide (p.1 = k) := by
  induction kvs generalizing ps with
  | nil => intro h; simp only [RepK] at h; subst h; rfl
  | cons p r ih =>
    intro h
    obtain ⟨v, q, rfl, h1, h2⟩ := h
    simp only [List.any_cons, ih h2]
theorem RepK.map {kvs : List (Key × D)} {ps : List (Key × V)} {d : D} {v : V} (k : Key) (hv : RepV K mg ρ H d v) : RepK K mg ρ H kvs ps → RepK K mg ρ H (kvs.map fun kv => if kv.1 = k then (kv.1, d) else kv) (ps.map fun kv => if kv.1 = k then (kv.1, v) else kv) := by
  induction kvs generalizing ps with
  | nil => intro h; simp only [RepK] at h; subst h; rfl
  | cons p r ih =>
    intro h
    obtain ⟨w, q, rfl, h1, h2⟩ := h
    simp only [List.map_cons]
    by_cases e : p.1 = k
    · simp only [e, if_true]
      exact ⟨v, _, rfl, hv, ih h2⟩
    · simp only [e, if_false]
      exact ⟨w, _, rfl, h1, ih h2⟩
theorem RepK.snoc {kvs : List (Key × D)} {ps : List (Key × V)} {d : D} {v : V} (k : Key) (hv : RepV K mg ρ H d v) : RepK K mg ρ H kvs ps → RepK K mg ρ H (kvs ++ [(k, d)]) (ps ++ [(k, v)]) := by
  induction kvs generalizing ps with
  | nil => intro h; simp only [RepK] at h; subst h; exact ⟨v, [], rfl, hv, rfl⟩
  | cons p r ih =>
    intro h
    obtain ⟨w, q, rfl, h1, h2⟩ := h
    exact ⟨w, _, rfl, h1, ih h2⟩
theorem RepK.put {kvs : List (Key × D)} {ps : List (Key × V)} {d : D} {v : V} (k : Key) (hv : RepV K mg ρ H d v) (h : RepK K mg ρ H kvs ps) : RepK K mg ρ H (putKey k d kvs) (putK ps k v) := by
  unfold putKey putK
  rw [h.any k]
  split
  · exact h.map k hv
  · exact h.snoc k hv
theorem key_rep {d : D} {k : Key} {x : V} (h : keyOf d = some k) (r : RepV K mg ρ H d x) : x = kV k := by
  unfold keyOf at h
  split at h
  · cases h; exact r
  · cases h; exact r
  · cases h
theorem isIn_ok {d e : D} {k : Bool} {x y : V} (s : Sim K mg ρ S H) (h : isIn d e S = some k) (r1 : RepV K mg ρ H d x) (r2 : RepV K mg ρ H e y) :
    (∃ i j, x = .str i ∧ y = .str j ∧ k = !(Builtin.Str.occurrences j i 0 j.length 1).isEmpty) ∨
    (∃ p ps, Dp K H x p ∧ Dp K H y (.list ps) ∧ SeqAt.shaped p = true ∧ SeqAt.shaped (.list ps) = true ∧ k = ps.any fun z => PyData.eqv z p) ∨
    (∃ p ps, Dp K H x p ∧ Dp K H y (.tuple ps) ∧ SeqAt.shaped p = true ∧ SeqAt.shaped (.tuple ps) = true ∧ k = ps.any fun z => PyData.eqv z p) ∨
    (∃ a o, y = .ref a ∧ DGet H a x o ∧ k = o.isSome) := by
  unfold isIn at h
  split at h
  · split at h
    · cases h; exact .inl ⟨_, _, r1, r2, rfl⟩
    · cases h
  · split at h
    · split at h
      · rename_i p qs e1 e2
        cases h
        obtain ⟨a1, a2⟩ := data_of s e1 r1
        obtain ⟨b1, b2⟩ := data_of s e2 r2
        exact .inr (.inl ⟨p, qs, a1, b1, a2, b2, rfl⟩)
      · cases h
    · rename_i kvs e0
      split at h
      · rename_i k' e1
        cases h
        obtain ⟨a, ps, rfl, _, ha, rk⟩ := rep_dct s r2 e0
        have ex := key_rep e1 r1
        subst ex
        exact .inr (.inr (.inr ⟨a, _, rfl, DGet.k ha, by rw [rk.any k', valV_any]⟩))
      · cases h
    · cases h
  · split at h
    · rename_i p qs e1 e2
      cases h
      obtain ⟨a1, a2⟩ := data_of s e1 r1
      obtain ⟨b1, b2⟩ := data_of s e2 r2
      exact .inr (.inr (.inl ⟨p, qs, a1, b1, a2, b2, rfl⟩))
    · cases h
  · cases h
theorem op_inV (hu : X.A.units + 100 < cLine) : OpR X (compareOp .In) (Lv2 X.K X.mg (cmpM .In)) := by
  refine OpR.imp (op_in_str.or ((op_inD (by omega)).or ((op_inT (by omega)).or (op_inDct (by omega))))) fun x y H Q h => ?_
  obtain ⟨ρ, S, d, e, s, r1, r2, Z, h⟩ := h
  obtain ⟨k, hk, hq⟩ := cmpM_ok s h
  rcases isIn_ok s hk r1 r2 with ⟨i, j, rfl, rfl, rfl⟩ | ⟨p, ps, a, b, c, c', rfl⟩ | ⟨p, ps, a, b, c, c', rfl⟩ | ⟨a, o, rfl, g, rfl⟩
  · exact .inl ⟨_, _, rfl, rfl, hq⟩
  · exact .inr (.inl ⟨p, ps, a, b, c, c', hq⟩)
  · exact .inr (.inr (.inl ⟨p, ps, a, b, c, c', hq⟩))
  · exact .inr (.inr (.inr ⟨a, o, rfl, g, hq⟩))
theorem op_notinV (hu : X.A.units + 100 < cLine) : OpR X (compareOp .NotIn) (Lv2 X.K X.mg (cmpM .NotIn)) := by
  refine OpR.imp (op_notin_str.or ((op_notInD (by omega)).or ((op_notInT (by omega)).or (op_notInDct (by omega))))) fun x y H Q h => ?_
  obtain ⟨ρ, S, d, e, s, r1, r2, Z, h⟩ := h
  obtain ⟨k, hk, hq⟩ := cmpM_ok s h
  simp only [cmpop, Option.map_eq_some_iff] at hk
  obtain ⟨k, hk, rfl⟩ := hk
  rcases isIn_ok s hk r1 r2 with ⟨i, j, rfl, rfl, rfl⟩ | ⟨p, ps, a, b, c, c', rfl⟩ | ⟨p, ps, a, b, c, c', rfl⟩ | ⟨a, o, rfl, g, rfl⟩
  · exact .inl ⟨_, _, rfl, rfl, hq⟩
  · exact .inr (.inl ⟨p, ps, a, b, c, c', hq⟩)
  · exact .inr (.inr (.inl ⟨p, ps, a, b, c, c', hq⟩))
  · exact .inr (.inr (.inr ⟨a, o, rfl, g, hq⟩))
theorem op_cmp (hu : X.A.units + 100 < cLine) (o : CmpOp) : OpR X (compareOp o) (Lv2 X.K X.mg (cmpM o)) := by
  cases o <;> first | exact cmp_eq hu | exact cmp_ne hu | exact cmp_lt | exact cmp_le | exact cmp_gt | exact cmp_ge | exact op_isV | exact op_isnotV | exact op_inV hu | exact op_notinV hu
/-! ### truth -/
theorem TruR.imp {r r' : V → Hp → (Bool → Hp → Prop) → Prop} (h : TruR X r) (i : ∀ x H Q, r' x H Q → r x H Q) : TruR X r' := fun pins s σ H x v Q I rx q => h pins s σ H x v Q I rx (i x H Q q)
theorem okE_at {α : Type} {a : α} {Q : α → Hp → Prop} (h : WpG K mg repE Z ρ H (.ok a S) Q) (s : Sim K mg ρ S H) : Q a H := h ρ H a .refl s rfl
theorem tru_V : TruR X (Lv1 X.K X.mg repE truth) := by
  refine TruR.imp tru_ok fun x H Q h => ?_
  obtain ⟨ρ, S, d, s, r, Z, h⟩ := h
  unfold truth at h
  split at h
  · cases (show x = _ from r); exact ⟨_, rfl, okE_at h s⟩
  · cases (show x = _ from r); exact ⟨_, rfl, okE_at h s⟩
  · cases (show x = _ from r); exact ⟨_, rfl, okE_at h s⟩
  · split at h
    · rename_i hz
      cases (show x = _ from r); exact ⟨_, ⟨hz, rfl⟩, okE_at h s⟩
    · exact h.elim
  · obtain ⟨a, vs, rfl, ha, ra⟩ := rep_tup r
    refine ⟨_, .inr (.inl ⟨vs, ha, rfl⟩), ?_⟩
    rw [ra.isEmpty]
    exact okE_at h s
  · split at h
    · rename_i e0
      obtain ⟨a, vs, rfl, _, ha, ra⟩ := rep_lst s r e0
      refine ⟨_, .inl ⟨vs, SqL.of ha, rfl⟩, ?_⟩
      rw [ra.isEmpty]
      exact okE_at h s
    · rename_i e0
      obtain ⟨a, vs, rfl, _, ha, ra⟩ := rep_dct s r e0
      refine ⟨_, .inr (.inr ⟨vs, ha, rfl⟩), ?_⟩
      rw [ra.isEmpty]
      exact okE_at h s
    · exact h.elim
  · exact h.elim
/-! ### subscripts -/
theorem IxR.imp {r r' : R2} (h : IxR X r) (i : ∀ x y H Q, r' x y H Q → r x y H Q) : IxR X r' := fun value slice pins s σ H x y v u Q I rx ry q hs => h value slice pins s σ H x y v u Q I rx ry (i x y H Q q) hs
def rIxDct : R2 := fun x y H Q => ∃ a v, x = .ref a ∧ DGet H a y (some v) ∧ Q v H
theorem ix_dct (hu : X.A.units + 1 < cLine) : IxR X rIxDct := by
  intro value slice pins s σ H x y v u Q I rx ry h hs
  obtain ⟨a, w, rfl, g, q⟩ := h
  obtain rfl : v = Value.ref a := rx
  have hT := dict_typeIs I g
  unfold subscriptTail
  refine wpAny_bind ?_
  rw [getitemInPython_of_ne hT.not_modules]
  refine wpAny_bind (wpAny_specialOf hT PySem.F.slot_dict_getitem.lookup ?_)
  have fin : wpAny (model X.prog X.w) X.A (subscripted slice false (.ref a) u) (fun r s₃ => wpAny (model X.prog X.w) X.A (letTemporaryGo value (.ref a) r >>= fun _ => pure r) (EP X pins σ Q) X.xe s₃) X.xe s := by
    rw [hs]
    exact wpAny_operating (d_getItem hu I g ry fun w' s3 I3 rw' => wpAny_bind (wpAny_letTemporaryGo (wpAny_pure ⟨w, H, I3, rw', q⟩)))
  first
    | exact wpAny_pure (wpAny_bind fin)
    | exact wpAny_bind (wpAny_pure (wpAny_bind fin))
    | exact wpAny_bind fin
theorem atI_rep {ds : List D} {vs : List V} {i : Int} {d : D} (r : RepL K mg ρ H ds vs) (h : atI ds i = some d) : ∃ v, atI vs i = some v ∧ RepV K mg ρ H d v := by
  unfold atI at h ⊢
  rw [r.len] at h
  cases e : ixN vs.length i with
  | none => rw [e] at h; cases h
  | some j => rw [e] at h; exact r.get h
theorem ix_V (hu : X.A.units + 100 < cLine) : IxR X (Lv2 X.K X.mg getix) := by
  refine IxR.imp ((ix_dct (by omega)).or ix_seq) fun x y H Q h => ?_
  obtain ⟨ρ, S, d, e, s, r1, r2, Z, h⟩ := h
  unfold getix at h
  split at h
  · split at h
    · rename_i hz
      split at h
      · rename_i c hc
        exact .inr (.inr (.inr ⟨_, _, c, r1, r2, hz, hc, ok_at h s (by rfl)⟩))
      · exact h.elim
    · exact h.elim
  · split at h
    · rename_i d' hd
      obtain ⟨a, vs, rfl, ha, ra⟩ := rep_tup r1
      obtain ⟨v, hv, rv⟩ := atI_rep ra hd
      exact .inr (.inr (.inl ⟨a, vs, _, v, rfl, r2, ha, hv, ok_at h s rv⟩))
    · exact h.elim
  · split at h
    · rename_i d' hd
      obtain ⟨a, vs, rfl, ha, ra⟩ := rep_fzl r1
      obtain ⟨v, hv, rv⟩ := atI_rep ra hd
      exact .inr (.inl ⟨a, vs, _, v, rfl, r2, ha.sq, hv, ok_at h s rv⟩)
    · exact h.elim
  · split at h
    · rename_i e0
      split at h
      · split at h
        · rename_i d' hd
          obtain ⟨a, vs, rfl, _, ha, ra⟩ := rep_lst s r1 e0
          obtain ⟨v, hv, rv⟩ := atI_rep ra hd
          exact .inr (.inl ⟨a, vs, _, v, rfl, r2, SqL.of ha, hv, ok_at h s rv⟩)
        · exact h.elim
      · exact h.elim
    · rename_i e0
      split at h
      · rename_i k hk
        split at h
        · rename_i d' hd
          obtain ⟨a, ps, rfl, _, ha, rk⟩ := rep_dct s r1 e0
          obtain ⟨v, hv, rv⟩ := (rk.val k).2 _ hd
          have ey := key_rep hk r2
          subst ey
          have g := DGet.k (k := k) ha
          rw [hv] at g
          exact .inl ⟨a, v, rfl, g, ok_at h s rv⟩
        · exact h.elim
      · exact h.elim
    · exact h.elim
  · exact h.elim
/-! ### slices -/
theorem SlR.imp {r r' : V → Option Int → Option Int → Hp → VK → Prop} (h : SlR X r) (i : ∀ x l u H Q, r' x l u H Q → r x l u H Q) : SlR X r' := fun pins s σ H x v vl vu lo hi sl Q I rx hs pl pu q => h pins s σ H x v vl vu lo hi sl Q I rx hs pl pu (i x lo hi H Q q)
theorem RepL.cut {ds : List D} {vs : List V} (r : RepL K mg ρ H ds vs) (lo hi : Option Int) : RepL K mg ρ H (cutD ds lo hi) (cutV vs lo hi) := by
  unfold cutD cutV
  rw [r.len]
  exact (r.drop _).take _
def LvS (K : PySem.W.Frag) (mg : Str → Option Value) : V → Option Int → Option Int → Hp → VK → Prop := fun x lo hi H Q =>
  ∃ ρ S d, Sim K mg ρ S H ∧ RepV K mg ρ H d x ∧ ∃ Z, WpG K mg (repV K mg) Z ρ H (slice d lo hi S) Q
theorem cut_all {ds : List D} {lo hi : Option Int} (h1 : HT.sIx ds.length 0 lo = 0) (h2 : HT.sIx ds.length ds.length hi = ds.length) : cutD ds lo hi = ds := by
  unfold cutD
  rw [h1, h2]
  simp
theorem sl_V : SlR X (LvS X.K X.mg) := by
  refine SlR.imp (sl_tupA.or sl_list) fun x lo hi H Q h => ?_
  obtain ⟨ρ, S, d, s, r, Z, h⟩ := h
  unfold slice at h
  split at h
  · obtain ⟨a, vs, rfl, ha, ra⟩ := rep_tup r
    refine .inl ⟨a, vs, rfl, ha, fun ⟨z1, z2⟩ => ?_, fun _ p hp => ok_tup h s (ra.cut lo hi) hp⟩
    rw [← ra.len] at z1 z2
    rw [cut_all z1 z2] at h
    exact ok_at h s r
  · obtain ⟨a, vs, rfl, ha, ra⟩ := rep_fzl r
    exact .inr ⟨a, vs, rfl, ha.sq, fun p hp => ok_lst h s (ra.cut lo hi) hp⟩
  · split at h
    · rename_i e0
      obtain ⟨a, vs, rfl, _, ha, ra⟩ := rep_lst s r e0
      exact .inr ⟨a, vs, rfl, SqL.of ha, fun p hp => ok_lst h s (ra.cut lo hi) hp⟩
    · exact h.elim
  · exact h.elim
/-! ### stores -/
def LvSet (K : PySem.W.Frag) (mg : Str → Option Value) : TSet := fun o i v H Q =>
  ∃ ρ S d e w, Sim K mg ρ S H ∧ RepV K mg ρ H d o ∧ RepV K mg ρ H e i ∧ RepV K mg ρ H w v ∧ ∃ Z, WpG K mg (repE (α := Unit)) Z ρ H (setix d e w S) (fun _ H' => Q H')
theorem PSet.imp {r r' : TSet} (h : PSet X r) (i : ∀ o i v H Q, r' o i v H Q → r o i v H Q) : PSet X r' := fun pins s σ H o j v ov iv u Q I r1 r2 r3 q => h pins s σ H o j v ov iv u Q I r1 r2 r3 (i o j v H Q q)
theorem PSet.or {r r' : TSet} (h : PSet X r) (h' : PSet X r') : PSet X (fun o i v H Q => r o i v H Q ∨ r' o i v H Q) := fun pins s σ H o j v ov iv u Q I r1 r2 r3 q => by
  rcases q with q | q
  · exact h pins s σ H o j v ov iv u Q I r1 r2 r3 q
  · exact h' pins s σ H o j v ov iv u Q I r1 r2 r3 q
def rSetDct : TSet := fun o i v H Q => ∃ a H', o = .ref a ∧ DPut H a i v H' ∧ Q H'
theorem set_dct (hu : X.A.units + 1 < cLine) : PSet X rSetDct := fun pins s σ H o i v ov iv u Q I r1 r2 r3 q => by
  obtain ⟨a, H', rfl, g, q⟩ := q
  obtain rfl : ov = Value.ref a := r1
  exact d_setItem hu I g r2 r3 fun s4 I4 => ⟨H', I4, q⟩
theorem set_V (hu : X.A.units + 100 < cLine) : PSet X (LvSet X.K X.mg) := by
  refine PSet.imp (PSet.or set_list (set_dct (by omega))) fun o i v H Q h => ?_
  obtain ⟨ρ, S, d, e, w, s, r1, r2, r3, Z, h⟩ := h
  unfold setix at h
  split at h
  · split at h
    · rename_i e0
      split at h
      · split at h
        · rename_i n hn
          obtain ⟨a, vs, rfl, hl, ha, ra⟩ := rep_lst s r1 e0
          refine .inl ⟨a, vs, _, n, rfl, r2, ha, by rw [← ra.len]; exact hn, ?_⟩
          have ex : Ext ρ H ρ (upd H a (.lst (vs.set n v))) := Ext.set (List.mem_of_getElem? hl) ha fun z => z
          exact h ρ _ () ex (s.set hl ⟨_, upd_same, (ra.set n r3).ext ex⟩) rfl
        · exact h.elim
      · exact h.elim
    · rename_i e0
      split at h
      · rename_i k hk
        split at h
        · rename_i hz
          obtain ⟨a, ps, rfl, hl, ha, rk⟩ := rep_dct s r1 e0
          have ey := key_rep hk r2
          subst ey
          have ex : Ext ρ H ρ (upd H a (.dK (putK ps k v))) := Ext.set (List.mem_of_getElem? hl) ha fun z => z
          exact .inr ⟨a, _, rfl, DPut.k ha (by rw [← rk.len]; exact hz), h ρ _ () ex (s.set hl ⟨_, upd_same, (rk.put k r3).ext ex⟩) rfl⟩
        · exact h.elim
      · exact h.elim
    · exact h.elim
  · exact h.elim
end
end Fw
/-! Fw7: repr of data, dicts in it -/
namespace Fw
open PySem PySem.Spec PyProof.Rows L2
mutual
inductive RdS (h : Heap) : Value → PyData → Prop
  | none : RdS h .none .none
  | bool (b) : RdS h (.bool b) (.bool b)
  | int (i t) : RdS h (.int i t) (.int i)
  | str (x t) : RdS h (.str x t) (.str x)
  | list {a : Addr} {o : Obj} {vs : Array Value} {n : Nat} {xs : List PyData} : h.get? a = some o → o.cls = .type "list" → o.data = .seq vs n → RdSAll h vs.toList xs → RdS h (.ref a) (.list xs)
  | tuple {a : Addr} {o : Obj} {vs : Array Value} {n : Nat} {xs : List PyData} : h.get? a = some o → o.cls = .type "tuple" → o.data = .seq vs n → RdSAll h vs.toList xs → RdS h (.ref a) (.tuple xs)
  | dict {a : Addr} {o : Obj} {es : Array DictEntry} {n : Nat} {kvs : List (PyData × PyData)} : h.get? a = some o → o.cls = .type "dict" → o.data = .dict es n → (a == sysModules) = false → RdSAll h (es.toList.map (·.key)) (kvs.map (·.1)) →
      RdSAll h (es.toList.map (·.val)) (kvs.map (·.2)) → RdS h (.ref a) (.dict kvs)
inductive RdSAll (h : Heap) : List Value → List PyData → Prop
  | nil : RdSAll h [] []
  | cons {v : Value} {vs : List Value} {d : PyData} {ds : List PyData} : RdS h v d → RdSAll h vs ds → RdSAll h (v :: vs) (d :: ds)
end
section
variable {h : Heap}
mutual
theorem RdS.reads : ∀ {v : Value} {d : PyData}, RdS h v d → ∃ as, Reads h v d as
  | _, _, .none => ⟨_, Reads.none⟩
  | _, _, .bool b => ⟨_, Reads.bool b⟩
  | _, _, .int i t => ⟨_, Reads.int i t⟩
  | _, _, .str x t => ⟨_, Reads.str x t⟩
  | _, _, .list h1 h2 h3 h4 => let ⟨_, r⟩ := RdSAll.reads h4; ⟨_, Reads.list h1 h2 h3 r⟩
  | _, _, .tuple h1 h2 h3 h4 => let ⟨_, r⟩ := RdSAll.reads h4; ⟨_, Reads.tuple h1 h2 h3 r⟩
  | _, _, .dict h1 h2 h3 _ h4 h5 => let ⟨_, r⟩ := RdSAll.reads h4; let ⟨_, r'⟩ := RdSAll.reads h5; ⟨_, Reads.dict h1 h2 h3 r r'⟩
theorem RdSAll.reads : ∀ {vs : List Value} {ds : List PyData}, RdSAll h vs ds → ∃ as, ReadsAll h vs ds as
  | _, _, .nil => ⟨_, ReadsAll.nil⟩
  | _, _, .cons r rs => let ⟨_, q⟩ := RdS.reads r; let ⟨_, q'⟩ := RdSAll.reads rs; ⟨_, ReadsAll.cons q q'⟩
end
end
section
variable {prog : Program} {w : World} {h₀ : Heap}
mutual
theorem reprK_of : ∀ {v : Value} {d : PyData}, RdS h₀ v d → d.showable = true → d.shown.length ≤ sizeLine → ∃ bs, ReadAtMost h₀ d.depth bs ∧ ReprK prog w bs h₀ d.depth v d.shown
  | _, _, .none, _, _ => ⟨[], (fun _ h => nomatch h), by simp only [PyData.shown]; exact .of_is ReprIs.none _ _ _⟩
  | _, _, .bool b, _, _ => ⟨[], (fun _ h => nomatch h), by simp only [PyData.shown]; exact .of_is (ReprIs.bool b) _ _ _⟩
  | _, _, .int i t, hs, _ => ⟨[], (fun _ h => nomatch h), by simp only [PyData.shown]; exact .of_is (ReprIs.int t (by simpa [PyData.showable] using hs)) _ _ _⟩
  | _, _, .str x t, _, hz => ⟨[], (fun _ h => nomatch h), by simp only [PyData.shown]; exact .of_is (ReprIs.str x t (by simpa only [PyData.shown] using hz)) _ _ _⟩
  | _, _, .list (a := a) (vs := vs) (xs := xs) h1 h2 h3 h4, hs, hz => by
    have hz' : (listText (PyData.shownAll xs)).length ≤ sizeLine := by simpa only [PyData.shown] using hz
    obtain ⟨bs, hb, hk⟩ := reprAllK_of h4 (by simpa [PyData.showable] using hs) (fun t ht => Nat.le_trans (listText_mem_le ht) hz')
    obtain ⟨_, r⟩ := RdS.reads (.list h1 h2 h3 h4)
    have hna : a ∉ bs := not_mem_of_deeper r (by simp only [PyData.depth]; omega) hb
    refine ⟨a :: bs, ReadAtMost.cons r (by simp only [PyData.depth]; omega) hb, ?_⟩
    simp only [PyData.depth, PyData.shown]
    obtain ⟨l⟩ := vs
    cases l with
    | nil =>
      have h4' : RdSAll h₀ [] xs := h4
      cases h4'
      simp only [PyData.shownAll, listText_nil]
      exact ReprK.listEmpty h1 h2 h3
    | cons x l => exact ReprK.list h1 h2 h3 hna (by simpa using hk.length_eq) (fun i y e => hk.item i y (by simpa using e))
  | _, _, .tuple (a := a) (xs := xs) h1 h2 h3 h4, hs, hz => by
    have hz' : (tupleText (PyData.shownAll xs)).length ≤ sizeLine := by simpa only [PyData.shown] using hz
    obtain ⟨bs, hb, hk⟩ := reprAllK_of h4 (by simpa [PyData.showable] using hs) (fun t ht => Nat.le_trans (tupleText_mem_le ht) hz')
    obtain ⟨_, r⟩ := RdS.reads (.tuple h1 h2 h3 h4)
    have hna : a ∉ bs := not_mem_of_deeper r (by simp only [PyData.depth]; omega) hb
    refine ⟨a :: bs, ReadAtMost.cons r (by simp only [PyData.depth]; omega) hb, ?_⟩
    simp only [PyData.depth, PyData.shown]
    exact ReprK.tuple h1 h2 h3 hna hk
  | _, _, .dict (a := a) (es := es) (kvs := kvs) h1 h2 h3 hsys h4 h5, hs, hz => by
    have hz' : (dictText (PyData.shownKv kvs)).length ≤ sizeLine := by simpa only [PyData.shown] using hz
    obtain ⟨hs1, hs2⟩ := PyData.showableKv_split kvs (by simpa [PyData.showable] using hs)
    obtain ⟨b1, hb1, k1⟩ := reprAllK_of h4 hs1 (fun t ht => let ⟨p, hp, hl⟩ := PyData.shownKv_key_le kvs t ht; Nat.le_trans hl (Nat.le_trans (dictText_mem_le hp) hz'))
    obtain ⟨b2, hb2, k2⟩ := reprAllK_of h5 hs2 (fun t ht => let ⟨p, hp, hl⟩ := PyData.shownKv_val_le kvs t ht; Nat.le_trans hl (Nat.le_trans (dictText_mem_le hp) hz'))
    obtain ⟨_, r⟩ := RdS.reads (.dict h1 h2 h3 hsys h4 h5)
    have hb : ReadAtMost h₀ (PyData.depthKv kvs) (b1 ++ b2) := (hb1.mono (PyData.depthAll_keys_le kvs)).append (hb2.mono (PyData.depthAll_vals_le kvs))
    have hna : a ∉ b1 ++ b2 := not_mem_of_deeper r (by simp only [PyData.depth]; omega) hb
    refine ⟨a :: (b1 ++ b2), ReadAtMost.cons r (by simp only [PyData.depth]; omega) hb, ?_⟩
    simp only [PyData.depth, PyData.shown, PyData.shownKv_eq]
    exact ReprK.dict h1 h2 h3 hsys hna (ReprEntriesK.of_two es.toList _ _
      (k1.more_le (fun b hb => List.mem_append_left _ hb) (PyData.depthAll_keys_le kvs)) (k2.more_le (fun b hb => List.mem_append_right _ hb) (PyData.depthAll_vals_le kvs)))
theorem reprAllK_of : ∀ {vs : List Value} {ds : List PyData}, RdSAll h₀ vs ds → PyData.showableAll ds = true → (∀ t ∈ PyData.shownAll ds, t.length ≤ sizeLine) →
    ∃ bs, ReadAtMost h₀ (PyData.depthAll ds) bs ∧ ReprAllK prog w bs h₀ (PyData.depthAll ds) vs (PyData.shownAll ds)
  | _, _, .nil, _, _ => ⟨[], (fun _ h => nomatch h), by simp only [PyData.shownAll]; exact .nil⟩
  | _, _, .cons (d := d) (ds := ds) r rs, hs, hz => by
    have hs' : d.showable = true ∧ PyData.showableAll ds = true := by simpa [PyData.showableAll] using hs
    obtain ⟨b1, hb1, k1⟩ := reprK_of r hs'.1 (hz _ (by simp only [PyData.shownAll]; exact List.mem_cons_self ..))
    obtain ⟨b2, hb2, k2⟩ := reprAllK_of rs hs'.2 (fun t ht => hz t (by simp only [PyData.shownAll]; exact List.mem_cons_of_mem _ ht))
    refine ⟨b1 ++ b2, ?_, ?_⟩
    · intro b hm
      simp only [PyData.depthAll]
      rcases List.mem_append.mp hm with hm | hm
      · obtain ⟨d', as', r', hd'⟩ := hb1 b hm
        exact ⟨d', as', r', Nat.le_trans hd' (Nat.le_max_left _ _)⟩
      · obtain ⟨d', as', r', hd'⟩ := hb2 b hm
        exact ⟨d', as', r', Nat.le_trans hd' (Nat.le_max_right _ _)⟩
    · simp only [PyData.depthAll, PyData.shownAll]
      exact .cons ((k1.more fun b hb => List.mem_append_left _ hb).level_le (Nat.le_max_left _ _)) (k2.more_le (fun b hb => List.mem_append_right _ hb) (Nat.le_max_right _ _))
end
variable {a : Addr} {d : PyData} {A : Around} {E : Value → Shared → Prop} {s : Shared} {Q : Value → Shared → Prop}
theorem showsBy_of (r : RdS h₀ (.ref a) d) (hs : d.showable = true) (hsz : d.shown.length ≤ sizeLine) : ∃ T idr, ShowsBy prog w h₀ a d T idr := by
  cases r with
  | list h1 h2 h3 h4 =>
    rename_i o vs n xs
    have hz' : (listText (PyData.shownAll xs)).length ≤ sizeLine := by simpa only [PyData.shown] using hsz
    obtain ⟨bs, hb, hk⟩ := reprAllK_of (prog := prog) (w := w) h4 (by simpa [PyData.showable] using hs) (fun t ht => Nat.le_trans (listText_mem_le ht) hz')
    obtain ⟨_, r⟩ := RdS.reads (.list h1 h2 h3 h4)
    have hna : a ∉ bs := not_mem_of_deeper r (by simp only [PyData.depth]; omega) hb
    refine ⟨"list", "list.__repr__", F.slot_list_repr.toG, F.slot_list_str, F.slot_list_format, fun s hk0 => ⟨o, hk0 _ _ h1, h2⟩, fun A E s Q hg hu hk0 hQ => ?_⟩
    simp only [PyData.depth] at hu
    simp only [PyData.shown] at hQ
    obtain ⟨l⟩ := vs
    cases l with
    | nil =>
      have h4' : RdSAll h₀ [] xs := h4
      cases h4'
      simp only [PyData.shownAll, listText_nil] at hQ
      exact call_list_repr_empty ⟨o, hk0 _ _ h1, h2⟩ (hk0 _ _ h1) h3 (hQ s.heap _ _ fun _ _ e => e)
    | cons x l =>
      exact call_list_reprK h1 h2 h3 hna (by simpa using hk.length_eq) (fun i y e => hk.item i y (by simpa using e)) hg (fun b _ => Clear.nil b) hu hk0 hQ hz'
  | tuple h1 h2 h3 h4 =>
    rename_i o vs n xs
    have hz' : (tupleText (PyData.shownAll xs)).length ≤ sizeLine := by simpa only [PyData.shown] using hsz
    obtain ⟨bs, hb, hk⟩ := reprAllK_of (prog := prog) (w := w) h4 (by simpa [PyData.showable] using hs) (fun t ht => Nat.le_trans (tupleText_mem_le ht) hz')
    obtain ⟨_, r⟩ := RdS.reads (.tuple h1 h2 h3 h4)
    have hna : a ∉ bs := not_mem_of_deeper r (by simp only [PyData.depth]; omega) hb
    refine ⟨"tuple", "tuple.__repr__", F.slot_tuple_repr, F.slot_tuple_str, F.slot_tuple_format, fun s hk0 => ⟨o, hk0 _ _ h1, h2⟩, fun A E s Q hg hu hk0 hQ => ?_⟩
    simp only [PyData.depth] at hu
    simp only [PyData.shown] at hQ
    exact call_tuple_reprK h1 h2 h3 hna hk hg (fun b _ => Clear.nil b) hu hk0 hQ hz'
  | dict h1 h2 h3 hsys h4 h5 =>
    rename_i o es n kvs
    have hz' : (dictText (PyData.shownKv kvs)).length ≤ sizeLine := by simpa only [PyData.shown] using hsz
    obtain ⟨hs1, hs2⟩ := PyData.showableKv_split kvs (by simpa [PyData.showable] using hs)
    obtain ⟨b1, hb1, k1⟩ := reprAllK_of (prog := prog) (w := w) h4 hs1 (fun t ht => let ⟨p, hp, hl⟩ := PyData.shownKv_key_le kvs t ht; Nat.le_trans hl (Nat.le_trans (dictText_mem_le hp) hz'))
    obtain ⟨b2, hb2, k2⟩ := reprAllK_of (prog := prog) (w := w) h5 hs2 (fun t ht => let ⟨p, hp, hl⟩ := PyData.shownKv_val_le kvs t ht; Nat.le_trans hl (Nat.le_trans (dictText_mem_le hp) hz'))
    have hb : ReadAtMost h₀ (PyData.depthKv kvs) (b1 ++ b2) := (hb1.mono (PyData.depthAll_keys_le kvs)).append (hb2.mono (PyData.depthAll_vals_le kvs))
    obtain ⟨_, r⟩ := RdS.reads (.dict h1 h2 h3 hsys h4 h5)
    have hna : a ∉ b1 ++ b2 := not_mem_of_deeper r (by simp only [PyData.depth]; omega) hb
    refine ⟨"dict", "dict.__repr__", F.slot_dict_repr, F.slot_dict_str, F.slot_dict_format, fun s hk0 => ⟨o, hk0 _ _ h1, h2⟩, fun A E s Q hg hu hk0 hQ => ?_⟩
    simp only [PyData.depth] at hu
    simp only [PyData.shown, PyData.shownKv_eq] at hQ
    exact call_dict_reprK h1 h2 h3 hsys hna (ReprEntriesK.of_two es.toList _ _
      (k1.more_le (fun b hb => List.mem_append_left _ hb) (PyData.depthAll_keys_le kvs)) (k2.more_le (fun b hb => List.mem_append_right _ hb) (PyData.depthAll_vals_le kvs))) hg (fun b _ => Clear.nil b) hu hk0 hQ (by rw [← PyData.shownKv_eq]; exact hz')
theorem repr_ref (r : RdS h₀ (.ref a) d) (hs : d.showable = true) (hg : A.guards = some []) (hu : A.units + (d.depth + 1) < cLine) (hk0 : ∀ b o, h₀.get? b = some o → s.heap.get? b = some o)
    (hQ : ∀ h' u tk, (∀ b o, s.heap.get? b = some o → h'.get? b = some o) → Q (.str d.shown u) { s with heap := h', toks := tk })
    (hsz : d.shown.length ≤ sizeLine) : wpAny (model prog w) A (call (.builtin "repr") [.ref a]) Q E s := by
  obtain ⟨T, idr, S⟩ := showsBy_of (prog := prog) (w := w) r hs hsz
  exact call_repr_slot (by omega) (S.typeIs s hk0) S.slotRepr (S.call A.in1 E s _ hg (by show A.units + 1 + d.depth < cLine; omega) hk0 fun h' u tk hk => ⟨_, _, rfl, hQ h' u tk hk⟩)
end
/-! ### what a D is -/
section
variable {X : Cx} {pins : List (Addr × Obj)} {σ : L2.St} {ρ : List Addr} {H : Hp} {S : Store} {s : Shared}
theorem rds_all {n : Nat} (ih : ∀ (d : D) (p : PyData) (v : V) (u : Value), deep S n d = some p → RepV X.K X.mg ρ H d v → RelV v u → RdS s.heap u p) :
    ∀ (ds : List D) (ps : List PyData) (vs : List V) (us : List Value), optAll (ds.map (deep S n)) = some ps → RepL X.K X.mg ρ H ds vs → Vals vs us → RdSAll s.heap us ps
  | [], ps, vs, us, h, r, q => by
    simp [optAll] at h
    subst h
    simp only [RepL] at r
    subst r
    cases q
    exact .nil
  | d :: ds, ps, vs, us, h, r, q => by
    simp only [List.map_cons] at h
    obtain ⟨x, t, e1, e2, rfl⟩ := optAll_cons h
    simp only [RepL] at r
    obtain ⟨v, w, rfl, r1, r2⟩ := r
    cases q with
    | cons q1 q2 => exact .cons (ih d x v _ e1 r1 q1) (rds_all ih ds t w _ e2 r2 q2)
theorem rds_key {P : Program} {w : World} {h : Heap} {k : Key} {v : Value} (e : (mixKind P w).is k v = true) : RdS h v (keyP k) := by
  rcases keyIs_shape (show keyIs k v = true from e) with ⟨i, t, rfl, rfl⟩ | ⟨x, t, rfl, rfl⟩
  · exact .int i t
  · exact .str x t
theorem pairs_keys {P : Program} {w : World} {kvs : List (Key × D)} {ps : List (Key × V)} {vs : List (Key × Value)} {es : List DictEntry} {qs : List (PyData × PyData)} {f : D → Option PyData}
    (ih : ∀ (d : D) (p : PyData) (v : V) (u : Value), f d = some p → RepV X.K X.mg ρ H d v → RelV v u → RdS s.heap u p)
    (h : optAll (kvs.map fun p => (f p.2).map fun d => (keyP p.1, d)) = some qs) (rk : RepK X.K X.mg ρ H kvs ps) (kv : KV ps vs) (hp : Pairs (mixKind P w) es vs) :
    RdSAll s.heap (es.map (·.key)) (qs.map (·.1)) ∧ RdSAll s.heap (es.map (·.val)) (qs.map (·.2)) := by
  induction kvs generalizing ps vs es qs with
  | nil =>
    simp [optAll] at h
    subst h
    simp only [RepK] at rk
    subst rk
    cases kv
    cases hp
    exact ⟨.nil, .nil⟩
  | cons p r ihl =>
    simp only [List.map_cons] at h
    obtain ⟨x, t, e1, e2, rfl⟩ := optAll_cons h
    simp only [Option.map_eq_some_iff] at e1
    obtain ⟨d, e1, rfl⟩ := e1
    obtain ⟨v, q, rfl, r1, r2⟩ := rk
    cases kv with
    | cons k1 k2 =>
      obtain ⟨ka, kb⟩ := k1
      cases hp with
      | cons h1 h2 h3 =>
        obtain ⟨i1, i2⟩ := ihl e2 r2 k2 h3
        refine ⟨.cons ?_ i1, .cons ?_ i2⟩
        · rw [← ka] at h1
          exact rds_key h1
        · show RdS s.heap _ d
          have z := ih p.2 d v _ e1 r1 kb
          rw [← h2] at z
          exact z
theorem rds_of (I : Inv X pins σ H s) (sm : Sim X.K X.mg ρ S H) : ∀ (n : Nat) (d : D) (p : PyData) (v : V) (u : Value), deep S n d = some p → RepV X.K X.mg ρ H d v → RelV v u → RdS s.heap u p := by
  intro n
  induction n with
  | zero =>
    intro d p v u h r q
    cases d <;> simp only [deep, Option.some.injEq, reduceCtorEq] at h <;> subst h <;> simp only [RepV] at r <;> subst r
    · cases q; exact .none
    · cases q; exact .bool _
    · obtain ⟨t, rfl⟩ := q; exact .int _ t
    · obtain ⟨t, rfl⟩ := q; exact .str _ t
  | succ n ih =>
    intro d p v u h r q
    cases d with
    | non => simp only [deep, Option.some.injEq] at h; subst h; simp only [RepV] at r; subst r; cases q; exact .none
    | bl _ => simp only [deep, Option.some.injEq] at h; subst h; simp only [RepV] at r; subst r; cases q; exact .bool _
    | int _ => simp only [deep, Option.some.injEq] at h; subst h; simp only [RepV] at r; subst r; obtain ⟨t, rfl⟩ := q; exact .int _ t
    | str _ => simp only [deep, Option.some.injEq] at h; subst h; simp only [RepV] at r; subst r; obtain ⟨t, rfl⟩ := q; exact .str _ t
    | tup ds =>
      simp only [deep, Option.map_eq_some_iff] at h
      obtain ⟨ps, h, rfl⟩ := h
      obtain ⟨a, vs, rfl, ha, ra⟩ := rep_tup r
      cases q
      obtain ⟨its, rv, ⟨o, ho, hc, m, hd⟩, _⟩ := I.tuple ha
      exact .tuple ho hc hd (rds_all ih ds ps vs its h ra rv)
    | loc l =>
      simp only [deep] at h
      split at h
      · rename_i ds e
        simp only [Option.map_eq_some_iff] at h
        obtain ⟨ps, h, rfl⟩ := h
        obtain ⟨a, vs, rfl, _, ha, ra⟩ := rep_lst sm r e
        cases q
        obtain ⟨its, rv, ⟨o, m, ho, hc, _, hd⟩, _⟩ := I.list (SqL.of ha)
        exact .list ho hc hd (rds_all ih ds ps vs its h ra rv)
      · rename_i kvs e
        simp only [Option.map_eq_some_iff] at h
        obtain ⟨ps, h, rfl⟩ := h
        obtain ⟨a, vs, rfl, _, ha, rk⟩ := rep_dct sm r e
        cases q
        obtain ⟨_, hsys, ws, kv, o, es, ep, ho, he, hd, _, hp, _⟩ := dk_of I.hok ha
        obtain ⟨i1, i2⟩ := pairs_keys ih h rk kv hp
        exact .dict ho he.1 hd hsys i1 i2
      · cases h
    | fzl _ => simp [deep] at h
    | glob _ => simp [deep] at h
    | ty _ => simp [deep] at h
/-- repr -/
theorem call_reprC (hg : X.A.guards = some []) (hu : X.A.units + 200 < cLine) : CallR X (.builtin "repr") (LvL X.K X.mg reprC) := by
  intro pins s σ H xs us Q I r h
  obtain ⟨ρ, S, ds, sm, rl, Z, h⟩ := h
  unfold reprC at h
  split at h
  · rename_i d
    split at h
    · rename_i p e
      split at h
      · rename_i hc
        simp only [Bool.and_eq_true, decide_eq_true_eq, lineOk] at hc
        obtain ⟨⟨h1, h2⟩, h3⟩ := hc
        simp only [RepL] at rl
        obtain ⟨v, _, rfl, rv, rfl⟩ := rl
        obtain ⟨u, rfl, ru⟩ := vals1 r
        have rd := rds_of I sm _ d p v u e rv ru
        have q : Q (.str p.shown) H := ok_at h sm (by rfl)
        cases rd with
        | none => exact PySem.P.repr_of_none ⟨.str _, H, I.tok _, ⟨_, rfl⟩, by simpa only [PyData.shown] using q⟩
        | bool b => exact PySem.P.repr_of_bool ⟨.str _, H, I.tok _, ⟨_, rfl⟩, by simpa only [PyData.shown] using q⟩
        | int i t => exact PySem.P.repr_of_int (by simpa [PyData.showable] using h1) ⟨.str _, H, I.tok _, ⟨_, rfl⟩, by simpa only [PyData.shown] using q⟩
        | str x t => exact PySem.P.repr_of_str ⟨.str _, H, I.tok _, ⟨_, rfl⟩, by simpa only [PyData.shown] using q⟩ (by simpa only [PyData.shown] using h2)
        | list a1 a2 a3 a4 => exact repr_ref (.list a1 a2 a3 a4) h1 hg (by omega) (fun _ _ e => e) (fun h' u tk hk => ⟨.str _, H, I.kept hk, ⟨_, rfl⟩, q⟩) h2
        | tuple a1 a2 a3 a4 => exact repr_ref (.tuple a1 a2 a3 a4) h1 hg (by omega) (fun _ _ e => e) (fun h' u tk hk => ⟨.str _, H, I.kept hk, ⟨_, rfl⟩, q⟩) h2
        | dict a1 a2 a3 a4 a5 a6 => exact repr_ref (.dict a1 a2 a3 a4 a5 a6) h1 hg (by omega) (fun _ _ e => e) (fun h' u tk hk => ⟨.str _, H, I.kept hk, ⟨_, rfl⟩, q⟩) h2
      · exact h.elim
    · exact h.elim
  · exact h.elim
end
end Fw
/-! Fw8: built-ins and methods by values -/
namespace Fw
open PySem PySem.Spec PyProof.Rows L2
section
variable {X : Cx} {K : PySem.W.Frag} {mg : Str → Option Value} {ρ : List Addr} {H : Hp} {S : Store} {Z : XK}
theorem repl1 {d : D} {vs : List V} (r : RepL K mg ρ H [d] vs) : ∃ v, vs = [v] ∧ RepV K mg ρ H d v := by
  simp only [RepL] at r
  obtain ⟨v, _, rfl, h, rfl⟩ := r
  exact ⟨v, rfl, h⟩
theorem repl2 {d e : D} {vs : List V} (r : RepL K mg ρ H [d, e] vs) : ∃ v w, vs = [v, w] ∧ RepV K mg ρ H d v ∧ RepV K mg ρ H e w := by
  simp only [RepL] at r
  obtain ⟨v, _, rfl, h, w, _, rfl, h', rfl⟩ := r
  exact ⟨v, w, rfl, h, h'⟩
theorem rep_one {d : D} {v : V} (h : RepV K mg ρ H d v) : RepL K mg ρ H [d] [v] := by
  simp only [RepL]
  exact ⟨v, [], rfl, h, rfl⟩
theorem call_lenC : CallR X (.builtin "len") (LvL X.K X.mg lenC) := by
  refine CallR.imp (call_len.or call_lenD) fun xs H Q h => ?_
  obtain ⟨ρ, S, ds, s, r, Z, h⟩ := h
  unfold lenC at h
  split at h
  · split at h
    · rename_i hz
      obtain ⟨v, rfl, rv⟩ := repl1 r
      cases (show v = _ from rv)
      exact .inl ⟨_, _, rfl, ⟨hz, rfl⟩, ok_at h s (by rfl)⟩
    · exact h.elim
  · obtain ⟨v, rfl, rv⟩ := repl1 r
    obtain ⟨a, vs, rfl, ha, ra⟩ := rep_tup rv
    exact .inl ⟨_, _, rfl, .inr ⟨vs, ha, rfl⟩, by rw [← ra.len]; exact ok_at h s (by rfl)⟩
  · obtain ⟨v, rfl, rv⟩ := repl1 r
    obtain ⟨a, vs, rfl, ha, ra⟩ := rep_fzl rv
    exact .inl ⟨_, _, rfl, .inl ⟨vs, ha.sq, rfl⟩, by rw [← ra.len]; exact ok_at h s (by rfl)⟩
  · split at h
    · rename_i e0
      obtain ⟨v, rfl, rv⟩ := repl1 r
      obtain ⟨a, vs, rfl, _, ha, ra⟩ := rep_lst s rv e0
      exact .inl ⟨_, _, rfl, .inl ⟨vs, SqL.of ha, rfl⟩, by rw [← ra.len]; exact ok_at h s (by rfl)⟩
    · rename_i e0
      obtain ⟨v, rfl, rv⟩ := repl1 r
      obtain ⟨a, vs, rfl, _, ha, ra⟩ := rep_dct s rv e0
      exact .inr ⟨a, vs, rfl, ha, by rw [← ra.len]; exact ok_at h s (by rfl)⟩
    · exact h.elim
  · exact h.elim
theorem call_intC : CallR X (.type "int") (LvL X.K X.mg intC) := by
  refine CallR.imp call_int1 fun xs H Q h => ?_
  obtain ⟨ρ, S, ds, s, r, Z, h⟩ := h
  unfold intC at h
  split at h
  · obtain ⟨v, rfl, rv⟩ := repl1 r
    cases (show v = _ from rv)
    exact .inl ⟨_, rfl, ok_at h s (by rfl)⟩
  · obtain ⟨v, rfl, rv⟩ := repl1 r
    cases (show v = _ from rv)
    exact .inr ⟨_, rfl, ok_at h s (by rfl)⟩
  · exact h.elim
theorem seqOf_rep {d : D} {ds : List D} {v : V} (s : Sim K mg ρ S H) (h : seqOf S d = some ds) (r : RepV K mg ρ H d v) : ∃ a vs, v = .ref a ∧ (SqL K H a vs ∨ SqT K H a vs) ∧ RepL K mg ρ H ds vs := by
  unfold seqOf at h
  split at h
  · cases h
    obtain ⟨a, vs, rfl, ha, ra⟩ := rep_tup r
    exact ⟨a, vs, rfl, .inr ha, ra⟩
  · cases h
    obtain ⟨a, vs, rfl, ha, ra⟩ := rep_fzl r
    exact ⟨a, vs, rfl, .inl ha.sq, ra⟩
  · split at h
    · rename_i e0
      cases h
      obtain ⟨a, vs, rfl, _, ha, ra⟩ := rep_lst s r e0
      exact ⟨a, vs, rfl, .inl (SqL.of ha), ra⟩
    · cases h
  · cases h
theorem call_listC : CallR X (.type "list") (LvL X.K X.mg listC) := by
  refine CallR.imp call_list_of fun xs H Q h => ?_
  obtain ⟨ρ, S, ds, s, r, Z, h⟩ := h
  unfold listC at h
  split at h
  · split at h
    · rename_i e0
      obtain ⟨v, rfl, rv⟩ := repl1 r
      obtain ⟨a, vs, rfl, ha, ra⟩ := seqOf_rep s e0 rv
      exact ⟨a, vs, rfl, ha, fun l hl => ok_lst h s ra hl⟩
    · exact h.elim
  · exact h.elim
theorem call_tupleC : CallR X (.type "tuple") (LvL X.K X.mg tupleC) := by
  refine CallR.imp call_tuple_of fun xs H Q h => ?_
  obtain ⟨ρ, S, ds, s, r, Z, h⟩ := h
  unfold tupleC at h
  split at h
  · obtain ⟨v, rfl, rv⟩ := repl1 r
    obtain ⟨a, vs, rfl, ha, ra⟩ := rep_tup rv
    exact ⟨a, vs, rfl, .inr ⟨ha, ok_at h s rv⟩⟩
  · split at h
    · rename_i e0
      obtain ⟨v, rfl, rv⟩ := repl1 r
      obtain ⟨a, vs, rfl, _, ha, ra⟩ := rep_lst s rv e0
      exact ⟨a, vs, rfl, .inl ⟨SqL.of ha, fun l hl => ok_tup h s ra hl⟩⟩
    · exact h.elim
  · exact h.elim
theorem ints_rep {ds : List D} {is : List Int} {vs : List V} (h : allInts ds = some is) (r : RepL K mg ρ H ds vs) : vs = is.map V.int := by
  induction ds generalizing is vs with
  | nil => simp [allInts] at h; subst h; simp only [RepL] at r; exact r
  | cons d ds ih =>
    simp only [RepL] at r
    obtain ⟨v, w, rfl, r1, r2⟩ := r
    cases d <;> simp only [allInts, Option.map_eq_some_iff, reduceCtorEq] at h
    obtain ⟨t, h, rfl⟩ := h
    rw [ih h r2]
    cases (show v = _ from r1)
    rfl
theorem bls_rep {ds : List D} {is : List Bool} {vs : List V} (h : allBls ds = some is) (r : RepL K mg ρ H ds vs) : vs = is.map V.bl := by
  induction ds generalizing is vs with
  | nil => simp [allBls] at h; subst h; simp only [RepL] at r; exact r
  | cons d ds ih =>
    simp only [RepL] at r
    obtain ⟨v, w, rfl, r1, r2⟩ := r
    cases d <;> simp only [allBls, Option.map_eq_some_iff, reduceCtorEq] at h
    obtain ⟨t, h, rfl⟩ := h
    rw [ih h r2]
    cases (show v = _ from r1)
    rfl
theorem strs_rep {ds : List D} {is : List Str} {vs : List V} (h : allStrs ds = some is) (r : RepL K mg ρ H ds vs) : vs = is.map V.str := by
  induction ds generalizing is vs with
  | nil => simp [allStrs] at h; subst h; simp only [RepL] at r; exact r
  | cons d ds ih =>
    simp only [RepL] at r
    obtain ⟨v, w, rfl, r1, r2⟩ := r
    cases d <;> simp only [allStrs, Option.map_eq_some_iff, reduceCtorEq] at h
    obtain ⟨t, h, rfl⟩ := h
    rw [ih h r2]
    cases (show v = _ from r1)
    rfl
theorem rep_strs : ∀ (ss : List Str), RepL K mg ρ H (ss.map D.str) (ss.map V.str)
  | [] => rfl
  | s :: ss => ⟨.str s, _, rfl, rfl, rep_strs ss⟩
theorem call_sumC (hc : X.calm = true) : CallR X (.builtin "sum") (LvL X.K X.mg sumC) := by
  refine CallR.imp (cr_sum hc) fun xs H Q h => ?_
  obtain ⟨ρ, S, ds, s, r, Z, h⟩ := h
  unfold sumC at h
  split at h
  · split at h
    · rename_i e0
      split at h
      · rename_i e1
        obtain ⟨v, rfl, rv⟩ := repl1 r
        obtain ⟨a, vs, rfl, _, ha, ra⟩ := rep_lst s rv e0
        have e := ints_rep e1 ra
        subst e
        exact ⟨a, _, rfl, SqL.of ha, ok_at h s (by rfl)⟩
      · exact h.elim
    · exact h.elim
  · exact h.elim
theorem maxI_le : ∀ (l : List Int) (m : Int), m ≤ maxI m l ∧ (∀ y ∈ l, y ≤ maxI m l) ∧ (maxI m l = m ∨ maxI m l ∈ l)
  | [], m => ⟨Int.le_refl _, fun _ h => (nomatch h), .inl rfl⟩
  | x :: r, m => by
    have ih := maxI_le r (if x > m then x else m)
    obtain ⟨h1, h2, h3⟩ := ih
    have g1 : m ≤ (if x > m then x else m) := by split <;> omega
    have g2 : x ≤ (if x > m then x else m) := by split <;> omega
    refine ⟨?_, fun y hy => ?_, ?_⟩
    · show m ≤ maxI (if x > m then x else m) r
      exact Int.le_trans g1 h1
    · show y ≤ maxI (if x > m then x else m) r
      rcases List.mem_cons.mp hy with rfl | hy
      · exact Int.le_trans g2 h1
      · exact h2 y hy
    · show maxI (if x > m then x else m) r = m ∨ maxI (if x > m then x else m) r ∈ x :: r
      rcases h3 with h3 | h3
      · by_cases c : x > m
        · rw [if_pos c] at h3 ⊢
          exact .inr (by rw [h3]; exact List.mem_cons_self ..)
        · rw [if_neg c] at h3 ⊢
          exact .inl h3
      · exact .inr (List.mem_cons_of_mem _ h3)
theorem call_maxC (hc : X.calm = true) : CallR X (.builtin "max") (LvL X.K X.mg maxC) := by
  refine CallR.imp (cr_max hc) fun xs H Q h => ?_
  obtain ⟨ρ, S, ds, s, r, Z, h⟩ := h
  unfold maxC at h
  split at h
  · split at h
    · rename_i e0
      split at h
      · rename_i i is e1
        obtain ⟨v, rfl, rv⟩ := repl1 r
        obtain ⟨a, vs, rfl, _, ha, ra⟩ := rep_lst s rv e0
        have e := ints_rep e1 ra
        subst e
        have q : Q (.int (maxI i is)) H := ok_at h s (by rfl)
        refine ⟨a, _, rfl, SqL.of ha, Nat.succ_pos _, fun m hm hl => ?_⟩
        obtain ⟨g1, g2, g3⟩ := maxI_le is i
        have g4 : maxI i is ∈ i :: is := by
          rcases g3 with g3 | g3
          · rw [g3]; exact List.mem_cons_self ..
          · exact List.mem_cons_of_mem _ g3
        have a1 := hl _ g4
        have a2 : m ≤ maxI i is := by
          rcases List.mem_cons.mp hm with rfl | hm
          · exact g1
          · exact g2 m hm
        have : m = maxI i is := by omega
        rw [this]; exact q
      · exact h.elim
    · exact h.elim
  · exact h.elim
theorem call_allC (hc : X.calm = true) : CallR X (.builtin "all") (LvL X.K X.mg allC) := by
  refine CallR.imp (cr_all hc) fun xs H Q h => ?_
  obtain ⟨ρ, S, ds, s, r, Z, h⟩ := h
  unfold allC at h
  split at h
  · split at h
    · rename_i e0
      split at h
      · rename_i e1
        obtain ⟨v, rfl, rv⟩ := repl1 r
        obtain ⟨a, vs, rfl, _, ha, ra⟩ := rep_lst s rv e0
        have e := bls_rep e1 ra
        subst e
        exact ⟨a, _, rfl, SqL.of ha, ok_at h s (by rfl)⟩
      · exact h.elim
    · exact h.elim
  · exact h.elim
theorem call_anyC (hc : X.calm = true) : CallR X (.builtin "any") (LvL X.K X.mg anyC) := by
  refine CallR.imp (cr_any hc) fun xs H Q h => ?_
  obtain ⟨ρ, S, ds, s, r, Z, h⟩ := h
  unfold anyC at h
  split at h
  · split at h
    · rename_i e0
      split at h
      · rename_i e1
        obtain ⟨v, rfl, rv⟩ := repl1 r
        obtain ⟨a, vs, rfl, _, ha, ra⟩ := rep_lst s rv e0
        have e := bls_rep e1 ra
        subst e
        exact ⟨a, _, rfl, SqL.of ha, ok_at h s (by rfl)⟩
      · exact h.elim
    · exact h.elim
  · exact h.elim
/-! ### sorted texts -/
theorem ltCps_irrefl : ∀ l : List Nat, Spec.ltCps l l = false
  | [] => rfl
  | a :: l => by simp [Spec.ltCps, ltCps_irrefl l]
theorem ltCps_trans : ∀ a b c : List Nat, Spec.ltCps a b = true → Spec.ltCps b c = true → Spec.ltCps a c = true
  | [], [], _, h, _ => by simp [Spec.ltCps] at h
  | [], _ :: _, [], _, h => by simp [Spec.ltCps] at h
  | [], _ :: _, _ :: _, _, _ => by simp [Spec.ltCps]
  | _ :: _, [], _, h, _ => by simp [Spec.ltCps] at h
  | _ :: _, _ :: _, [], _, h => by simp [Spec.ltCps] at h
  | a :: l, b :: m, c :: n, h1, h2 => by
    simp only [Spec.ltCps, Bool.or_eq_true, decide_eq_true_eq, Bool.and_eq_true, beq_iff_eq] at h1 h2 ⊢
    rcases h1 with h1 | ⟨h1, h1'⟩ <;> rcases h2 with h2 | ⟨h2, h2'⟩
    · exact .inl (by omega)
    · exact .inl (by omega)
    · exact .inl (by omega)
    · exact .inr ⟨by omega, ltCps_trans l m n h1' h2'⟩
theorem ltCps_total : ∀ a b : List Nat, Spec.ltCps a b = false → Spec.ltCps b a = false → a = b
  | [], [], _, _ => rfl
  | [], _ :: _, h, _ => by simp [Spec.ltCps] at h
  | _ :: _, [], _, h => by simp [Spec.ltCps] at h
  | a :: l, b :: m, h1, h2 => by
    simp only [Spec.ltCps, Bool.or_eq_false_iff, decide_eq_false_iff_not, Bool.and_eq_false_iff, beq_eq_false_iff_ne] at h1 h2
    have e : a = b := by omega
    subst e
    rw [ltCps_total l m (by rcases h1.2 with z | z; exact absurd rfl z; exact z) (by rcases h2.2 with z | z; exact absurd rfl z; exact z)]
theorem strLt_total {a b : Str} (h1 : strLt a b = false) (h2 : strLt b a = false) : a = b := by
  have e := ltCps_total _ _ h1 h2
  cases a; cases b
  exact congrArg Str.mk (Array.toList_inj.mp e)
def risesS : List Str → Prop := List.Pairwise fun a b => strLt b a = false
theorem strLt_le_trans {a b c : Str} (h1 : strLt b a = false) (h2 : strLt c b = false) : strLt c a = false := by
  cases e : strLt c a with
  | false => rfl
  | true =>
    by_cases q : a = b
    · subst q; rw [e] at h2; cases h2
    · have : strLt a b = true := by
        cases z : strLt a b with
        | true => rfl
        | false => exact absurd (strLt_total z h1) q
      have := ltCps_trans _ _ _ e this
      rw [show strLt c b = true from this] at h2
      cases h2
theorem rises_of : ∀ {l : List Str}, sortedS l = true → risesS l
  | [], _ => List.Pairwise.nil
  | [a], _ => List.pairwise_singleton _ _
  | a :: b :: l, h => by
    simp only [sortedS, risingS, Bool.and_eq_true, Bool.not_eq_true'] at h
    have ih : risesS (b :: l) := rises_of (by simp only [sortedS]; exact h.2)
    refine List.pairwise_cons.mpr ⟨fun c hc => ?_, ih⟩
    rcases List.mem_cons.mp hc with rfl | hc
    · exact h.1
    · exact strLt_le_trans h.1 ((List.pairwise_cons.mp ih).1 c hc)
theorem insStr_perm (a : Str) : ∀ l : List Str, (insStr a l).Perm (a :: l)
  | [] => .refl _
  | b :: l => by
    unfold insStr
    split
    · exact (List.Perm.cons b (insStr_perm a l)).trans (.swap ..)
    · exact .refl _
theorem sortStr_perm : ∀ l : List Str, (sortStr l).Perm l
  | [] => .refl _
  | a :: l => (insStr_perm a _).trans (List.Perm.cons a (sortStr_perm l))
theorem insStr_rises (a : Str) : ∀ {l : List Str}, risesS l → risesS (insStr a l)
  | [], _ => List.pairwise_singleton _ _
  | b :: l, h => by
    obtain ⟨h1, h2⟩ := List.pairwise_cons.mp h
    unfold insStr
    split
    · rename_i c
      refine List.pairwise_cons.mpr ⟨fun y hy => ?_, insStr_rises a h2⟩
      have hy' := (insStr_perm a l).mem_iff.mp hy
      rcases List.mem_cons.mp hy' with rfl | hy'
      · cases e : strLt y b with
        | false => rfl
        | true =>
          have := ltCps_trans _ _ _ e c
          rw [ltCps_irrefl] at this; cases this
      · exact h1 y hy'
    · rename_i c
      have c : strLt b a = false := by simpa using c
      refine List.pairwise_cons.mpr ⟨fun y hy => ?_, h⟩
      rcases List.mem_cons.mp hy with rfl | hy
      · exact c
      · exact strLt_le_trans c (h1 y hy)
theorem sortStr_rises : ∀ l : List Str, risesS (sortStr l)
  | [] => List.Pairwise.nil
  | a :: l => insStr_rises a (sortStr_rises l)
theorem rises_unique {l m : List Str} (p : l.Perm m) (hl : risesS l) (hm : risesS m) : l = m :=
  List.Perm.eq_of_pairwise (fun a b _ _ h1 h2 => strLt_total h2 h1) hl hm p
theorem strKeys_rep {kvs : List (Key × D)} {ss : List Str} {ps : List (Key × V)} (h : strKeys kvs = some ss) (r : RepK K mg ρ H kvs ps) : ps.map (·.1) = ss.map Sum.inr := by
  induction kvs generalizing ss ps with
  | nil => simp [strKeys] at h; subst h; simp only [RepK] at r; subst r; rfl
  | cons p kvs ih =>
    obtain ⟨v, q, rfl, r1, r2⟩ := r
    obtain ⟨k, d⟩ := p
    cases k <;> simp only [strKeys, Option.map_eq_some_iff, reduceCtorEq] at h
    obtain ⟨t, h, rfl⟩ := h
    simp [ih h r2]
theorem call_sortedC (hc : X.calm = true) : CallR X (.builtin "sorted") (LvL X.K X.mg sortedC) := by
  refine CallR.imp (cr_sortedS.or (call_sortedD hc)) fun xs H Q h => ?_
  obtain ⟨ρ, S, ds, s, r, Z, h⟩ := h
  unfold sortedC at h
  split at h
  · split at h
    · rename_i e0
      split at h
      · rename_i ss e1
        split at h
        · rename_i h64
          obtain ⟨v, rfl, rv⟩ := repl1 r
          obtain ⟨a, vs, rfl, _, ha, ra⟩ := rep_lst s rv e0
          have e := strs_rep e1 ra
          subst e
          refine .inl ⟨a, ss, rfl, SqL.of ha, h64, fun ys p hp hs hn => ?_⟩
          have e := rises_unique (hp.trans (sortStr_perm ss).symm) (rises_of hs) (sortStr_rises ss)
          subst e
          exact ok_lst h s (rep_strs _) hn
        · exact h.elim
      · exact h.elim
    · rename_i e0
      split at h
      · rename_i ss e1
        split at h
        · rename_i h64
          obtain ⟨v, rfl, rv⟩ := repl1 r
          obtain ⟨a, ps, rfl, _, ha, rk⟩ := rep_dct s rv e0
          refine .inr ⟨a, ps, ss, rfl, .inl ha, strKeys_rep e1 rk, h64, fun ys p hp hs hn => ?_⟩
          have e := rises_unique (hp.trans (sortStr_perm ss).symm) (rises_of hs) (sortStr_rises ss)
          subst e
          exact ok_lst h s (rep_strs _) hn
        · exact h.elim
      · exact h.elim
    · exact h.elim
  · exact h.elim
theorem call_bi (hc : X.calm = true) (hg : X.A.guards = some []) (hu : X.A.units + 200 < cLine) (b : Bi) : CallR X b.val (LvL X.K X.mg (bicall b)) := by
  have no : ∀ v, CallR X v (LvL X.K X.mg fun _ => M.bad) := fun v pins s σ H xs us Q I r ⟨_, _, _, _, _, _, h⟩ => h.elim
  cases b <;> first | exact call_lenC | exact call_intC | exact call_listC | exact call_tupleC | exact call_reprC hg hu | exact call_sumC hc | exact call_maxC hc | exact call_allC hc | exact call_anyC hc | exact call_sortedC hc | exact no _
/-! ### methods -/
def Mt.ty : Mt → String
  | .append => "list" | .extend => "list" | .pop => "list" | .get => "dict" | .items => "dict" | .values => "dict" | .keys => "dict" | .join => "str"
def Mt.id : Mt → String
  | .append => "list.append" | .extend => "list.extend" | .pop => "list.pop" | .get => "dict.get" | .items => "dict.items" | .values => "dict.values" | .keys => "dict.keys" | .join => "str.join"
theorem mt_appendC : MtR X "list.append" (LvM X.K X.mg appendC) := by
  refine MtR.imp (show MtR X "list.append" rAppend from mt_append) fun x xs H Q h => ?_
  obtain ⟨ρ, S, d, ds, s, r1, r, Z, h⟩ := h
  unfold appendC at h
  split at h
  · split at h
    · rename_i e0
      split at h
      · split at h
        · rename_i hz
          obtain ⟨v, rfl, rv⟩ := repl1 r
          obtain ⟨a, vs, rfl, hl, ha, ra⟩ := rep_lst s r1 e0
          have ex : Ext ρ H ρ (upd H a (.lst (vs ++ [v]))) := Ext.set (List.mem_of_getElem? hl) ha fun z => z
          exact ⟨a, vs, v, rfl, rfl, ha, by rw [← ra.len]; exact hz, h ρ _ .non ex (s.set hl ⟨_, upd_same, (ra.append (rep_one rv)).ext ex⟩) (by rfl)⟩
        · exact h.elim
      · exact h.elim
    · exact h.elim
  · exact h.elim
theorem ext_list_tuple (l : Addr) (items : Array Value) (n : Nat) (b : Addr) (items2 : Array Value) (n2 : Nat) (dd : Option Addr) (sl : Array (Option Value)) (hs0 : ¬(!items.isEmpty && Builtin.List.listTooLong (items.size + items2.size)) = true) (hs1 : items.size ≤ sizeLine) (hs2 : items.size + items2.size ≤ sizeLine + 1) :
    Meets (Builtin.«list.extend» ⟨[.ref l, .ref b], []⟩) (fun _ R s => s.heap.get? l = some { cls := .type "list", dict := none, data := .seq items n, slots := #[] } ∧ s.heap.get? b = some { cls := .type "tuple", dict := dd, data := .seq items2 n2, slots := sl } ∧ R (.ok (.ret Value.none)) { s with heap := s.heap.update l (Obj.mapSeq fun x => x ++ items2), toks := s.toks }) :=
  .of_wp fun prog w A R s h => by
    obtain ⟨hp, g, d, tk, os⟩ := s; obtain ⟨hl, hb, h⟩ := h; have f1 := AutoSeq1.idx_int; have f2 := AutoSeq1.sub_tuple_tuple; have f3 := AutoSeq1.sub_list_list; have f4 := AutoSeq1.sub_tuple_list; have f5 := AutoSeq1.sub_list_tuple;
    have hz' : (items ++ items2).size ≤ sizeLine + 1 := by rw [Array.size_append]; exact hs2
    wp_walk using (wpAny_updateSeq hl rfl (hz := hs1) (_hz' := hz')), wpAny_loadPart' hl, wpAny_loadPart' hb; exact ⟨_, rfl, h⟩
/-- extend by a tuple -/
def rExtT (K : PySem.W.Frag) : V → List V → Hp → VK → Prop := fun x vs H Q => ∃ l b xs zs, x = .ref l ∧ vs = [.ref b] ∧ H l = some (.lst xs) ∧ SqT K H b zs ∧ xs.length + zs.length ≤ sizeLine ∧ Q .non (upd H l (.lst (xs ++ zs)))
theorem mt_extT : MtR X "list.extend" (rExtT X.K) := by
  intro pins s σ H x vs v us Q I rx rv h
  obtain ⟨l, b, xs, zs, rfl, rfl, hH, hB, hz, q⟩ := h
  cases rx
  obtain ⟨u, rfl, ru⟩ := rv.one
  cases ru
  obtain ⟨z, its, n, r, hl, e⟩ := I.lstM hH
  obtain ⟨its2, r2, ⟨⟨cls, dd, data, sl⟩, ho, hc, n2, hd⟩, hs2⟩ := I.tuple hB
  simp only at hc hd
  subst hc hd
  have hl2 := r2.length
  have hsz : its.toArray.size + its2.toArray.size ≤ sizeLine := by rw [List.size_toArray, List.size_toArray]; omega
  have hlong : ¬ (!its.toArray.isEmpty && Builtin.List.listTooLong (its.toArray.size + its2.toArray.size)) = true := by
    rw [notLongL hsz, Bool.and_false]
    exact Bool.false_ne_true
  refine call_meets F.slot_list_extend ⟨_, e, rfl⟩ F.entry_list_extend (F.args_list_extend_2 _ _)
    (ext_list_tuple l its.toArray n b its2.toArray n2 dd sl hlong (by rw [List.size_toArray]; omega) (by omega)) ⟨e, ho, ?_⟩
  refine ⟨.non, _, I.lset (its' := its ++ its2) hH e (by simp) (r.append r2) ?_, rfl, q⟩
  rw [List.length_append]
  omega
theorem mt_extendC : MtR X "list.extend" (LvM X.K X.mg extendC) := by
  refine MtR.imp (MtR.or (show MtR X "list.extend" rExtend from mt_extend) mt_extT) fun x xs H Q h => ?_
  obtain ⟨ρ, S, d, ds, s, r1, r, Z, h⟩ := h
  unfold extendC at h
  split at h
  · split at h
    · rename_i e0
      split at h
      · split at h
        · rename_i e1
          split at h
          · rename_i hz
            obtain ⟨v, rfl, rv⟩ := repl1 r
            obtain ⟨a, vs, rfl, hl, ha, ra⟩ := rep_lst s r1 e0
            obtain ⟨b, ws, rfl, hl2, hb, rb⟩ := rep_lst s rv e1
            have ex : Ext ρ H ρ (upd H a (.lst (vs ++ ws))) := Ext.set (List.mem_of_getElem? hl) ha fun z => z
            exact .inl ⟨a, b, vs, ws, rfl, rfl, ha, hb, by rw [← ra.len, ← rb.len]; exact hz, h ρ _ .non ex (s.set hl ⟨_, upd_same, (ra.append rb).ext ex⟩) (by rfl)⟩
          · exact h.elim
        · exact h.elim
      · split at h
        · rename_i hz
          obtain ⟨v, rfl, rv⟩ := repl1 r
          obtain ⟨a, vs, rfl, hl, ha, ra⟩ := rep_lst s r1 e0
          obtain ⟨b, ws, rfl, hb, rb⟩ := rep_tup rv
          have ex : Ext ρ H ρ (upd H a (.lst (vs ++ ws))) := Ext.set (List.mem_of_getElem? hl) ha fun z => z
          exact .inr ⟨a, b, vs, ws, rfl, rfl, ha, hb, by rw [← ra.len, ← rb.len]; exact hz, h ρ _ .non ex (s.set hl ⟨_, upd_same, (ra.append rb).ext ex⟩) (by rfl)⟩
        · exact h.elim
      · exact h.elim
    · exact h.elim
  · exact h.elim
theorem mt_popC : MtR X "list.pop" (LvM X.K X.mg popC) := by
  refine MtR.imp (show MtR X "list.pop" rPop from mt_pop) fun x xs H Q h => ?_
  obtain ⟨ρ, S, d, ds, s, r1, r, Z, h⟩ := h
  unfold popC at h
  split at h
  · split at h
    · rename_i e0
      split at h
      · split at h
        · rename_i d' hd
          simp only [RepL] at r
          subst r
          obtain ⟨a, vs, rfl, hl, ha, ra⟩ := rep_lst s r1 e0
          rw [ra.len] at hd
          obtain ⟨v, hv, rv⟩ := ra.get hd
          have ex : Ext ρ H ρ (upd H a (.lst vs.dropLast)) := Ext.set (List.mem_of_getElem? hl) ha fun z => z
          exact ⟨a, vs, v, rfl, rfl, ha, hv, h ρ _ v ex (s.set hl ⟨_, upd_same, ra.dropLast.ext ex⟩) (rv.ext ex)⟩
        · exact h.elim
      · exact h.elim
    · exact h.elim
  · exact h.elim
def rGet1 : V → List V → Hp → VK → Prop := fun x vs H Q => ∃ a y o, x = .ref a ∧ vs = [y] ∧ DGet H a y o ∧ Q (o.getD .non) H
def rGet2 : V → List V → Hp → VK → Prop := fun x vs H Q => ∃ a y z o, x = .ref a ∧ vs = [y, z] ∧ DGet H a y o ∧ Q (o.getD z) H
theorem mt_get1 (hu : X.A.units + 1 < cLine) : MtR X "dict.get" rGet1 := by
  intro pins s σ H x xs v us Q I rx rs h
  obtain ⟨a, y, o, rfl, rfl, g, q⟩ := h
  cases rx
  obtain ⟨u, rfl, ru⟩ := vals1 rs
  exact d_get1 hu I g ru fun w' s3 I3 rw' => ⟨_, H, I3, rw', q⟩
theorem mt_get2 (hu : X.A.units + 1 < cLine) : MtR X "dict.get" rGet2 := by
  intro pins s σ H x xs v us Q I rx rs h
  obtain ⟨a, y, z, o, rfl, rfl, g, q⟩ := h
  cases rx
  obtain ⟨u, u', rfl, ru, ru'⟩ := vals2 rs
  exact d_get2 hu I g ru ru' fun w' s3 I3 rw' => ⟨_, H, I3, rw', q⟩
theorem getD_rep {kvs : List (Key × D)} {ps : List (Key × V)} {k : Key} {d : D} {v : V} (rk : RepK K mg ρ H kvs ps) (r : RepV K mg ρ H d v) : RepV K mg ρ H ((valD kvs k).getD d) ((valV ps k).getD v) := by
  obtain ⟨h1, h2⟩ := rk.val k
  cases e : valD kvs k with
  | none => rw [h1 e]; exact r
  | some x =>
    obtain ⟨w, hw, rw'⟩ := h2 x e
    rw [hw]
    exact rw'
theorem mt_getC (hu : X.A.units + 200 < cLine) : MtR X "dict.get" (LvM X.K X.mg getC) := by
  refine MtR.imp (MtR.or (mt_get1 (by omega)) (mt_get2 (by omega))) fun x xs H Q h => ?_
  obtain ⟨ρ, S, d, ds, s, r1, r, Z, h⟩ := h
  unfold getC at h
  split at h
  · split at h
    · rename_i e0
      split at h
      · split at h
        · rename_i hk
          obtain ⟨v, rfl, rv⟩ := repl1 r
          obtain ⟨a, ps, rfl, _, ha, rk⟩ := rep_dct s r1 e0
          have ey := key_rep hk rv
          subst ey
          exact .inl ⟨a, _, _, rfl, rfl, DGet.k ha, ok_at h s (getD_rep rk (by rfl))⟩
        · exact h.elim
      · split at h
        · rename_i hk
          obtain ⟨v, w, rfl, rv, rw'⟩ := repl2 r
          obtain ⟨a, ps, rfl, _, ha, rk⟩ := rep_dct s r1 e0
          have ey := key_rep hk rv
          subst ey
          exact .inr ⟨a, _, w, _, rfl, rfl, DGet.k ha, ok_at h s (getD_rep rk rw')⟩
        · exact h.elim
      · exact h.elim
    · exact h.elim
  · exact h.elim
theorem mt_joinC : MtR X "str.join" (LvM X.K X.mg joinC) := by
  refine MtR.imp mt_join fun x xs H Q h => ?_
  obtain ⟨ρ, S, d, ds, s, r1, r, Z, h⟩ := h
  unfold joinC at h
  split at h
  · split at h
    · split at h
      · rename_i e0
        split at h
        · rename_i ss e1
          split at h
          · rename_i hz
            obtain ⟨v, rfl, rv⟩ := repl1 r
            obtain ⟨a, vs, rfl, hl, ha, ra⟩ := rep_lst s rv e0
            have e := strs_rep e1 ra
            subst e
            refine ⟨_, a, ss, r1, rfl, .inl (SqL.of ha), hz, ?_⟩
            rw [TL.join_eq]
            exact ok_at h s (by rfl)
          · exact h.elim
        · exact h.elim
      · exact h.elim
    · exact h.elim
  · exact h.elim
theorem mt_V (hu : X.A.units + 200 < cLine) (m : Mt) : MtR X m.id (LvM X.K X.mg (mtcall m)) := by
  have no : ∀ i, MtR X i (LvM X.K X.mg fun _ _ => M.bad) := fun v pins s σ H x xs us _ Q I r1 r ⟨_, _, _, _, _, _, _, _, h⟩ => h.elim
  cases m <;> first | exact mt_appendC | exact mt_extendC | exact mt_popC | exact mt_getC hu | exact mt_joinC | exact no _
end
end Fw
/-! FwS: sets of keys that go by value; a set comprehension; sorted of one -/
namespace Fw
open PySem PySem.Spec PyProof.Rows L2
structure VKind (P : Program) (w : World) (K : Type) [DecidableEq K] where
  knd : PySem.KeyKind P w K
  kf : Value → K
  kfIs : ∀ k v, knd.is k v = true → kf v = k
  scan : ∀ k v, knd.is k v = true → v.scannable = true
def vStr (P : Program) (w : World) : VKind P w Str where
  knd := PySem.strKind P w
  kf := fun v => match v with | .str x _ => x | _ => ""
  kfIs := fun k v h => by obtain ⟨t, rfl⟩ := Value.isStrOf_shape h; rfl
  scan := fun k v h => by obtain ⟨t, rfl⟩ := Value.isStrOf_shape h; rfl
section
variable {P : Program} {w : World} {K : Type} [DecidableEq K]
def Good (κ : VKind P w K) (e : Int × Value) : Prop := ∃ k, κ.knd.is k e.2 = true ∧ e.1 = κ.knd.hash k
def SetV (κ : VKind P w K) (h : Heap) (a : Addr) (ks : List K) : Prop :=
  ∃ o es ep t, h.get? a = some o ∧ o.ExactSet ∧ o.data = .set es ep t ∧ (∀ e ∈ es.toList, Good κ e) ∧ (es.toList.map fun e => κ.kf e.2).Perm ks ∧ ks.Nodup ∧
    es.size < scanBound ∧ t.fits es.size = true ∧ Ris t.place.toList ∧ (w.params.followText "set-order" = true ∨ t.led = true)
def addK (ks : List K) (k : K) : List K := if k ∈ ks then ks else ks ++ [k]
variable {κ : VKind P w K} {h h' : Heap} {a : Addr} {ks : List K}
theorem SetV.at (R : SetV κ h a ks) (k : ∀ o, h.get? a = some o → h'.get? a = some o) : SetV κ h' a ks := by
  obtain ⟨o, es, ep, t, ho, r⟩ := R
  exact ⟨o, es, ep, t, k o ho, r⟩
theorem good_els {l : List (Int × Value)} (g : ∀ e ∈ l, Good κ e) : ElemsOf κ.knd l := fun e he => by
  obtain ⟨k, h1, h2⟩ := g e he
  exact ⟨⟨k, h1, h2⟩, κ.scan k _ h1⟩
theorem good_iff {e : Int × Value} (g : Good κ e) (k : K) : κ.knd.is k e.2 = true ↔ κ.kf e.2 = k := by
  obtain ⟨k0, h1, _⟩ := g
  refine ⟨fun h => κ.kfIs k _ h, fun h => ?_⟩
  rw [← h, κ.kfIs k0 _ h1]
  exact h1
theorem good_in {l : List (Int × Value)} (g : ∀ e ∈ l, Good κ e) (k : K) : k ∈ (l.map fun e => κ.kf e.2) ↔ ∃ e ∈ l, κ.knd.is k e.2 = true := by
  rw [List.mem_map]
  constructor
  · rintro ⟨e, he, q⟩
    exact ⟨e, he, (good_iff (g e he) k).2 q⟩
  · rintro ⟨e, he, q⟩
    exact ⟨e, he, (good_iff (g e he) k).1 q⟩
theorem SetV.setOf (R : SetV κ h a ks) : h.SetOf κ.knd a (fun k => decide (k ∈ ks)) ks.length := by
  obtain ⟨o, es, ep, t, ho, hx, hd, g, pm, nd, hb, hf, hr⟩ := R
  refine ⟨o, es, ep, t, ho, hx, hd, good_els g, fun k => ?_, hb, hf, ?_⟩
  · rw [decide_eq_true_eq, ← pm.mem_iff]
    exact good_in g k
  · rw [← pm.length_eq, List.length_map, Array.length_toList]
variable {A : Around} {E : Value → Shared → Prop} {s : Shared}
theorem setV_tail {g : Bool → Sem Unit} (hg : ∀ (b : Bool) (s₁ : Shared) (Q' : Unit → Shared → Prop), Q' () s₁ → wpAny (model P w) A (g b) Q' E s₁)
    {o : Obj} {es : Array (Int × Value)} {ep : Nat} {t : SetTable} (ho : s.heap.get? a = some o) (hex : o.ExactSet) (hd : o.data = .set es ep t)
    {es1 : Array (Int × Value)} {t2 : SetTable} (g1 : ∀ e ∈ es1.toList, Good κ e) (pm1 : (es1.toList.map fun e => κ.kf e.2).Perm ks) (nd1 : ks.Nodup)
    (hb1 : es1.size < scanBound) (hf2 : t2.fits es1.size = true) (hr : Ris t2.place.toList) (hl : w.params.followText "set-order" = true ∨ t2.led = true) {wasDummy : Bool} {R : Option Bool → Shared → Prop}
    (hR : ∀ h', Heap.SameBut a s.heap h' → SetV κ h' a ks → R (some true) { s with heap := h' }) :
    wpAny (model P w) A (do
        storeSet a es1 t2
        if (!wasDummy && t2.tooFull) = true then do
            g (relayAll t2 es1 (SetTable.grown es1.size)).2.2
            storeSet a (relayAll t2 es1 (SetTable.grown es1.size)).1 (relayAll t2 es1 (SetTable.grown es1.size)).2.1
            pure (some true)
          else pure (some true)) R E s := by
  refine wpAny_bind (wpAny_storeSet_of ho hd ?_ (fits_of_scanBound hb1))
  have ho1 := PpSet.storeB_at (es' := es1) (t' := t2) ho hd
  have sb1 := Heap.SameBut.update s.heap a (Obj.putSet es1 t2)
  split
  · have pm := relayAll_perm t2 es1 (SetTable.grown es1.size)
    have hf3 := relayAll_fits t2 es1 (SetTable.grown es1.size)
    have hr3 := relayAll_ris t2 es1 (SetTable.grown es1.size)
    have hl3 := relayAll_led t2 es1 (SetTable.grown es1.size)
    generalize relayAll t2 es1 (SetTable.grown es1.size) = Z at pm hf3 hr3 hl3 ⊢
    obtain ⟨es2, t3, gave⟩ := Z
    dsimp only at pm hf3 hr3 hl3 ⊢
    have hsz : es2.size = es1.size := by rw [← Array.length_toList, pm.length_eq, Array.length_toList]
    have hb2 : es2.size < scanBound := by rw [hsz]; exact hb1
    refine wpAny_bind (hg _ _ _ ?_)
    refine wpAny_bind (wpAny_storeSet_of ho1 rfl ?_ (fits_of_scanBound hb2))
    have ho2 := PpSet.storeB_at (es' := es2) (t' := t3) ho1 rfl
    refine wpAny_pure (hR _ (sb1.trans (Heap.SameBut.update _ a _)) ?_)
    exact ⟨_, es2, _, t3, ho2, hex, rfl, fun e he => g1 e (pm.mem_iff.mp he), (pm.map _).trans pm1, nd1, hb2, by rw [hsz]; rw [hsz] at hf3; exact hf3, hr3, hl.imp id fun z => by rw [hl3]; exact z⟩
  · exact wpAny_pure (hR _ sb1 ⟨_, es1, _, t2, ho1, hex, rfl, g1, pm1, nd1, hb1, hf2, hr, hl⟩)
theorem setV_addH {k : K} {x : Value} {Q : Bool → Shared → Prop} (hkey : κ.knd.is k x = true) (R : SetV κ s.heap a ks) (room : ks.length + 1 < scanBound)
    (hQ : ∀ h' b, Heap.SameBut a s.heap h' → SetV κ h' a (addK ks k) → Q b { s with heap := h' }) :
    wpAny (model P w) A (setAddHashed a x (κ.knd.hash k)) Q E s := by
  obtain ⟨o, es, ep, t, ho, hex, hd, g, pm0, nd, hb, hf, hr, hl⟩ := R
  have hsc : x.scannable = true := κ.scan k x hkey
  have hel : ElemsOf κ.knd es.toList := good_els g
  unfold setAddHashed setAddHashedIn
  refine wpAny_holding (wpAny_bind (wpAny_setState_of ho hd hf ?_))
  dsimp only
  rw [byScan_of hsc hb hel]
  simp only [↓reduceIte]
  unfold setAddByScan
  refine wpAny_bind ?_
  refine wpAny_bind (wpAny_rule ?_)
  refine wpAny_bind (wpAny_setScan_of hkey ho hd hf hel ?_)
  cases hfi : List.findIdx? (fun e => κ.knd.is k e.2) es.toList with
  | some j =>
    dsimp only
    obtain ⟨hj, pj, _⟩ := List.findIdx?_eq_some_iff_getElem.mp hfi
    have hm : k ∈ ks := pm0.mem_iff.mp ((good_in g k).2 ⟨es.toList[j], List.getElem_mem hj, pj⟩)
    refine wpAny_pure (wpAny_pure ?_)
    refine hQ s.heap _ (Heap.SameBut.refl a s.heap) ?_
    unfold addK
    rw [if_pos hm]
    exact ⟨o, es, ep, t, ho, hex, hd, g, pm0, nd, hb, hf, hr, hl⟩
  | none =>
    dsimp only
    have hnk : k ∉ ks := fun z => by
      obtain ⟨e, he, q⟩ := (good_in g k).1 (pm0.mem_iff.mpr z)
      have c := List.findIdx?_eq_none_iff.mp hfi e he
      rw [q] at c
      cases c
    have hgw : ∀ (b : Bool) {s₁ : Shared} {Q' : Unit → Shared → Prop}, Q' () s₁ → wpAny (model P w) A (match b with | true => rule "set.scan.the-table-gave-way" | false => pure ()) Q' E s₁ :=
      fun b s₁ Q' q => by cases b <;> first | exact wpAny_pure q | exact wpAny_rule q
    have pm := layNew_perm t es (κ.knd.hash k) x
    have hf1 := layNew_fits t es (κ.knd.hash k) x
    have hr1 := layNew_ris t es (κ.knd.hash k) x hr
    have hl1 := layNew_led t es (κ.knd.hash k) x
    generalize layNew t es (κ.knd.hash k) x = Z at pm hf1 hr1 hl1 ⊢
    obtain ⟨es1, t1, wasDummy, gave⟩ := Z
    dsimp only at pm hf1 hr1 hl1 ⊢
    rw [Array.toList_push] at pm
    have pc : es1.toList.Perm ((κ.knd.hash k, x) :: es.toList) := pm.trans (List.perm_append_singleton _ _)
    have g1 : ∀ e ∈ es1.toList, Good κ e := fun e he => by
      rcases List.mem_cons.mp (pc.mem_iff.mp he) with z | z
      · rw [z]; exact ⟨k, hkey, rfl⟩
      · exact g e z
    have ek : addK ks k = ks ++ [k] := by unfold addK; rw [if_neg hnk]
    have pk : (es1.toList.map fun e => κ.kf e.2).Perm (ks ++ [k]) := by
      refine (pc.map _).trans ?_
      rw [List.map_cons, κ.kfIs k x hkey]
      exact (List.Perm.cons k pm0).trans (List.perm_append_singleton k ks).symm
    have nd1 : (ks ++ [k]).Nodup := (List.perm_append_singleton k ks).nodup_iff.mpr (List.nodup_cons.mpr ⟨hnk, nd⟩)
    have hsz : es1.size = ks.length + 1 := by
      have := pk.length_eq
      rw [List.length_map, Array.length_toList, List.length_append] at this
      exact this
    have hb1 : es1.size < scanBound := by rw [hsz]; exact room
    have hled : w.params.followText "set-order" = true ∨ t1.led = true := hl.imp id fun z => by rw [hl1]; exact z
    have fin : ∀ h', Heap.SameBut a s.heap h' → SetV κ h' a (ks ++ [k]) → Q true { s with heap := h' } := fun h' sb r => hQ h' true sb (by rw [ek]; exact r)
    refine wpAny_bind (hgw _ ?_)
    split
    · refine wpAny_bind ?_
      rw [hashByValue_scannable 8 hsc]
      refine wpAny_pure ?_
      refine setV_tail ?_ ho hex hd g1 pk nd1 hb1 ?_ ?_ ?_ ?_
      · intro b s₁ Q' q; cases b <;> first | exact wpAny_pure q | exact wpAny_rule q
      · first | (split <;> first | exact hf1 | exact SetTable.fits_plain_off hf1) | exact hf1
      · first | (split <;> exact hr1) | exact hr1
      · first | (split <;> exact hled) | exact hled
      · intro h' sb r; dsimp only; exact wpAny_pure (fin h' sb r)
    · refine wpAny_bind (wpAny_pure ?_)
      simp only [↓reduceIte]
      refine setV_tail ?_ ho hex hd g1 pk nd1 hb1 hf1 hr1 hled ?_
      · intro b s₁ Q' q; cases b <;> first | exact wpAny_pure q | exact wpAny_rule q
      · intro h' sb r; dsimp only; exact wpAny_pure (fin h' sb r)
theorem setV_add {k : K} {x : Value} {Q : Value → Shared → Prop} (hkey : κ.knd.is k x = true) (R : SetV κ s.heap a ks) (room : ks.length + 1 < scanBound)
    (hQ : ∀ h', Heap.SameBut a s.heap h' → SetV κ h' a (addK ks k) → Q .none { s with heap := h', toks := s.toks + 1 }) :
    wpAny (model P w) A (call (.builtin "set.add") [.ref a, x]) Q E s := by
  have hS := R.setOf
  refine wpAny_call_entry F.slot_set_add hS.typeIs F.entry_set_add ?_ (F.args_set_add_2 _ _)
  unfold Builtin.«set.add» Builtin.Frozenset.oneOther
  simp only [List.isEmpty_nil, bind_assoc]
  unfold Builtin.Frozenset.addrOf setAdd
  refine wpAny_bind (wpAny_pure ?_)
  try dsimp only
  refine wpAny_bind (wpAny_pure ?_)
  try dsimp only
  refine wpAny_bind ?_
  refine wpAny_holding ?_
  refine wpAny_bind (κ.knd.pyHash hkey ?_)
  refine setV_addH (s := { s with toks := s.toks + 1 }) hkey R room fun h' b sb r => ?_
  show wpAny _ _ (ret Value.none) _ _ _
  exact wpAny_pure ⟨_, rfl, hQ h' sb r⟩
theorem setV_fresh {h : Heap} : SetV κ (h.push { cls := .type "set", dict := none, data := .set #[] 0 (.fresh 0 0 (!w.params.followText "set-order")) }) h.objs.size [] :=
  ⟨_, #[], 0, _, Heap.get?_push_size _ rfl, ⟨rfl, rfl, rfl⟩, rfl, (fun e he => by simp at he), (by simp), List.nodup_nil, (by decide), (by rfl), List.Pairwise.nil, by
    show _ ∨ (!w.params.followText "set-order") = true
    cases w.params.followText "set-order"
    · exact .inr rfl
    · exact .inl rfl⟩
/-- as a tracked thing -/
def SetVO (κ : VKind P w K) (a : Addr) (ks : List K) : HO := .ext fun h => SetV κ h a ks
theorem setVO_new {H : Hp} (R : SetV κ h a ks) : ObjOk P w H h a (SetVO κ a ks) := by
  have ⟨o, _, _, _, ho, _⟩ := R
  exact ⟨R, ⟨o, ho⟩, fun h1 h2 p k => SetV.at p k⟩
end
section
variable {X : Cx} {K : Type} [DecidableEq K]
theorem setVO_get {κ : VKind X.prog X.w K} {pins : List (Addr × Obj)} {σ : L2.St} {H : Hp} {s : Shared} {a : Addr} {ks : List K} (I : Inv X pins σ H s) (ha : H a = some (SetVO κ a ks)) : SetV κ s.heap a ks := (I.hok a _ ha).1
theorem addV_ok {κ : VKind X.prog X.w K} {pins : List (Addr × Obj)} {σ : L2.St} {H : Hp} {s : Shared} {E : Value → Shared → Prop} {D : Addr} {ks : List K} {k : K} {x : Value} {Q : Value → Shared → Prop} (hkey : κ.knd.is k x = true) (I : Inv X pins σ H s) (hD : H D = some (SetVO κ D ks)) (room : ks.length + 1 < scanBound)
    (h : ∀ s', Inv X pins σ (upd H D (SetVO κ D (addK ks k))) s' → Q .none s') : wpAny (model X.prog X.w) X.A (call (.builtin "set.add") [.ref D, x]) Q E s := by
  refine setV_add hkey (setVO_get I hD) room fun h' sb new => ?_
  have he : ∃ u, h'.get? D = some u := by
    have ⟨o, _, _, _, ho, _⟩ := new
    exact ⟨o, ho⟩
  exact h _ (I.write (e := D) (t' := s.toks + 1) (by rw [hD]; trivial) (.inl rfl) (fun b u hb hu => (sb.2 b hb).trans hu) he (setVO_new new))
/-! ### the comprehension -/
def tScV {P : Program} {w : World} (κ : VKind P w K) (is : K → V → Prop) (wi : TI) (g : TG) (tt : TT) (te : TE) (vs : List Nat) : TE := fun σ H Q => wi σ H fun J H1 => ∀ D, H1 D = none → ∃ W : Nat → Nat → Hp → Prop, (∃ m, W 0 m (upd H1 D (SetVO κ D []))) ∧ ∀ i m H, W i m H →
  (J.stop i H ∧ Q (.ref D) H) ∨ (J.go i H ∧ ∃ Nx : Hp → Prop, (∀ H', Nx H' → ∃ m', m' < m ∧ W (i + 1) m' H') ∧ ∀ x H', J.yld i H x H' → g x (L2.wipe σ vs) H' fun σ2 H2 => L2.wipe σ2 vs = L2.wipe σ vs ∧ tt σ2 H2 fun b H3 =>
    if b = true then te σ2 H3 fun y H4 => ∃ (c : K) (ks : List K), is c y ∧ H4 D = some (SetVO κ D ks) ∧ ks.length + 1 < scanBound ∧ Nx (upd H4 D (SetVO κ D (addK ks c))) else Nx H3)
theorem scV_core {κ : VKind X.prog X.w K} {is : K → V → Prop} (his : ∀ k v u, is k v → RelV v u → κ.knd.is k u = true) {pins : List (Addr × Obj)} {s : Shared} {σ : L2.St} {H : Hp} {Q : VK} {elt tg iter : Expr} {ifs : List Expr} {scope : Scope} {own : List (PySem.Str × Nat)} {pos pos' : Pos} {wi : TI} {g : TG} {tt : TT} {te : TE} {use : Option (Value → Sem Unit)} {Qf : Value → Shared → Prop}
    (hc : X.calm = true) (hN : X.N.Nodup) (I : Inv X pins σ H s) (hi : PI X tg iter wi) (ok : BlkOk X.N X.env.scope scope own)
    (hg : ∀ (s : Shared) (H : Hp) (C : Addr) (cl : List (PySem.Str × Addr)) (fp : List Addr), PG (X.blk s H scope (compEnvC scope cl C X.env) fp) tg g) (ht : ∀ (s : Shared) (H : Hp) (C : Addr) (cl : List (PySem.Str × Addr)) (fp : List Addr), PTs (X.blk s H scope (compEnvC scope cl C X.env) fp) ifs tt)
    (he : ∀ (s : Shared) (H : Hp) (C : Addr) (cl : List (PySem.Str × Addr)) (fp : List Addr), PE (X.blk s H scope (compEnvC scope cl C X.env) fp) elt te) (hs : ∀ x, foldedSetIterable iter X.env x = pure x)
    (h : tScV κ is wi g tt te (own.map (·.2)) σ H Q)
    (hRR : ∀ D C s' m H', Inv X pins σ H' s' → Q (.ref D) H' → s'.heap.Ns C m → FpOk X pins H' C → compPost (model X.prog X.w) X.A X.xe use Qf (.ref D) C (.ok .next) s') :
    wpAny (model X.prog X.w) X.A (comprehension (.SetComp elt [⟨tg, iter, ifs, 0⟩] scope pos) scope X.env pos' (newSet (.type "set")) false (eval iter X.env) use) Qf X.xe s := by
  have hfree : ∀ y ∈ scope.names, y.2 = .free → ∃ c, X.env.cells.lookup y.1 = some c := fun y hy e => by
    rcases ok.free y hy e with k | k
    · exact I.ok.has _ (.inl k)
    · exact I.ok.has _ (.inr k)
  refine wpAny_comprehension_free (use := use) rfl hs (closure_ok hfree) ok.kind (fun y hy e => by rw [ok.uniq y hy, e])
    (thn (hi.run pins s σ H _ I h) fun xv s1 hx => thn hx fun itv s2 h2 => ?_)
  obtain ⟨it, fp, tn, J, H2, e, I2, T, st2, f2, q⟩ := h2
  subst e
  refine PpSet.newSet_ok (newEnv_comp ?_)
  generalize hD : s2.heap.objs.size = D
  have hDn : H2 D = none := I2.hok.fresh (Nat.le_of_eq hD)
  obtain ⟨W, ⟨m0, w0⟩, turn⟩ := q D hDn
  generalize hs3 : ({ s2 with heap := s2.heap.push { cls := .type "set", dict := none, data := .set #[] 0 (.fresh 0 0 (!X.w.params.followText "set-order")) } } : Shared) = s3
  have I3 : Inv X pins σ (upd H2 D (SetVO κ D [])) s3 := by
    rw [← hs3]
    refine I2.laid (t' := s2.toks) (fun b o e => Heap.get?_push_of_some _ e) (Nat.le_of_eq hD) ?_
    rw [← hD]
    exact setVO_new setV_fresh
  have h3 : s3.heap = s2.heap.push { cls := .type "set", dict := none, data := .set #[] 0 (.fresh 0 0 (!X.w.params.followText "set-order")) } := by rw [← hs3]
  have sz : ∀ b ∈ fp, b < s2.heap.objs.size := fun b hb => by
    obtain ⟨o, e, _⟩ := T.obj _ _ st2 b hb
    exact Heap.lt_size e
  have f3 : ∀ b ∈ fp, FpOk X pins (upd H2 D (SetVO κ D [])) b ∧ b < s3.heap.objs.size := fun b hb => by
    have hlt := sz b hb
    refine ⟨⟨?_, (f2 b hb).2⟩, by rw [h3, Heap.size_push]; exact Nat.lt_succ_of_lt hlt⟩
    rw [upd_ne (by rw [← hD]; exact Nat.ne_of_lt hlt)]
    exact (f2 b hb).1
  have st3 : tn 0 s3.heap := T.keep _ _ _ st2 fun b _ o e => by rw [h3]; exact Heap.get?_push_of_some _ e
  have I4 := block_start I3 ok hN f3
  have pg := hg s3 (upd H2 D (SetVO κ D [])) s3.heap.objs.size (cellsFrom (s3.heap.objs.size + 1) scope.names (cloFrom X.env.cells scope.names [])) fp
  have pt := ht s3 (upd H2 D (SetVO κ D [])) s3.heap.objs.size (cellsFrom (s3.heap.objs.size + 1) scope.names (cloFrom X.env.cells scope.names [])) fp
  have pe := he s3 (upd H2 D (SetVO κ D [])) s3.heap.objs.size (cellsFrom (s3.heap.objs.size + 1) scope.names (cloFrom X.env.cells scope.names [])) fp
  show codeAny _ _ (.compStart (.SetComp elt [⟨tg, iter, ifs, 0⟩] scope pos) 0 (.ref it) (.ref D) (compEnvC scope (cellsFrom (s3.heap.objs.size + 1) scope.names (cloFrom X.env.cells scope.names [])) s3.heap.objs.size X.env)) (compPost (model X.prog X.w) X.A X.xe use Qf (.ref D) s3.heap.objs.size) { s3 with heap := pushCells (s3.heap.push { cls := .type "dict", data := .dict #[] }) scope.names }
  have nfp : ∀ b ∈ fp, (upd H2 D (SetVO κ D [])) b = none := fun b hb => (f3 b hb).1.1
  generalize hce : compEnvC scope (cellsFrom (s3.heap.objs.size + 1) scope.names (cloFrom X.env.cells scope.names [])) s3.heap.objs.size X.env = ce at I4 pg pt pe ⊢
  have cL : ce.locals = s3.heap.objs.size := by subst hce; rfl
  generalize hH3 : upd H2 D (SetVO κ D []) = H3 at I3 I4 pg pt pe w0 nfp f3
  generalize hs4 : ({ s3 with heap := pushCells (s3.heap.push { cls := .type "dict", data := .dict #[] }) scope.names } : Shared) = s4 at I4 ⊢
  have st4 : tn 0 s4.heap := T.keep _ _ _ st3 fun b _ o e => by rw [← hs4]; exact pushCells_keeps _ _ _ _ (Heap.get?_push_of_some _ e)
  have stat : ∀ {σ' : L2.St} {H' : Hp} {s' : Shared}, Inv (X.blk s3 H3 scope ce fp) [] σ' H' s' → (∀ b ∈ fp, H' b = none) → ∀ b ∈ fp, FpOk (X.blk s3 H3 scope ce fp) [] H' b := fun {σ' H' s'} I' hn b hb =>
    ⟨hn b hb, (I'.ok.exf b hb).1, I'.ok.exfs b hb, .inl hb, fun x c e => (I'.ok.exf b hb).2 x c e, fun p hp => absurd (show p ∈ ([] : List (Addr × Obj)) ++ [] from hp) (by simp)⟩
  have loop : codeAny (model X.prog X.w) X.A (.compLoop (.SetComp elt [⟨tg, iter, ifs, 0⟩] scope pos) 0 (.ref it) (.ref D) ce) (compPost (model X.prog X.w) X.A X.xe use Qf (.ref D) s3.heap.objs.size) s4 := by
    refine PpSet.compLoopS_any (fun n s' => ∃ i H', Inv (X.blk s3 H3 scope ce fp) [] (L2.wipe σ (own.map (·.2))) H' s' ∧ tn i s'.heap ∧ (∀ b ∈ fp, H' b = none) ∧ W i n H') ?_ m0 ⟨0, H3, I4, st4, nfp, w0⟩
    rintro n s5 ⟨i, H5, I5, st5, n5, w5⟩
    rcases turn i n H5 w5 with ⟨stop, qq⟩ | ⟨go, Nx, hNx, step⟩
    · have td := T.done (X.blk s3 H3 scope ce fp) rfl rfl rfl hc i [] s5 _ H5 (fun _ _ => False) I5 (stat I5 n5) st5 stop
      refine thnF td fun r s6 ⟨hr, I6⟩ => ?_
      subst hr
      have I7 : Inv X pins σ H5 s6 := I3.call' (ch := fp) I6.os I6.base I6.hok I6.bare fun b hb => ⟨(f3 b hb).1.2.2.2.1, (f3 b hb).1.2.1, (f3 b hb).1.2.2.2.2.1, (f3 b hb).1.2.2.2.2.2⟩
      have nC : H5 s3.heap.objs.size = none := by
        have z : H5 ce.locals = none := I6.free
        rw [cL] at z
        exact z
      obtain ⟨m, hn, _⟩ := I6.loc
      have hn : s6.heap.Ns ce.locals m := hn
      rw [cL] at hn
      exact hRR D s3.heap.objs.size s6 m H5 I7 qq hn (I3.fpOk (Nat.le_refl _) nC)
    · have ti := T.item (X.blk s3 H3 scope ce fp) rfl rfl rfl hc i [] s5 _ H5 (fun _ _ => False) I5 (stat I5 n5) st5 go
      refine thnF ti fun r s6 ⟨u, hr, h6⟩ => ?_
      subst hr
      refine thnF h6 fun _ s7 ⟨x, H7, I7, r7, y7, st7, n7⟩ => ?_
      have I7' := I7.pinned (stat I7 n7) (T.obj _ _ st7)
      refine thnF (pg.run _ s7 _ H7 x u _ I7' r7 (step x H7 y7)) fun _ s8 ⟨σ8, H8, I8, hw8, q8⟩ => ?_
      refine thnF (pt.run _ s8 σ8 H8 _ I8 q8) fun b s9 ⟨H9, I9, q9⟩ => ?_
      have fin : ∀ {s' : Shared} {H' : Hp}, Inv (X.blk s3 H3 scope ce fp) ([] ++ pinsAt fp s7.heap) σ8 H' s' → Nx H' → ∃ m, m < n ∧ ∃ i H', Inv (X.blk s3 H3 scope ce fp) [] (L2.wipe σ (own.map (·.2))) H' s' ∧ tn i s'.heap ∧ (∀ b ∈ fp, H' b = none) ∧ W i m H' := fun {s' H'} I' nx => by
        obtain ⟨m', hm, w'⟩ := hNx H' nx
        have pin' : ∀ b ∈ fp, ∀ o, s7.heap.get? b = some o → s'.heap.get? b = some o ∧ H' b = none := fun b hb o e =>
          let z := I'.pin (b, o) (List.mem_append_right _ (List.mem_append_right _ (mem_pinsAt hb e)))
          ⟨z.1, z.2.1⟩
        have hl : (L2.wipe σ (own.map (·.2))).length = σ8.length := by rw [← hw8, L2.wipe_length]
        refine ⟨m', hm, i + 1, H', (I'.unpinned (pins := [])).weak hl (fun j v e => ?_), T.keep _ _ _ st7 fun b hb o e => (pin' b hb o e).1, fun b hb => ?_, w'⟩
        · rw [← hw8] at e
          exact (wipe_some e).1
        · obtain ⟨o, e, _⟩ := T.obj _ _ st7 b hb
          exact (pin' b hb o e).2
      cases b with
      | false =>
        simp only [Bool.false_eq_true, if_false] at q9 ⊢
        exact fin I9 q9
      | true =>
        simp only [if_true] at q9 ⊢
        refine thnF (pe.run _ s9 σ8 H9 _ I9 q9) fun z s10 ⟨yv, H10, I10, r10, cb, ks0, ey, hD10, hz10, nx⟩ => ?_
        exact addV_ok (X := X.blk s3 H3 scope ce fp) (his cb yv z ey r10) I10 hD10 hz10 fun s11 I11 => fin I11 nx
  exact PpSet.codeAny_compStart_set loop (T.self X.A 0 _ _ _ st4 loop)
theorem pe_scV {κ : VKind X.prog X.w K} {is : K → V → Prop} (his : ∀ k v u, is k v → RelV v u → κ.knd.is k u = true) {elt tg iter : Expr} {ifs : List Expr} {scope : Scope} {own : List (PySem.Str × Nat)} {pos : Pos} {wi : TI} {g : TG} {tt : TT} {te : TE} (hc : X.calm = true) (hN : X.N.Nodup) (hi : PI X tg iter wi) (ok : BlkOk X.N X.env.scope scope own)
    (hg : ∀ (s : Shared) (H : Hp) (C : Addr) (cl : List (PySem.Str × Addr)) (fp : List Addr), PG (X.blk s H scope (compEnvC scope cl C X.env) fp) tg g) (ht : ∀ (s : Shared) (H : Hp) (C : Addr) (cl : List (PySem.Str × Addr)) (fp : List Addr), PTs (X.blk s H scope (compEnvC scope cl C X.env) fp) ifs tt)
    (he : ∀ (s : Shared) (H : Hp) (C : Addr) (cl : List (PySem.Str × Addr)) (fp : List Addr), PE (X.blk s H scope (compEnvC scope cl C X.env) fp) elt te) (hs : ∀ x, foldedSetIterable iter X.env x = pure x) :
    PE X (.SetComp elt [⟨tg, iter, ifs, 0⟩] scope pos) (tScV κ is wi g tt te (own.map (·.2))) := by
  refine ⟨fun pins s σ H Q I h => ?_⟩
  rw [PpSet.eval_SetComp]
  refine scV_core his hc hN I hi ok hg ht he hs h fun D C s' m H' I' q hn f => ⟨m, hn, fun h'' sb => ?_⟩
  obtain ⟨f0, f1, f2, f3, f4, f5⟩ := f
  exact ⟨.ref D, H', I'.turned (t' := s'.toks) (fun b o hb e => (sb.2 b hb).trans e) f0 f1 f3 f4 f5, rfl, q⟩
/-! ### sorted of a set of texts -/
def rSortV {P : Program} {w : World} (κ : VKind P w Str) : List V → Hp → VK → Prop := fun xs H Q => ∃ (a : Addr) (ks : List Str), xs = [.ref a] ∧ H a = some (SetVO κ a ks) ∧ ks.length < 64 ∧
    ∀ ys p, ys.Perm ks → sortedS ys = true → H p = none → Q (.ref p) (upd H p (.lst (ys.map V.str)))
theorem strs_of : ∀ (l : List Value), (∀ v ∈ l, ∃ k tk, v = Value.str k tk) → StrsAre l (l.map (vStr P w).kf)
  | [], _ => .nil
  | v :: l, h => by
    obtain ⟨k, tk, rfl⟩ := h v List.mem_cons_self
    exact .cons k tk (strs_of l fun u hu => h u (List.mem_cons_of_mem _ hu))
theorem cr_sortV (hcalm : X.calm = true) : CallR X (.builtin "sorted") (rSortV (vStr X.prog X.w)) := by
  intro pins s σ H xs us Q I r q
  obtain ⟨a, ks, ex, hd, h64, q⟩ := q
  subst ex
  obtain ⟨u, eu, rx⟩ := vals1 r
  subst eu
  cases rx
  obtain ⟨o, es, ep, t, ho, hex, hdd, g, pm0, nd, hb, hf, hr, hl⟩ := setVO_get I hd
  refine Calls.call_function_entry PyProof.Rows.kind_sorted PyProof.Rows.plain_sorted PyProof.Rows.entry_sorted (PyProof.Rows.args_sorted1 _) ?_
  unfold Builtin.«sorted»
  refine wpAny_bind (m := checkCount "sorted" 1 1 _) (wpAny_pure ?_)
  refine wpAny_bind (collect_set (A := X.A.in1) (I.ok.hd hcalm) ⟨o, ho, hex.1, hdd⟩ hf hb hr hl fun s1 vs k1 hz g1 o1 pm => ?_)
  have hS : StrsAre vs (vs.map (vStr X.prog X.w).kf) := strs_of vs fun v hv => by
    obtain ⟨e, he, q⟩ := List.mem_map.mp (pm.mem_iff.mp hv)
    obtain ⟨k, h1, _⟩ := g e he
    obtain ⟨tk, h2⟩ := Value.isStrOf_shape h1
    exact ⟨k, tk, by rw [← q]; exact h2⟩
  have pk : (vs.map (vStr X.prog X.w).kf).Perm ks := by
    have q := pm.map (vStr X.prog X.w).kf
    rw [List.map_map] at q
    exact q.trans pm0
  have hvl : vs.length = ks.length := by rw [← pk.length_eq, List.length_map]
  have I1 : Inv X pins σ H s1 := I.call' (ch := []) o1 (Un.kept k1) (I.hok.kept k1) (by rw [g1]; exact I.bare) (fun _ z => nomatch z)
  refine wpAny_bind (wpAny_newList ?_ (by rw [hvl, sizeLine_eq]; omega))
  have hoL : (s1.heap.push (seqObj "list" vs.toArray 0)).get? s1.heap.objs.size = some (seqObj "list" vs.toArray 0) := Heap.get?_push_size _ rfl
  refine wpAny_bind (wpAny_holding (wpAny_call_entry PyProof.Rows.slot_list_sort ⟨_, hoL, rfl⟩ PyProof.Rows.entry_list_sort
    (list_sort_treeK strKind_oneLt (s := { s1 with heap := s1.heap.push (seqObj "list" vs.toArray 0) }) hoL hS.keysOf (fun v₁ v₂ rest e => keyKind_strs (by rw [← e]; exact hS)) (by rw [hvl]; exact h64) fun st' hp hs => ⟨_, rfl, ?_⟩)
    (PyProof.Rows.args_list_sort _)))
  obtain ⟨ys, g1', g2, g3⟩ := sorted_out_str hS hp hs
  obtain ⟨e', he'⟩ := PyProof.Rows.sortedHeap_at (vs := vs) (out := (arrOf st').map (·.2)) hoL
  have hlen : (ys.map V.str).length ≤ sizeLine := by
    rw [List.length_map, g2.length_eq, pk.length_eq]
    exact Nat.le_trans (Nat.le_of_lt h64) (by decide)
  refine wpAny_pure ⟨_, rfl, .ref s1.heap.objs.size, upd H s1.heap.objs.size (.lst (ys.map V.str)), I1.laid (t' := s1.toks) (fun b u e => ?_) (Nat.le_refl _)
    (show ObjOk X.prog X.w _ _ _ (.lst (ys.map V.str)) from ⟨hlen, ((arrOf st').map (·.2)).toList, e', vals_of_strs g1', by rw [Array.toArray_toList]; exact he'⟩), rfl, q ys _ (g2.trans pk) g3 (I1.hok.fresh (Nat.le_refl _))⟩
  have hb : b < s1.heap.objs.size := Heap.lt_size e
  rw [PyProof.Rows.sortedHeap_old (Nat.ne_of_lt hb) (by rw [size_push']; exact Nat.lt_succ_of_lt hb)]
  exact Heap.get?_push_of_some _ e
end
end Fw
/-! Fw9: contexts; expressions -/
namespace Fw
open PySem PySem.Spec PyProof.Rows L2
structure RoomG (k : Nat) (A : Around) : Prop where
  r : Room k A
  g : A.guards = some []
/-- as HandS's FnOk, where nothing is being shown by repr -/
structure FnG (P : Program) (w : World) (K : PySem.W.Frag) (mg : Str → Option Value) (base : Heap) (k : Nat) (f : Addr) (fd : FuncData) (ps : List Str) (sp : Sp) : Prop where
  len : ∀ vs H Q E, sp vs H Q E → vs.length = ps.length
  run : ∀ (A : Around) (outer : List PySem.Env) (s : Shared) (H : Hp) (args : Args) (us : List Value) (vs : List V) (Q : VK) (E : XK), RoomG k A → Env0 P w K mg base A outer s H → BindsTo s fd args (ps.zip us) → Vals vs us → sp vs H Q E →
    codeAny (model P w) A (.call (.ref f) args) (CR (L2.CX P w) outer P w H s Q E) s
def LSp (K : PySem.W.Frag) (mg : Str → Option Value) (m : List D → M D) : Sp := fun vs H Q E =>
  ∃ ρ S ds, Sim K mg ρ S H ∧ RepL K mg ρ H ds vs ∧ WpG K mg (repV K mg) E ρ H (m ds S) Q
/-- how a call with n places and keywords ks binds -/
structure KwOk (K : PySem.W.Frag) (fd : FuncData) (ps : List Str) (n : Nat) (ks : List Str) (p : List Nat) : Prop where
  len : p.length = ps.length
  lt : ∀ i ∈ p, i < n + ks.length
  to : ∀ (s : Shared) (us ws : List Value), K.In s.heap → us.length = n → ws.length = ks.length → BindsTo s fd ⟨us, ks.zip ws⟩ (ps.zip (p.map fun i => (us ++ ws).getD i .none))
structure Cok (T : Tab) (F : Fn) (C : SC) (X : Cx) (W : WX) (k : Nat) : Prop where
  hN : X.N = C.N
  nd : X.N.Nodup
  sc : X.env.scope = C.sc
  calm : X.calm = true
  tk : Takes X W
  room : RoomG k X.A
  gone : ∀ x ∈ C.nm.gone, X.mg x = none
  cns : ∀ (i : Nat) (x : Str) (d : D), C.nm.cns[i]? = some x → F.consts i = some d → ∃ u v, X.mg x = some u ∧ RelV v u ∧ ∀ ρ H, RepV X.K X.mg ρ H d v
  fns : ∀ (f : Nat) (x : Str), C.nm.fns[f]? = some x → ∃ fa fd ps, X.mg x = some (.ref fa) ∧ PySem.W.keepIn X.K (.ref fa) = true ∧ Binds X.K fd ps [] ∧
    (∀ (p n : Nat) (ks : List Str), C.nm.kws[p]? = some (f, n, ks) → ∃ pm, KwOk X.K fd ps n ks pm ∧ ∀ vs, F.perm p vs = permOf pm vs) ∧ FnG X.prog X.w X.K X.mg X.base k fa fd ps (LSp X.K X.mg (F.call f))
  mine : ∀ x, C.mine x = true → Loc X.env.scope x ∧ (X.fn x = true ∨ X.env.scope.names.lookup x = some .local)
section
variable {T : Tab} {F : Fn} {C : SC} {X : Cx} {W : WX} {k : Nat}
theorem Cok.un (c : Cok T F C X W k) : X.A.units + 200 < cLine := by have := c.room.r.un; omega
theorem Cok.un100 (c : Cok T F C X W k) : X.A.units + 100 < cLine := by have := c.un; omega
theorem Cok.gl (c : Cok T F C X W k) {x : Str} (h : C.gl x = true) : Gl X x ∧ X.mg x = none := by
  unfold SC.gl at h
  simp only [Bool.and_eq_true, decide_eq_true_eq] at h
  refine ⟨?_, c.gone x h.2⟩
  show X.env.scope.names.lookup x = _
  rw [c.sc]; exact h.1
theorem Cok.glob (c : Cok T F C X W k) {x : Str} (h : C.glob x = true) : Gl X x := by
  show X.env.scope.names.lookup x = _
  rw [c.sc]
  unfold SC.glob at h
  exact of_decide_eq_true h
theorem Cok.vis (c : Cok T F C X W k) {x : Str} (h : visB C.sc x = true) : Vis X.env.scope x := by
  rw [c.sc]
  unfold visB at h
  unfold Vis
  split at h <;> first | (rename_i e; rw [e]; simp) | cases h
theorem ok_name {x : Str} (h : okName x = true) : (x == ("__debug__" : Str)) = false ∧ (x == ("__classdict__" : Str)) = false ∧ x ≠ "__name__" := by
  unfold okName at h
  simp only [Bool.and_eq_true, decide_eq_true_eq] at h
  exact ⟨beq_eq_false_iff_ne.mpr h.1.1, beq_eq_false_iff_ne.mpr h.1.2, h.2⟩
/-- the callee runs -/
theorem run_fnG {pins : List (Addr × Obj)} {σ : L2.St} {H : Hp} {s : Shared} {Q : VK} {us : List Value} {vs : List V} {f : Addr} {fd : FuncData} {ps : List Str} {sp : Sp} (F : FnG X.prog X.w X.K X.mg X.base k f fd ps sp) (hr : RoomG k X.A) (hb : Binds X.K fd ps []) (tk : Takes X W)
    (I : Inv X pins σ H s) (r : Vals vs us) (h : sp vs H Q (fun c d H' => W c d σ H')) : wpAny (model X.prog X.w) X.A (call (.ref f) us) (EP X pins σ Q) X.xe s := by
  have hl : (us ++ []).length = ps.length := by rw [List.append_nil, ← r.length]; exact F.len _ _ _ _ h
  have hb2 := hb s us I.kIn hl
  rw [List.append_nil] at hb2
  refine wpAny_call (codeAny_mono (F.run X.A X.stack s H ⟨us, []⟩ us vs Q _ hr I.env0 hb2 r h) fun r s' hq => ?_)
  cases r with
  | error e => exact tk e s' (XE.of_call I (fun cls d H' h => h) hq)
  | ok fl =>
    cases fl with
    | ret u => exact I.after hq
    | next => exact False.elim hq
    | brk => exact False.elim hq
    | cont => exact False.elim hq
/-- with keywords -/
theorem run_fnGk {pins : List (Addr × Obj)} {σ : L2.St} {H : Hp} {s : Shared} {Q : VK} {us ws : List Value} {vs zs : List V} {f : Addr} {fd : FuncData} {ps ks : List Str} {n : Nat} {pm : List Nat} {sp : Sp} (F : FnG X.prog X.w X.K X.mg X.base k f fd ps sp) (hr : RoomG k X.A)
    (hb : KwOk X.K fd ps n ks pm) (hn : us.length = n) (hw : ws.length = ks.length) (tk : Takes X W)
    (I : Inv X pins σ H s) (r : Vals vs us) (rz : Vals zs ws) (h : sp (pm.map fun i => (vs ++ zs).getD i .non) H Q (fun c d H' => W c d σ H')) : wpAny (model X.prog X.w) X.A (call (.ref f) us (ks.zip ws)) (EP X pins σ Q) X.xe s := by
  have r2 : Vals (pm.map fun i => (vs ++ zs).getD i .non) (pm.map fun i => (us ++ ws).getD i .none) := by
    have ra := r.append rz
    have : ∀ l : List Nat, (∀ i ∈ l, i < (vs ++ zs).length) → Vals (l.map fun i => (vs ++ zs).getD i .non) (l.map fun i => (us ++ ws).getD i .none) := by
      intro l
      induction l with
      | nil => intro _; exact .nil
      | cons i l ih =>
        intro hl
        refine .cons ?_ (ih fun j hj => hl j (List.mem_cons_of_mem _ hj))
        have hi := hl i (List.mem_cons_self ..)
        obtain ⟨u, hu, ru⟩ := ra.get (List.getElem?_eq_getElem hi)
        show L2.RelV ((vs ++ zs).getD i .non) ((us ++ ws).getD i .none)
        rw [List.getD_eq_getElem?_getD, List.getD_eq_getElem?_getD, hu, List.getElem?_eq_getElem hi]
        exact ru
    exact this pm fun i hi => by
      rw [List.length_append, r.length, rz.length, hn, hw]
      exact hb.lt i hi
  refine wpAny_call (codeAny_mono (F.run X.A X.stack s H ⟨us, ks.zip ws⟩ _ _ Q _ hr I.env0 (hb.to s us ws I.kIn hn hw) r2 h) fun r s' hq => ?_)
  cases r with
  | error e => exact tk e s' (XE.of_call I (fun cls d H' h => h) hq)
  | ok fl =>
    cases fl with
    | ret u => exact I.after hq
    | next => exact False.elim hq
    | brk => exact False.elim hq
    | cont => exact False.elim hq
/-! ### small facts of the syntax -/
theorem star_cons {e : Expr} {es : List Expr} {env : PySem.Env} (h : notStar e = true) : starEach (e :: es) env = (false, eval e env) :: starEach es env := by
  cases e <;> first | rfl | cases h
def noStars (es : List Expr) : Bool := es.all notStar
theorem no_stars {pos : Pos} {env : PySem.Env} : ∀ {es : List Expr}, noStars es = true → (backTo pos (starEach es env)).any (·.1) = false
  | [], _ => rfl
  | e :: es, h => by
    simp only [noStars, List.all_cons, Bool.and_eq_true] at h
    rw [star_cons h.1]
    show (false || (backTo pos (starEach es env)).any (·.1)) = false
    rw [no_stars (es := es) (by simpa [noStars] using h.2)]
    rfl
theorem all_unstarred {pos : Pos} {env : PySem.Env} : ∀ {es : List Expr}, noStars es = true → (backTo pos (starEach es env)).all (fun x => !x.1) = true
  | [], _ => rfl
  | e :: es, h => by
    simp only [noStars, List.all_cons, Bool.and_eq_true] at h
    rw [star_cons h.1]
    show (!false && (backTo pos (starEach es env)).all (fun x => !x.1)) = true
    rw [all_unstarred (es := es) (by simpa [noStars] using h.2)]
    rfl
theorem chkL_stars {C : SC} : ∀ {xs : L} {es : List Expr}, chkL C xs es = true → noStars es = true
  | .nil, es, h => by
    simp only [chkL] at h
    split at h
    · rfl
    · cases h
  | .cons x r, es, h => by
    simp only [chkL] at h
    split at h
    · simp only [Bool.and_eq_true] at h
      simp only [noStars, List.all_cons, h.2, Bool.true_and]
      exact chkL_stars h.1.2
    · cases h
  | .star x r, es, h => by simp [chkL] at h
theorem no_mark {op : CmpOp} {b : Expr} (h : noSets b = true) : behindInMarks op b = false := by
  cases b <;> first | rfl | cases h
theorem last_mark {o o' : CmpOp} {b c : Expr} (h : noSets b = true) (h' : noSets c = true) : lastMarks [o, o'] [b, c] = false := by
  show behindInMarks o' c = false
  exact no_mark h'
/-! ### chains of readings -/
theorem le_bind {α β γ δ : Type} {rep : List Addr → Hp → α → β → Prop} {rep' : List Addr → Hp → γ → δ → Prop} {K : PySem.W.Frag} {mg : Str → Option Value} {m : Env → M α} {n : α → Env → M γ} {σ : L2.St} {H : Hp} {Q : δ → Hp → Prop}
    (h : Lft K mg rep' W (fun η => M.bind (m η) fun a => n a η) σ H Q) :
    Lft K mg rep W m σ H (fun b H1 => ∃ ρ S η a, Sim K mg ρ S H1 ∧ EnvRel K mg ρ H1 η σ ∧ rep ρ H1 a b ∧ WpG K mg rep' (fun c d H' => W c d σ H') ρ H1 (n a η S) Q) := by
  obtain ⟨ρ, S, η, s, er, h⟩ := h
  exact ⟨ρ, S, η, s, er, (WpG.bind h).mono fun b H1 ⟨a, ρ1, S1, e, s1, r, h1⟩ => ⟨ρ1, S1, η, a, s1, er.ext e, r, h1⟩⟩
theorem sn_bin {o : Operator} {a b : Expr} {ma mb : Env → M D} {pos : Pos} (ha : PE X a (LE X W ma)) (hb : PE X b (LE X W mb)) :
    PE X (.BinOp a o b pos) (LE X W fun η => M.bind (ma η) fun x => M.bind (mb η) fun y => binop o x y) := by
  refine PE.imp (pe_op (op_binop o) ha hb) fun σ H Q h => ?_
  obtain ⟨ρ, S, η, s, er, h⟩ := h
  refine ⟨ρ, S, η, s, er, (WpG.bind h).mono fun v H1 ⟨d, ρ1, S1, e1, s1, r1, h1⟩ => ⟨ρ1, S1, η, s1, er.ext e1, (WpG.bind h1).mono fun w H2 ⟨d2, ρ2, S2, e2, s2, r2, h2⟩ => ⟨ρ2, S2, d, d2, s2, RepV.ext e2 r1, r2, _, h2⟩⟩⟩
theorem sn_cmp (hu : X.A.units + 100 < cLine) {o : CmpOp} {a b : Expr} {ma mb : Env → M D} {pos : Pos} (ha : PE X a (LE X W ma)) (hb : PE X b (LE X W mb)) (hm : noSets b = true) :
    PE X (.Compare a [o] [b] pos) (LE X W fun η => M.bind (ma η) fun x => M.bind (mb η) fun y => M.bind (ofOpt (cmpop o x y)) fun k => M.pure (.bl k)) := by
  refine PE.imp (pe_cmpR (op_cmp hu o) ha hb (no_mark hm)) fun σ H Q h => ?_
  obtain ⟨ρ, S, η, s, er, h⟩ := h
  refine ⟨ρ, S, η, s, er, (WpG.bind h).mono fun v H1 ⟨d, ρ1, S1, e1, s1, r1, h1⟩ => ⟨ρ1, S1, η, s1, er.ext e1, (WpG.bind h1).mono fun w H2 ⟨d2, ρ2, S2, e2, s2, r2, h2⟩ => ⟨ρ2, S2, d, d2, s2, RepV.ext e2 r1, r2, _, h2⟩⟩⟩
theorem ofOpt_wp {K : PySem.W.Frag} {mg : Str → Option Value} {Z : XK} {ρ : List Addr} {H : Hp} {f : Store → Option Bool} {S : Store} {Q : Bool → Hp → Prop} (s : Sim K mg ρ S H) (h : WpG K mg repE Z ρ H (ofOpt f S) Q) : ∃ k, f S = some k ∧ Q k H := by
  unfold ofOpt at h
  split at h
  · rename_i e; exact ⟨_, e, okE_at h s⟩
  · exact h.elim
theorem cmpM_wp {K : PySem.W.Frag} {mg : Str → Option Value} {Z : XK} {ρ : List Addr} {H : Hp} {o : CmpOp} {x y : D} {S : Store} {k : Bool} {Q : VK} (e : cmpop o x y S = some k) (q : Q (.bl k) H) (s : Sim K mg ρ S H) :
    WpG K mg (repV K mg) Z ρ H (cmpM o x y S) (fun v H' => v = .bl k ∧ ∃ ρ', Sim K mg ρ' S H' ∧ Ext ρ H ρ' H') := by
  unfold cmpM M.bind ofOpt
  rw [e]
  intro ρ' H' b ex s' r
  exact ⟨r, ρ', s', ex⟩
theorem st_cmp (hu : X.A.units + 100 < cLine) {o : CmpOp} {a b : Expr} {ma mb : Env → M D} {pos : Pos} (ha : PE X a (LE X W ma)) (hb : PE X b (LE X W mb)) (hm : noSets b = true) :
    PT X (.Compare a [o] [b] pos) (LT X W fun η => M.bind (ma η) fun x => M.bind (mb η) fun y => ofOpt (cmpop o x y)) := by
  refine PT.imp (pt_cmpR (op_cmp hu o) ha hb (no_mark hm)) fun σ H Q h => ?_
  obtain ⟨ρ, S, η, s, er, h⟩ := h
  refine ⟨ρ, S, η, s, er, (WpG.bind h).mono fun v H1 ⟨d, ρ1, S1, e1, s1, r1, h1⟩ => ⟨ρ1, S1, η, s1, er.ext e1, (WpG.bind h1).mono fun w H2 ⟨d2, ρ2, S2, e2, s2, r2, h2⟩ => ?_⟩⟩
  refine ⟨ρ2, S2, d, d2, s2, RepV.ext e2 r1, r2, Z0, ?_⟩
  unfold ofOpt at h2
  unfold cmpM M.bind ofOpt
  split at h2
  · rename_i k e
    exact fun ρ' H' b ex s' rr => ⟨k, rr, h2 ρ' H' k ex s' rfl⟩
  · exact h2.elim
/-- a test by its value's truth -/
theorem st_truth {a : Expr} {ma : Env → M D} (ha : PE X a (LE X W ma)) (he : ∀ whole, isTrue a X.env whole = (do let v ← whole; standAt a.pos; holding [v] (truthy v))) : PT X a (LT X W fun η => M.bind (ma η) truth) := by
  refine ⟨fun pins s σ H Q I h => ?_⟩
  rw [he]
  obtain ⟨ρ, S, η, sm, er, h⟩ := h
  refine wpAny_bind (thn (ha.run pins s σ H _ I ⟨ρ, S, η, sm, er, WpG.bind h⟩) fun v s1 ⟨x, H1, I1, r1, d, ρ1, S1, e1, sm1, rd, h1⟩ => ?_)
  exact wpAny_bind (wpAny_standAt (wpAny_holding (tru_V pins s1 σ H1 x v Q I1 r1 ⟨ρ1, S1, d, sm1, rd, _, h1⟩)))
end
end Fw
/-! Fw10: expressions, further -/
namespace Fw
open PySem PySem.Spec PyProof.Rows L2
section
variable {T : Tab} {F : Fn} {C : SC} {X : Cx} {W : WX} {k : Nat}
theorem cmpM_in {K : PySem.W.Frag} {mg : Str → Option Value} {Z : XK} {ρ : List Addr} {H : Hp} {S : Store} {o : CmpOp} {d e : D} {k : Bool} {P : VK} (hk : cmpop o d e S = some k) (h : ∀ ρ' H', Ext ρ H ρ' H' → Sim K mg ρ' S H' → P (.bl k) H') :
    WpG K mg (repV K mg) Z ρ H (cmpM o d e S) P := by
  unfold cmpM M.bind ofOpt
  rw [hk]
  exact fun ρ' H' b ex s' rr => by
    cases (show b = _ from rr)
    exact h ρ' H' ex s'
theorem ofOpt_bind {K : PySem.W.Frag} {mg : Str → Option Value} {Z : XK} {ρ : List Addr} {H : Hp} {S : Store} {γ δ : Type} {rep : List Addr → Hp → γ → δ → Prop} {f : Store → Option Bool} {g : Bool → M γ} {Q : δ → Hp → Prop} (h : WpG K mg rep Z ρ H (M.bind (ofOpt f) g S) Q) :
    ∃ k, f S = some k ∧ WpG K mg rep Z ρ H (g k S) Q := by
  unfold M.bind ofOpt at h
  cases e : f S with
  | none => rw [e] at h; exact h.elim
  | some k => rw [e] at h; exact ⟨k, rfl, h⟩
theorem ofOpt_end {K : PySem.W.Frag} {mg : Str → Option Value} {Z : XK} {ρ : List Addr} {H : Hp} {S : Store} {f : Store → Option Bool} {Q : Bool → Hp → Prop} (h : WpG K mg repE Z ρ H (ofOpt f S) Q) :
    ∃ k, f S = some k ∧ ∀ ρ' H', Ext ρ H ρ' H' → Sim K mg ρ' S H' → Q k H' := by
  unfold ofOpt at h
  cases e : f S with
  | none => rw [e] at h; exact h.elim
  | some k => rw [e] at h; exact ⟨k, rfl, fun ρ' H' ex s' => h ρ' H' k ex s' rfl⟩
theorem sn_chn (hu : X.A.units + 100 < cLine) {o o' : CmpOp} {a b c : Expr} {ma mb mc : Env → M D} {pos : Pos} (ha : PE X a (LE X W ma)) (hb : PE X b (LE X W mb)) (hc : PE X c (LE X W mc)) (hm : noSets b = true) (hm' : noSets c = true) :
    PE X (.Compare a [o, o'] [b, c] pos) (LE X W fun η => M.bind (ma η) fun x => M.bind (mb η) fun y => M.bind (ofOpt (cmpop o x y)) fun k =>
      if k then M.bind (mc η) fun z => M.bind (ofOpt (cmpop o' y z)) fun k' => M.pure (.bl k') else M.pure (.bl false)) := by
  refine PE.imp (pe_chain (op_cmp hu o) (op_cmp hu o') ha hb hc (last_mark hm hm')) fun σ H Q h => ?_
  obtain ⟨ρ, S, η, s, er, h⟩ := h
  refine ⟨ρ, S, η, s, er, (WpG.bind h).mono fun v H1 ⟨d, ρ1, S1, e1, s1, r1, h1⟩ => ⟨ρ1, S1, η, s1, er.ext e1, (WpG.bind h1).mono fun w H2 ⟨d2, ρ2, S2, e2, s2, r2, h2⟩ => ?_⟩⟩
  obtain ⟨k, hk, h2⟩ := ofOpt_bind h2
  refine ⟨ρ2, S2, d, d2, s2, RepV.ext e2 r1, r2, Z0, cmpM_in hk fun ρ' H' ex s' => ⟨k, rfl, ?_⟩⟩
  cases k with
  | false => exact h2 ρ' H' (.bl false) ex s' (by rfl)
  | true =>
    have h3 := WpG.later ex h2
    exact ⟨ρ', S2, η, s', (er.ext (e1.trans e2)).ext ex, (WpG.bind (m := mc η) (k := fun z => M.bind (ofOpt (cmpop o' d2 z)) fun k' => M.pure (D.bl k')) h3).mono fun u H4 ⟨d3, ρ4, S4, e4, s4, r4, h4⟩ => ⟨ρ4, S4, d2, d3, s4, RepV.ext (ex.trans e4) r2, r4, _, h4⟩⟩
theorem st_chn (hu : X.A.units + 100 < cLine) {o o' : CmpOp} {a b c : Expr} {ma mb mc : Env → M D} {pos : Pos} (ha : PE X a (LE X W ma)) (hb : PE X b (LE X W mb)) (hc : PE X c (LE X W mc)) (hm : noSets b = true) (hm' : noSets c = true) :
    PT X (.Compare a [o, o'] [b, c] pos) (LT X W fun η => M.bind (ma η) fun x => M.bind (mb η) fun y => M.bind (ofOpt (cmpop o x y)) fun k =>
      if k then M.bind (mc η) fun z => ofOpt (cmpop o' y z) else M.pure false) := by
  refine PT.imp (pt_chain (op_cmp hu o) (op_cmp hu o') ha hb hc (last_mark hm hm')) fun σ H Q h => ?_
  obtain ⟨ρ, S, η, s, er, h⟩ := h
  refine ⟨ρ, S, η, s, er, (WpG.bind h).mono fun v H1 ⟨d, ρ1, S1, e1, s1, r1, h1⟩ => ⟨ρ1, S1, η, s1, er.ext e1, (WpG.bind h1).mono fun w H2 ⟨d2, ρ2, S2, e2, s2, r2, h2⟩ => ?_⟩⟩
  obtain ⟨k, hk, h2⟩ := ofOpt_bind h2
  refine ⟨ρ2, S2, d, d2, s2, RepV.ext e2 r1, r2, Z0, cmpM_in hk fun ρ' H' ex s' => ⟨k, rfl, ?_⟩⟩
  cases k with
  | false => exact ⟨false, rfl, h2 ρ' H' false ex s' rfl⟩
  | true =>
    have h3 := WpG.later ex h2
    refine ⟨ρ', S2, η, s', (er.ext (e1.trans e2)).ext ex, (WpG.bind (m := mc η) (k := fun z => ofOpt (cmpop o' d2 z)) h3).mono fun u H4 ⟨d3, ρ4, S4, e4, s4, r4, h4⟩ => ?_⟩
    obtain ⟨k2, hk2, h4⟩ := ofOpt_end h4
    exact ⟨ρ4, S4, d2, d3, s4, RepV.ext (ex.trans e4) r2, r4, Z0, cmpM_in hk2 fun ρ' H' ex s' => ⟨k2, rfl, h4 ρ' H' ex s'⟩⟩
theorem isBl_ok {K : PySem.W.Frag} {mg : Str → Option Value} {Z : XK} {ρ : List Addr} {H : Hp} {S : Store} {γ δ : Type} {rep : List Addr → Hp → γ → δ → Prop} {d : D} {v : V} {f : Bool → M γ} {Q : δ → Hp → Prop} (r : RepV K mg ρ H d v) (h : WpG K mg rep Z ρ H (M.bind (isBl d) f S) Q) :
    ∃ b, v = .bl b ∧ WpG K mg rep Z ρ H (f b S) Q := by
  unfold M.bind isBl at h
  split at h
  · rename_i e
    split at e
    · cases e; exact ⟨_, r, h⟩
    · cases e
  · rename_i e
    split at e <;> cases e
  · exact h.elim
theorem sn_not {a : Expr} {ma : Env → M D} {pos : Pos} (ha : PE X a (LE X W ma)) : PE X (.UnaryOp .Not a pos) (LE X W fun η => M.bind (ma η) fun x => M.bind (isBl x) fun k => M.pure (.bl (!k))) := by
  refine PE.imp (pe_not ha) fun σ H Q h => ?_
  obtain ⟨ρ, S, η, s, er, h⟩ := h
  refine ⟨ρ, S, η, s, er, (WpG.bind h).mono fun v H1 ⟨d, ρ1, S1, e1, s1, r1, h1⟩ => ?_⟩
  obtain ⟨b, rfl, h2⟩ := isBl_ok r1 h1
  exact ⟨b, rfl, ok_at h2 s1 (by rfl)⟩
theorem sn_neg {a : Expr} {ma : Env → M D} {pos : Pos} (ha : PE X a (LE X W ma)) : PE X (.UnaryOp .USub a pos) (LE X W fun η => M.bind (ma η) fun x => match x with
    | .int i => M.pure (.int (-i))
    | _ => M.bad) := by
  refine PE.imp (pe_un un_neg ha) fun σ H Q h => ?_
  obtain ⟨ρ, S, η, s, er, h⟩ := h
  refine ⟨ρ, S, η, s, er, (WpG.bind h).mono fun v H1 ⟨d, ρ1, S1, e1, s1, r1, h1⟩ => ?_⟩
  split at h1
  · exact ⟨_, r1, ok_at h1 s1 (by rfl)⟩
  · exact h1.elim
theorem sn_ife {c a b : Expr} {mc : Env → M Bool} {ma mb : Env → M D} {pos : Pos} (hc : PT X c (LT X W mc)) (ha : PE X a (LE X W ma)) (hb : PE X b (LE X W mb)) :
    PE X (.IfExp c a b pos) (LE X W fun η => M.bind (mc η) fun k => if k then ma η else mb η) := by
  refine PE.imp (pe_ifExp hc ha hb) fun σ H Q h => ?_
  obtain ⟨ρ, S, η, s, er, h⟩ := h
  refine ⟨ρ, S, η, s, er, (WpG.bind h).mono fun v H1 ⟨d, ρ1, S1, e1, s1, r1, h1⟩ => ?_⟩
  have e : d = v := r1
  subst e
  cases d with
  | true => exact ⟨ρ1, S1, η, s1, er.ext e1, h1⟩
  | false => exact ⟨ρ1, S1, η, s1, er.ext e1, h1⟩
theorem st_not {a : Expr} {ma : Env → M Bool} {pos : Pos} (ha : PT X a (LT X W ma)) : PT X (.UnaryOp .Not a pos) (LT X W fun η => M.bind (ma η) fun k => M.pure (!k)) := by
  refine PT.imp (pt_not ha) fun σ H Q h => ?_
  obtain ⟨ρ, S, η, s, er, h⟩ := h
  refine ⟨ρ, S, η, s, er, (WpG.bind h).mono fun v H1 ⟨d, ρ1, S1, e1, s1, r1, h1⟩ => ?_⟩
  cases r1
  exact okE_at h1 s1
/-! ### lists of expressions -/
theorem sn_nil : PA X [] (LA X W fun _ => M.pure []) := by
  refine PA.imp pa_nil fun σ H Q h => ?_
  obtain ⟨ρ, S, η, s, er, h⟩ := h
  exact ok_at h s (by rfl)
theorem sn_cons {e : Expr} {es : List Expr} {m : Env → M D} {ms : Env → M (List D)} (he : PE X e (LE X W m)) (hes : PA X es (LA X W ms)) (hs : notStar e = true) :
    PA X (e :: es) (LA X W fun η => M.bind (m η) fun x => M.bind (ms η) fun xs => M.pure (x :: xs)) := by
  refine PA.imp (pa_cons he hes (star_cons hs)) fun σ H Q h => ?_
  obtain ⟨ρ, S, η, s, er, h⟩ := h
  refine ⟨ρ, S, η, s, er, (WpG.bind h).mono fun v H1 ⟨d, ρ1, S1, e1, s1, r1, h1⟩ => ⟨ρ1, S1, η, s1, er.ext e1, (WpG.bind h1).mono fun vs H2 ⟨ds, ρ2, S2, e2, s2, r2, h2⟩ => ?_⟩⟩
  refine ok_at h2 s2 ?_
  show RepL X.K X.mg _ _ (d :: ds) _
  simp only [RepL]
  exact ⟨v, vs, rfl, RepV.ext e2 r1, r2⟩
theorem many_ok {K : PySem.W.Frag} {mg : Str → Option Value} {Z : XK} {ρ : List Addr} {H : Hp} {S : Store} {γ δ : Type} {rep : List Addr → Hp → γ → δ → Prop} {xs : List D} {f : List D → M γ} {Q : δ → Hp → Prop} (h : WpG K mg rep Z ρ H (M.bind (many xs) f S) Q) :
    xs.length ≤ sizeLine ∧ WpG K mg rep Z ρ H (f xs S) Q := by
  unfold M.bind many at h
  split at h
  · rename_i e
    split at e
    · cases e; exact ⟨by assumption, h⟩
    · cases e
  · rename_i e
    split at e <;> cases e
  · exact h.elim
theorem sn_tup {es : List Expr} {ms : Env → M (List D)} {n : Nat} {pos : Pos} (h : PA X es (LA X W ms)) : PE X (.Tuple es n pos) (LE X W fun η => M.bind (ms η) fun vs => M.bind (many vs) fun vs => M.pure (.tup vs)) := by
  refine PE.imp (pe_tup h) fun σ H Q h => ?_
  obtain ⟨ρ, S, η, s, er, h⟩ := h
  refine ⟨ρ, S, η, s, er, (WpG.bind h).mono fun vs H1 ⟨ds, ρ1, S1, e1, s1, r1, h1⟩ => ?_⟩
  obtain ⟨hz, h2⟩ := many_ok h1
  have hl : ds.length = vs.length := RepL.len r1
  exact ⟨by rw [← hl]; exact hz, fun p hp => ok_tup h2 s1 r1 hp⟩
theorem sn_lst {es : List Expr} {ms : Env → M (List D)} {pos : Pos} (h : PA X es (LA X W ms)) : PE X (.List es pos) (LE X W fun η => M.bind (ms η) fun vs => M.bind (many vs) fun vs => M.alloc (.lst vs)) := by
  refine PE.imp (pe_lst h) fun σ H Q h => ?_
  obtain ⟨ρ, S, η, s, er, h⟩ := h
  refine ⟨ρ, S, η, s, er, (WpG.bind h).mono fun vs H1 ⟨ds, ρ1, S1, e1, s1, r1, h1⟩ => ?_⟩
  obtain ⟨hz, h2⟩ := many_ok h1
  have hl : ds.length = vs.length := RepL.len r1
  exact ⟨by rw [← hl]; exact hz, fun p hp => ok_lst h2 s1 r1 hp⟩
theorem sn_dct0 {pos : Pos} : PE X (.Dict [] [] pos) (LE X W fun _ => M.alloc (.dct [])) := by
  refine PE.imp pe_dnewK fun σ H Q h => ?_
  obtain ⟨ρ, S, η, s, er, h⟩ := h
  exact fun p hp => ok_new h s hp ⟨[], upd_same, rfl⟩
theorem plain_ix {b : Expr} (h : ∀ l u st p, b ≠ .Slice l u st p) : PlainIx b := fun o i => by
  cases b <;> first | rfl | exact absurd rfl (h _ _ _ _)
theorem sn_idx (hu : X.A.units + 100 < cLine) {a b : Expr} {ma mb : Env → M D} {pos : Pos} (ha : PE X a (LE X W ma)) (hb : PE X b (LE X W mb)) (hs : ∀ l u st p, b ≠ .Slice l u st p) :
    PE X (.Subscript a b pos) (LE X W fun η => M.bind (ma η) fun x => M.bind (mb η) fun y => getix x y) := by
  refine PE.imp (pe_ix (ix_V hu) ha hb (plain_ix hs)) fun σ H Q h => ?_
  obtain ⟨ρ, S, η, s, er, h⟩ := h
  exact ⟨ρ, S, η, s, er, (WpG.bind h).mono fun v H1 ⟨d, ρ1, S1, e1, s1, r1, h1⟩ => ⟨ρ1, S1, η, s1, er.ext e1, (WpG.bind h1).mono fun w H2 ⟨d2, ρ2, S2, e2, s2, r2, h2⟩ => ⟨ρ2, S2, d, d2, s2, RepV.ext e2 r1, r2, _, h2⟩⟩⟩
abbrev LO (X : Cx) (W : WX) (m : Env → M (Option Int)) : TO := Lft X.K X.mg repE W m
theorem PO.imp {e : Option Expr} {t t' : TO} (h : PO X e t) (i : ∀ σ H Q, t' σ H Q → t σ H Q) : PO X e t' := ⟨fun pins s σ H Q I q => h.run pins s σ H Q I (i σ H Q q)⟩
theorem so_none : PO X none (LO X W fun _ => M.pure none) := by
  refine PO.imp po_none fun σ H Q h => ?_
  obtain ⟨ρ, S, η, s, er, h⟩ := h
  exact okE_at h s
theorem so_some {e : Expr} {m : Env → M D} (he : PE X e (LE X W m)) : PO X (some e) (LO X W fun η => M.bind (m η) fun x => match x with
    | .int i => M.pure (some i)
    | _ => M.bad) := by
  refine PO.imp (po_some he) fun σ H Q h => ?_
  obtain ⟨ρ, S, η, s, er, h⟩ := h
  refine ⟨ρ, S, η, s, er, (WpG.bind h).mono fun v H1 ⟨d, ρ1, S1, e1, s1, r1, h1⟩ => ?_⟩
  split at h1
  · exact ⟨_, r1, okE_at h1 s1⟩
  · exact h1.elim
theorem sn_slc {a : Expr} {lo hi : Option Expr} {ma : Env → M D} {ml mh : Env → M (Option Int)} {pos p2 : Pos} (ha : PE X a (LE X W ma)) (hl : PO X lo (LO X W ml)) (hh : PO X hi (LO X W mh)) :
    PE X (.Subscript a (.Slice lo hi none p2) pos) (LE X W fun η => M.bind (ma η) fun x => M.bind (ml η) fun l => M.bind (mh η) fun h => slice x l h) := by
  refine PE.imp (pe_slice sl_V ha hl hh) fun σ H Q h => ?_
  obtain ⟨ρ, S, η, s, er, h⟩ := h
  refine ⟨ρ, S, η, s, er, (WpG.bind h).mono fun v H1 ⟨d, ρ1, S1, e1, s1, r1, h1⟩ => ⟨ρ1, S1, η, s1, er.ext e1, (WpG.bind h1).mono fun w H2 ⟨d2, ρ2, S2, e2, s2, r2, h2⟩ => ⟨ρ2, S2, η, s2, er.ext (e1.trans e2), (WpG.bind h2).mono fun w' H3 ⟨d3, ρ3, S3, e3, s3, r3, h3⟩ => ?_⟩⟩⟩
  cases r2
  cases r3
  exact ⟨ρ3, S3, d, s3, RepV.ext (e2.trans e3) r1, _, h3⟩
theorem sn_rev {a : Expr} {ma : Env → M D} {n : Nat} {p1 p2 p3 pos : Pos} (ha : PE X a (LE X W ma)) :
    PE X (.Subscript a (.Slice none none (some (.UnaryOp .USub (.Constant (.int 1) n p1) p2)) p3) pos) (LE X W fun η => M.bind (ma η) fun x => reversed x) := by
  refine PE.imp (pe_revL ha) fun σ H Q h => ?_
  obtain ⟨ρ, S, η, s, er, h⟩ := h
  refine ⟨ρ, S, η, s, er, (WpG.bind h).mono fun v H1 ⟨d, ρ1, S1, e1, s1, r1, h1⟩ => ?_⟩
  unfold reversed at h1
  split at h1
  · split at h1
    · rename_i e0
      obtain ⟨a, vs, rfl, _, ha, ra⟩ := rep_lst s1 r1 e0
      exact ⟨a, vs, rfl, SqL.of ha, fun p hp => ok_lst h1 s1 ra.reverse hp⟩
    · exact h1.elim
  · exact h1.elim
/-! ### calls -/
theorem sn_call (c : Cok T F C X W k) {f : Nat} {x : Str} {e : Expr} {es : List Expr} {ms : Env → M (List D)} {p pos : Pos} (hf : C.nm.fns[f]? = some x) (hg : C.glob x = true) (hn : okName x = true) (ha : PA X (e :: es) (LA X W ms)) (hs : noStars (e :: es) = true) :
    PE X (.Call (.Name x p) (e :: es) [] pos) (LE X W fun η => M.bind (ms η) fun vs => F.call f vs) := by
  obtain ⟨fa, fd, ps, hm, hk, hb, _, hF⟩ := c.fns f x hf
  obtain ⟨hd, _, _⟩ := ok_name hn
  refine ⟨fun pins s σ H Q I h => ?_⟩
  obtain ⟨ρ, S, η, sm, er, h⟩ := h
  refine wpAny_Call_Name_kw (ld_glob I (c.glob hg) hm ?_ hd)
  simp only [noStars, List.all_cons, Bool.and_eq_true] at hs
  refine PySem.W.callWith_K (h₀ := X.base) I.ok.mod.kin hk (thn (ha.run pos pins s σ H _ I ⟨ρ, S, η, sm, er, WpG.bind h⟩) fun us s1 ⟨vs, H1, I1, r, ds, ρ1, S1, e1, sm1, rd, h1⟩ => ⟨I1.kIn, ?_⟩) (star_cons hs.1) (no_stars (by simpa [noStars] using hs.2))
  exact run_fnG hF c.room hb c.tk I1 r ⟨ρ1, S1, ds, sm1, rd, h1⟩
theorem sn_call0 (c : Cok T F C X W k) {f : Nat} {x : Str} {p pos : Pos} (hf : C.nm.fns[f]? = some x) (hg : C.glob x = true) (hn : okName x = true) :
    PE X (.Call (.Name x p) [] [] pos) (LE X W fun η => M.bind (M.pure []) fun vs => F.call f vs) := by
  obtain ⟨fa, fd, ps, hm, hk, hb, _, hF⟩ := c.fns f x hf
  obtain ⟨hd, _, _⟩ := ok_name hn
  refine ⟨fun pins s σ H Q I h => ?_⟩
  obtain ⟨ρ, S, η, sm, er, h⟩ := h
  refine wpAny_Call_Name_kw (ld_glob I (c.glob hg) hm ?_ hd)
  exact PySem.W.callWith_K0 I.kIn hk (run_fnG (us := []) hF c.room hb c.tk I .nil ⟨ρ, S, [], sm, rfl, h⟩)
theorem kw_some {pos : Pos} {env : PySem.Env} : ∀ {kws : List Keyword} {ks : List Str}, kws.filterMap (·.arg) = ks → kws.length = ks.length → (backToKw pos (keywordEach kws env)).all (·.1.isSome) = true ∧ (backToKw pos (keywordEach kws env)).filterMap (·.1) = ks ∧ (backToKw pos (keywordEach kws env)).any (·.1.isNone) = false
  | [], ks, h, _ => by subst h; exact ⟨rfl, rfl, rfl⟩
  | ⟨none, v, p⟩ :: r, ks, h, hl => by
    have : (r.filterMap (·.arg)).length ≤ r.length := List.length_filterMap_le _ _
    rw [List.filterMap_cons] at h
    simp only at h
    rw [h] at this
    rw [List.length_cons] at hl
    omega
  | ⟨some x, v, p⟩ :: r, ks, h, hl => by
    rw [List.filterMap_cons] at h
    simp only at h
    subst h
    obtain ⟨h1, h2, h3⟩ := kw_some (pos := pos) (env := env) (kws := r) rfl (by simpa using hl)
    refine ⟨?_, ?_, ?_⟩
    · show ((some x).isSome && (backToKw pos (keywordEach r env)).all (·.1.isSome)) = true
      rw [h1]; rfl
    · show (((some x), _) :: backToKw pos (keywordEach r env)).filterMap (·.1) = _
      rw [List.filterMap_cons]
      simp only
      rw [h2]
    · show ((some x).isNone || (backToKw pos (keywordEach r env)).any (·.1.isNone)) = false
      rw [h3]; rfl
abbrev LK (X : Cx) (W : WX) (m : Env → M (List D)) : TA := Lft X.K X.mg (repL X.K X.mg) W m
theorem PK.imp {e : List Keyword} {t t' : TA} (h : PK X e t) (i : ∀ σ H Q, t' σ H Q → t σ H Q) : PK X e t' := ⟨fun pos pins s σ H Q I q => h.run pos pins s σ H Q I (i σ H Q q)⟩
theorem sk_nil : PK X [] (LK X W fun _ => M.pure []) := by
  refine PK.imp pk_nil fun σ H Q h => ?_
  obtain ⟨ρ, S, η, s, er, h⟩ := h
  exact ok_at h s (by rfl)
theorem sk_cons {nm : Option Str} {e : Expr} {p : Pos} {es : List Keyword} {m : Env → M D} {ms : Env → M (List D)} (he : PE X e (LE X W m)) (hes : PK X es (LK X W ms)) :
    PK X (⟨nm, e, p⟩ :: es) (LK X W fun η => M.bind (m η) fun x => M.bind (ms η) fun xs => M.pure (x :: xs)) := by
  refine PK.imp (pk_cons he hes) fun σ H Q h => ?_
  obtain ⟨ρ, S, η, s, er, h⟩ := h
  refine ⟨ρ, S, η, s, er, (WpG.bind h).mono fun v H1 ⟨d, ρ1, S1, e1, s1, r1, h1⟩ => ⟨ρ1, S1, η, s1, er.ext e1, (WpG.bind h1).mono fun vs H2 ⟨ds, ρ2, S2, e2, s2, r2, h2⟩ => ?_⟩⟩
  refine ok_at h2 s2 ?_
  show RepL X.K X.mg _ _ (d :: ds) _
  simp only [RepL]
  exact ⟨v, vs, rfl, RepV.ext e2 r1, r2⟩
end
end Fw
/-! Fw11: calls, methods, comprehensions -/
namespace Fw
open PySem PySem.Spec PyProof.Rows L2
section
variable {T : Tab} {F : Fn} {C : SC} {X : Cx} {W : WX} {k : Nat}
theorem WpG.bindE {α β γ δ : Type} {K : PySem.W.Frag} {mg : Str → Option Value} {rep : List Addr → Hp → α → β → Prop} {rep' : List Addr → Hp → γ → δ → Prop} {Z : XK} {ρ : List Addr} {H : Hp} {m : M α} {k : α → M γ} {S : Store} {Q : δ → Hp → Prop} (h : WpG K mg rep' Z ρ H (M.bind m k S) Q) :
    WpG K mg rep Z ρ H (m S) (fun b H1 => ∃ a ρ1 S1, m S = .ok a S1 ∧ Ext ρ H ρ1 H1 ∧ Sim K mg ρ1 S1 H1 ∧ rep ρ1 H1 a b ∧ WpG K mg rep' Z ρ1 H1 (k a S1) Q) := by
  unfold M.bind at h
  cases e : m S with
  | ok a S' =>
    rw [e] at h
    exact fun ρ' H' b e' s q => ⟨a, ρ', S', rfl, e', s, q, WpG.later e' h⟩
  | err d S' => rw [e] at h; exact h
  | bad => rw [e] at h; exact h
theorem RepL.one_way {K : PySem.W.Frag} {mg : Str → Option Value} {ρ : List Addr} {H : Hp} {ds es : List D} {vs ws : List V} (pm : List Nat) (r : RepL K mg ρ H ds vs) (r' : RepL K mg ρ H es ws) (hp : ∀ i ∈ pm, i < ds.length + es.length) :
    RepL K mg ρ H (permOf pm (ds ++ es)) (pm.map fun i => (vs ++ ws).getD i .non) := by
  have ra := r.append r'
  unfold permOf
  induction pm with
  | nil => rfl
  | cons i pm ih =>
    simp only [List.map_cons, RepL]
    refine ⟨_, _, rfl, ?_, ih fun j hj => hp j (List.mem_cons_of_mem _ hj)⟩
    have hi : i < (ds ++ es).length := by rw [List.length_append]; exact hp i (List.mem_cons_self ..)
    obtain ⟨v, hv, rv⟩ := ra.get (List.getElem?_eq_getElem hi)
    rw [List.getD_eq_getElem?_getD, List.getD_eq_getElem?_getD, hv, List.getElem?_eq_getElem hi]
    exact rv
theorem sn_callk (c : Cok T F C X W k) {f q : Nat} {x : Str} {e : Expr} {es : List Expr} {kws : List Keyword} {ks : List Str} {ms mk : Env → M (List D)} {p pos : Pos} (hf : C.nm.fns[f]? = some x) (hg : C.glob x = true) (hn : okName x = true) (ha : PA X (e :: es) (LA X W ms)) (hs : noStars (e :: es) = true)
    (hk : PK X kws (LK X W mk)) (hq : C.nm.kws[q]? = some (f, (e :: es).length, ks)) (hks : kws.filterMap (·.arg) = ks) (hkl : kws.length = ks.length)
    (l1 : ∀ η S ds S', ms η S = .ok ds S' → ds.length = (e :: es).length) (l2 : ∀ η S ds S', mk η S = .ok ds S' → ds.length = ks.length) :
    PE X (.Call (.Name x p) (e :: es) kws pos) (LE X W fun η => M.bind (ms η) fun vs => M.bind (mk η) fun ws => F.call f (F.perm q (vs ++ ws))) := by
  obtain ⟨fa, fd, ps, hm, hkp, hb, hkw, hF⟩ := c.fns f x hf
  obtain ⟨pm, hpm, hperm⟩ := hkw q _ _ hq
  obtain ⟨hd, _, _⟩ := ok_name hn
  obtain ⟨k1, k2, k3⟩ := kw_some (pos := pos) (env := X.env) hks hkl
  refine ⟨fun pins s σ H Q I h => ?_⟩
  obtain ⟨ρ, S, η, sm, er, h⟩ := h
  refine wpAny_Call_Name_kw (ld_glob I (c.glob hg) hm ?_ hd)
  have hs' := hs
  simp only [noStars, List.all_cons, Bool.and_eq_true] at hs'
  refine PySem.W.callWith_KW (h₀ := X.base) I.ok.mod.kin hkp k1 (thn (ha.run pos pins s σ H _ I ⟨ρ, S, η, sm, er, WpG.bindE h⟩) fun us s1 ⟨vs, H1, I1, r, ds, ρ1, S1, m1, e1, sm1, rd, h1⟩ => ?_) (by rw [no_stars hs, k3]; rfl) (star_cons hs'.1)
  refine thn (hk.run pos pins s1 σ H1 _ I1 ⟨ρ1, S1, η, sm1, er.ext e1, WpG.bindE h1⟩) fun ws s2 ⟨zs, H2, I2, rz, es', ρ2, S2, m2, e2, sm2, rz', h2⟩ => ⟨I2.kIn, ?_⟩
  rw [k2]
  have n1 := l1 _ _ _ _ m1
  have n2 := l2 _ _ _ _ m2
  have rd2 : RepL X.K X.mg ρ2 H2 ds vs := RepL.ext e2 rd
  have a1 : ds.length = vs.length := rd2.len
  have a2 : es'.length = zs.length := RepL.len rz'
  refine run_fnGk hF c.room hpm (by show us.length = _; rw [← r.length, ← a1, n1]) (by rw [← rz.length, ← a2, n2]) c.tk I2 r rz ⟨ρ2, S2, F.perm q (ds ++ es'), sm2, ?_, h2⟩
  rw [hperm]
  exact RepL.one_way pm rd2 rz' fun i hi => by rw [n1, n2]; exact hpm.lt i hi
theorem sn_callk0 (c : Cok T F C X W k) {f q : Nat} {x : Str} {kws : List Keyword} {ks : List Str} {mk : Env → M (List D)} {p pos : Pos} (hf : C.nm.fns[f]? = some x) (hg : C.glob x = true) (hn : okName x = true)
    (hk : PK X kws (LK X W mk)) (hq : C.nm.kws[q]? = some (f, 0, ks)) (hks : kws.filterMap (·.arg) = ks) (hkl : kws.length = ks.length)
    (l2 : ∀ η S ds S', mk η S = .ok ds S' → ds.length = ks.length) :
    PE X (.Call (.Name x p) [] kws pos) (LE X W fun η => M.bind (M.pure []) fun vs => M.bind (mk η) fun ws => F.call f (F.perm q (vs ++ ws))) := by
  obtain ⟨fa, fd, ps, hm, hkp, hb, hkw, hF⟩ := c.fns f x hf
  obtain ⟨pm, hpm, hperm⟩ := hkw q _ _ hq
  obtain ⟨hd, _, _⟩ := ok_name hn
  obtain ⟨k1, k2, k3⟩ := kw_some (pos := pos) (env := X.env) hks hkl
  refine ⟨fun pins s σ H Q I h => ?_⟩
  obtain ⟨ρ, S, η, sm, er, h⟩ := h
  refine wpAny_Call_Name_kw (ld_glob I (c.glob hg) hm ?_ hd)
  have h : WpG X.K X.mg (repV X.K X.mg) (fun c d H' => W c d σ H') ρ H (M.bind (mk η) (fun ws => F.call f (F.perm q ([] ++ ws))) S) Q := h
  refine PySem.W.callWith_KW0 (h₀ := X.base) I.ok.mod.kin hkp k1 (thn (hk.run pos pins s σ H _ I ⟨ρ, S, η, sm, er, WpG.bindE h⟩) fun ws s2 ⟨zs, H2, I2, rz, es', ρ2, S2, m2, e2, sm2, rz', h2⟩ => ⟨I2.kIn, ?_⟩) (by rw [k3]; rfl)
  rw [k2]
  have n2 := l2 _ _ _ _ m2
  have a2 : es'.length = zs.length := RepL.len rz'
  refine run_fnGk (us := []) (vs := []) hF c.room hpm rfl (by rw [← rz.length, ← a2, n2]) c.tk I2 .nil rz ⟨ρ2, S2, F.perm q ([] ++ es'), sm2, ?_, h2⟩
  rw [hperm]
  exact RepL.one_way pm (ds := []) (vs := []) rfl rz' fun i hi => by rw [n2, List.length_nil]; exact hpm.lt i hi
/-! ### built-ins -/
theorem boot_bi (b : Bi) : bootBuiltins b.name = some b.val := by cases b <;> decide +kernel
theorem bi_name (b : Bi) : b.name ≠ "__name__" ∧ (b.name == ("__debug__" : Str)) = false := by cases b <;> exact ⟨by decide +kernel, by decide +kernel⟩
theorem bi_kind (b : Bi) : (∃ i, b.val = .builtin i) ∨ ∃ i, b.val = .type i := by cases b <;> first | exact .inl ⟨_, rfl⟩ | exact .inr ⟨_, rfl⟩
theorem sn_bi (c : Cok T F C X W k) {b : Bi} {e : Expr} {es : List Expr} {ms : Env → M (List D)} {p pos : Pos} (hg : C.gl b.name = true) (ha : PA X (e :: es) (LA X W ms)) (hs : noStars (e :: es) = true) :
    PE X (.Call (.Name b.name p) (e :: es) [] pos) (LE X W fun η => M.bind (ms η) fun vs => bicall b vs) := by
  obtain ⟨g1, g2⟩ := c.gl hg
  have hs' := hs
  simp only [noStars, List.all_cons, Bool.and_eq_true] at hs'
  have cb := call_bi c.calm c.room.g c.un b
  have im : ∀ σ H Q, LE X W (fun η => M.bind (ms η) fun vs => bicall b vs) σ H Q → tCB (LvL X.K X.mg (bicall b)) (LA X W ms) σ H Q := fun σ H Q h => by
    obtain ⟨ρ, S, η, s, er, h⟩ := h
    exact ⟨ρ, S, η, s, er, (WpG.bind h).mono fun vs H1 ⟨ds, ρ1, S1, e1, s1, r1, h1⟩ => ⟨ρ1, S1, ds, s1, r1, _, h1⟩⟩
  rcases bi_kind b with ⟨i, ei⟩ | ⟨i, ei⟩
  · exact PE.imp (pe_callB (id := i) (by rw [← ei]; exact cb) g1 g2 (by rw [← ei]; exact boot_bi b) ha (bi_name b).1 (bi_name b).2 (star_cons hs'.1) (no_stars (by simpa [noStars] using hs'.2))) im
  · exact PE.imp (pe_callTy (T := i) (by rw [← ei]; exact cb) g1 g2 (by rw [← ei]; exact boot_bi b) ha (bi_name b).1 (bi_name b).2 (star_cons hs'.1) (no_stars (by simpa [noStars] using hs'.2))) im
/-! ### methods -/
theorem base_of {o : Expr} {a : Str} {env : PySem.Env} {whole : Sem Value} (h : plainBase o = true) : attributeBase o a env whole = whole := by
  cases o <;> first | rfl | cases h
theorem mt_facts (m : Mt) (h : m ≠ .items ∧ m ≠ .values ∧ m ≠ .keys) : PlainAttrs m.ty ∧ Slot m.ty m.name m.id ∧ typeOf (.builtin m.id) = pure (.type "method_descriptor") := by
  cases m
  · exact ⟨PySem.F.plainAttrs_list, PySem.F.slot_list_append, PySem.F.type_list_append⟩
  · exact ⟨PySem.F.plainAttrs_list, PySem.F.slot_list_extend, PySem.F.type_list_extend⟩
  · exact ⟨PySem.F.plainAttrs_list, PySem.F.slot_list_pop, PySem.F.type_list_pop⟩
  · exact ⟨PySem.F.plainAttrs_dict, PySem.F.slot_dict_get, PySem.F.type_dict_get⟩
  · exact absurd rfl h.1
  · exact absurd rfl h.2.1
  · exact absurd rfl h.2.2
  · exact ⟨PySem.F.plainAttrs_str, PySem.F.slot_str_join, PySem.F.type_str_join⟩
/-- the receiver is of the method's kind, whatever stands behind -/
theorem mt_recv {m : Mt} {K : PySem.W.Frag} {mg : Str → Option Value} {ρ : List Addr} {H : Hp} {S : Store} {d : D} {v : V} (s : Sim K mg ρ S H) (r : RepV K mg ρ H d v)
    (h : recvOk m d S = true) : tyV K m.ty v H ∧ m ≠ .items ∧ m ≠ .values ∧ m ≠ .keys := by
  unfold recvOk at h
  split at h
  · split at h
    · rename_i e
      obtain ⟨a, vs, rfl, _, ha, _⟩ := rep_lst s r e
      exact ⟨.inl ⟨rfl, vs, SqL.of ha⟩, by decide⟩
    · cases h
  · split at h
    · rename_i e
      obtain ⟨a, vs, rfl, _, ha, _⟩ := rep_lst s r e
      exact ⟨.inl ⟨rfl, vs, SqL.of ha⟩, by decide⟩
    · cases h
  · split at h
    · rename_i e
      obtain ⟨a, vs, rfl, _, ha, _⟩ := rep_lst s r e
      exact ⟨.inl ⟨rfl, vs, SqL.of ha⟩, by decide⟩
    · cases h
  · split at h
    · rename_i e
      obtain ⟨a, vs, rfl, _, ha, _⟩ := rep_dct s r e
      exact ⟨.inr (.inr (.inl ⟨rfl, .inl ⟨vs, ha⟩⟩)), by decide⟩
    · cases h
  · cases (show v = _ from r)
    exact ⟨rfl, by decide⟩
  · cases h
theorem recv_ok {m : Mt} {K : PySem.W.Frag} {mg : Str → Option Value} {Z : XK} {ρ : List Addr} {H : Hp} {S : Store} {γ δ : Type} {rep : List Addr → Hp → γ → δ → Prop} {d : D} {f : D → M γ} {Q : δ → Hp → Prop} (h : WpG K mg rep Z ρ H (M.bind (recv m d) f S) Q) :
    recvOk m d S = true ∧ WpG K mg rep Z ρ H (f d S) Q := by
  unfold M.bind recv at h
  split at h
  · rename_i e
    split at e
    · rename_i c
      cases e
      exact ⟨c, h⟩
    · cases e
  · rename_i e
    split at e <;> cases e
  · exact h.elim
theorem sn_mth (c : Cok T F C X W k) {m : Mt} {o e : Expr} {es : List Expr} {mo : Env → M D} {ms : Env → M (List D)} {apos cpos : Pos} (hm : m ≠ .items ∧ m ≠ .values ∧ m ≠ .keys) (ho : PE X o (LE X W mo)) (ha : PA X (e :: es) (LA X W ms)) (hs : noStars (e :: es) = true)
    (hb : plainBase o = true) (hl : (apos.endLine == cpos.line) = true) (h30 : (e :: es).length < 30) :
    PE X (.Call (.Attribute o m.name apos) (e :: es) [] cpos) (LE X W fun η => M.bind (mo η) fun x => M.bind (recv m x) fun x => M.bind (ms η) fun vs => mtcall m x vs) := by
  obtain ⟨f1, f2, f3⟩ := mt_facts m hm
  have hs' := hs
  simp only [noStars, List.all_cons, Bool.and_eq_true] at hs'
  refine PE.imp (pe_bm f1 f2 f3 (mt_V c.un m) ho ha (base_of hb) (by
    rw [all_unstarred hs]
    show (true && true && decide ((e :: es).length + 0 + 0 < 30)) = true
    simp only [Bool.and_self, Bool.true_and, decide_eq_true_eq, Nat.add_zero]
    exact h30) hl (star_cons hs'.1) (no_stars (by simpa [noStars] using hs'.2))) fun σ H Q h => ?_
  obtain ⟨ρ, S, η, s, er, h⟩ := h
  refine ⟨ρ, S, η, s, er, (WpG.bind h).mono fun v H1 ⟨d, ρ1, S1, e1, s1, r1, h1⟩ => ?_⟩
  obtain ⟨hr, h2⟩ := recv_ok h1
  obtain ⟨ht, _⟩ := mt_recv s1 r1 hr
  exact ⟨ht, ρ1, S1, η, s1, er.ext e1, (WpG.bind h2).mono fun vs H2 ⟨ds, ρ2, S2, e2, s2, r2, h3⟩ => ⟨ρ2, S2, d, ds, s2, RepV.ext e2 r1, r2, _, h3⟩⟩
theorem sn_mth0 (c : Cok T F C X W k) {m : Mt} {o : Expr} {mo : Env → M D} {apos cpos : Pos} (hm : m ≠ .items ∧ m ≠ .values ∧ m ≠ .keys) (ho : PE X o (LE X W mo))
    (hb : plainBase o = true) (hl : (apos.endLine == cpos.line) = true) :
    PE X (.Call (.Attribute o m.name apos) [] [] cpos) (LE X W fun η => M.bind (mo η) fun x => M.bind (recv m x) fun x => M.bind (M.pure []) fun vs => mtcall m x vs) := by
  obtain ⟨f1, f2, f3⟩ := mt_facts m hm
  refine PE.imp (pe_bm0 f1 f2 f3 (mt_V c.un m) ho (base_of hb) hl) fun σ H Q h => ?_
  obtain ⟨ρ, S, η, s, er, h⟩ := h
  refine ⟨ρ, S, η, s, er, (WpG.bind h).mono fun v H1 ⟨d, ρ1, S1, e1, s1, r1, h1⟩ => ?_⟩
  obtain ⟨hr, h2⟩ := recv_ok h1
  obtain ⟨ht, _⟩ := mt_recv s1 r1 hr
  exact ⟨ht, ρ1, S1, d, [], s1, r1, rfl, _, h2⟩
end
end Fw
/-! Fw12: targets, what is walked, comprehensions -/
namespace Fw
open PySem PySem.Spec PyProof.Rows L2
section
variable {T : Tab} {F : Fn} {C : SC} {X : Cx} {W : WX} {k : Nat}
/-! ### targets -/
def repN (K : PySem.W.Frag) (mg : Str → Option Value) (σ : L2.St) (sl : List Nat) : List Addr → Hp → Env → L2.St → Prop := fun ρ H η σ' => EnvRel K mg ρ H η σ' ∧ σ'.length = σ.length ∧ ∀ i : Nat, i ∉ sl → σ'[i]? = σ[i]?
def LGt' (K : PySem.W.Frag) (mg : Str → Option Value) (W : WX) (sl : List Nat) (m : D → Env → M Env) : TG := fun v σ H Q =>
  ∃ ρ S η d, Sim K mg ρ S H ∧ EnvRel K mg ρ H η σ ∧ RepV K mg ρ H d v ∧ WpG K mg (repN K mg σ sl) (fun c d H' => W c d σ H') ρ H (m d η S) fun σ' H' => Q σ' H'
abbrev LGt (X : Cx) (W : WX) (sl : List Nat) (m : D → Env → M Env) : TG := LGt' X.K X.mg W sl m
def LGs (X : Cx) (sl : List Nat) (m : List D → Env → M Env) : TGs := fun vs σ H Q =>
  ∃ ρ S η ds, Sim X.K X.mg ρ S H ∧ EnvRel X.K X.mg ρ H η σ ∧ RepL X.K X.mg ρ H ds vs ∧ (∀ e S', m ds η S ≠ .err e S') ∧ WpG X.K X.mg (repN X.K X.mg σ sl) Z0 ρ H (m ds η S) fun σ' H' => Q σ' H'
theorem PG.imp {e : Expr} {t t' : TG} (h : PG X e t) (i : ∀ v σ H Q, t' v σ H Q → t v σ H Q) : PG X e t' := ⟨fun pins s σ H v u Q I r q => h.run pins s σ H v u Q I r (i v σ H Q q)⟩
theorem PGs.imp {e : List Expr} {t t' : TGs} (h : PGs X e t) (i : ∀ v σ H Q, t' v σ H Q → t v σ H Q) : PGs X e t' := ⟨fun pins s σ H v u Q I r q => h.run pins s σ H v u Q I r (i v σ H Q q)⟩
theorem EnvRel.set {K : PySem.W.Frag} {mg : Str → Option Value} {ρ : List Addr} {H : Hp} {η : Env} {σ : L2.St} {d : D} {v : V} (er : EnvRel K mg ρ H η σ) (i : Nat) (r : RepV K mg ρ H d v) : EnvRel K mg ρ H (η.set i (some d)) (σ.set i (some v)) := by
  refine ⟨by rw [List.length_set, List.length_set]; exact er.1, fun j e h => ?_⟩
  by_cases hj : i = j
  · subst hj
    have hi : i < η.length := by
      have := (List.getElem?_eq_some_iff.mp h).1
      rwa [List.length_set] at this
    rw [List.getElem?_set_self hi] at h
    cases h
    exact ⟨v, List.getElem?_set_self (by rw [← er.1]; exact hi), r⟩
  · rw [List.getElem?_set_ne hj] at h
    obtain ⟨w, h1, h2⟩ := er.2 j e h
    exact ⟨w, by rw [List.getElem?_set_ne hj]; exact h1, h2⟩
theorem sg_name (c : Cok T F C X W k) {i : Nat} {x : Str} {p : Pos} (hi : C.N[i]? = some x) (hm : C.mine x = true) : PG X (.Name x p) (LGt X W [i] fun d η => M.pure (η.set i (some d))) := by
  obtain ⟨h1, h2⟩ := c.mine x hm
  refine PG.imp (pg_name (i := i) c.nd (by rw [c.hN]; exact hi) h1 h2) fun v σ H Q h => ?_
  obtain ⟨ρ, S, η, d, s, er, r, h⟩ := h
  exact h ρ H _ .refl s ⟨er.set i r, by rw [List.length_set], fun j hj => by
    rw [List.getElem?_set_ne]
    intro e
    exact hj (by simp [e])⟩
theorem sg_nil : PGs X [] (LGs X [] fun ds η => match ds with | [] => M.pure η | _ => M.bad) := by
  refine PGs.imp pgs_nil fun vs σ H Q h => ?_
  obtain ⟨ρ, S, η, ds, s, er, r, _, h⟩ := h
  cases ds with
  | nil => exact ⟨r, h ρ H σ .refl s ⟨er, rfl, fun _ _ => rfl⟩⟩
  | cons d ds => exact h.elim
theorem assign_cons {e : Expr} {es : List Expr} {env : PySem.Env} (h : notStar e = true) : (assignEach (e :: es) env).map (·.2) = assign e env :: (assignEach es env).map (·.2) := by
  cases e <;> first | rfl | cases h
theorem sg_cons {e : Expr} {es : List Expr} {sl sl' : List Nat} {m : D → Env → M Env} {ms : List D → Env → M Env} (h1 : PG X e (LGt X W sl m)) (h2 : PGs X es (LGs X sl' ms)) (hs : notStar e = true) :
    PGs X (e :: es) (LGs X (sl ++ sl') fun ds η => match ds with | d :: ds => M.bind (m d η) fun η' => ms ds η' | [] => M.bad) := by
  refine PGs.imp (pgs_cons h1 h2 (assign_cons hs)) fun vs σ H Q h => ?_
  obtain ⟨ρ, S, η, ds, s, er, r, ne, h⟩ := h
  cases ds with
  | nil => exact h.elim
  | cons d ds =>
    simp only [RepL] at r
    obtain ⟨v, w, rfl, r1, r2⟩ := r
    refine ⟨v, w, rfl, ρ, S, η, d, s, er, r1, ?_⟩
    have h : WpG X.K X.mg (repN X.K X.mg σ (sl ++ sl')) Z0 ρ H (M.bind (m d η) (fun η' => ms ds η') S) Q := h
    have ne : ∀ e S', M.bind (m d η) (fun η' => ms ds η') S ≠ .err e S' := ne
    unfold M.bind at h ne
    cases e1 : m d η S with
    | bad => rw [e1] at h; exact h.elim
    | err e' S' => rw [e1] at ne; exact absurd rfl (ne e' S')
    | ok η1 S1 =>
      rw [e1] at h ne
      have h : WpG X.K X.mg (repN X.K X.mg σ (sl ++ sl')) Z0 ρ H (ms ds η1 S1) Q := h
      have ne : ∀ e S', ms ds η1 S1 ≠ .err e S' := ne
      intro ρ1 H1 σ1 ex s1 q1
      refine ⟨ρ1, S1, η1, ds, s1, q1.1, RepL.ext ex r2, ne, ?_⟩
      have h' := WpG.later ex h
      cases e2 : ms ds η1 S1 with
      | bad => rw [e2] at h'; exact h'.elim
      | err e' S' => exact absurd e2 (ne e' S')
      | ok η2 S2 =>
        rw [e2] at h'
        intro ρ2 H2 σ2 ex2 s2 q2
        refine h' ρ2 H2 σ2 ex2 s2 ⟨q2.1, by rw [q2.2.1, q1.2.1], fun i hi => ?_⟩
        simp only [List.mem_append, not_or] at hi
        rw [q2.2.2 i hi.2, q1.2.2 i hi.1]
theorem assign_len {env : PySem.Env} : ∀ {es : List Expr}, (assignEach es env).length = es.length
  | [] => rfl
  | e :: es => by
    cases e <;> (show (assignEach es env).length + 1 = _; rw [assign_len (es := es)]; rfl)
theorem assign_plain {env : PySem.Env} : ∀ {es : List Expr}, noStars es = true → (assignEach es env).findIdx? (·.1) = none
  | [], _ => rfl
  | e :: es, h => by
    simp only [noStars, List.all_cons, Bool.and_eq_true] at h
    have ih := assign_plain (env := env) (es := es) (by simpa [noStars] using h.2)
    have : assignEach (e :: es) env = (false, assign e env) :: assignEach es env := by
      obtain ⟨h, _⟩ := h
      cases e <;> first | rfl | cases h
    rw [this, List.findIdx?_cons]
    simp [ih]
theorem sg_tup (hc : X.calm = true) {es : List Expr} {n : Nat} {p : Pos} {sl : List Nat} {ms : List D → Env → M Env} (h : PGs X es (LGs X sl ms)) (hs : noStars es = true) :
    PG X (.Tuple es n p) (LGt X W sl fun d η => match d with
    | .tup xs => if xs.length = es.length then (fun S => noErr (ms xs η S)) else M.bad
    | _ => M.bad) := by
  refine PG.imp (pg_tup hc h assign_len (assign_plain hs)) fun v σ H Q h => ?_
  obtain ⟨ρ, S, η, d, s, er, r, h⟩ := h
  cases d <;> try exact h.elim
  · rename_i xs
    have h : WpG X.K X.mg (repN X.K X.mg σ sl) (fun c d H' => W c d σ H') ρ H ((if xs.length = es.length then (fun S => noErr (ms xs η S)) else M.bad) S) Q := h
    split at h
    · rename_i hl
      have h : WpG X.K X.mg (repN X.K X.mg σ sl) (fun c d H' => W c d σ H') ρ H (noErr (ms xs η S)) Q := h
      obtain ⟨a, vs, rfl, ha, ra⟩ := rep_tup r
      refine ⟨a, vs, rfl, ha, by rw [← ra.len]; exact hl, ρ, S, η, _, s, er, ra, ?_, ?_⟩
      · intro e S' q
        unfold noErr at h
        rw [q] at h
        exact h.elim
      · unfold noErr at h
        split at h
        · rename_i e
          rw [e]
          exact h
        · exact h.elim
    · exact h.elim
theorem sg_sub (hu : X.A.units + 100 < cLine) {o i : Expr} {p : Pos} {mo mi : Env → M D} (ho : PE X o (LE X W mo)) (hi : PE X i (LE X W mi)) (hs : ∀ l u st p, i ≠ .Slice l u st p) :
    PG X (.Subscript o i p) (LGt X W [] fun d η => M.bind (mo η) fun x => M.bind (mi η) fun y => M.bind (setix x y d) fun _ => M.pure η) := by
  refine PG.imp (pg_sub ho hi (set_V hu) (by intro v; cases i <;> first | rfl | exact absurd rfl (hs _ _ _ _))) fun v σ H Q h => ?_
  obtain ⟨ρ, S, η, d, s, er, r, h⟩ := h
  refine ⟨ρ, S, η, s, er, (WpG.bind h).mono fun x H1 ⟨d1, ρ1, S1, e1, s1, r1, h1⟩ => ⟨ρ1, S1, η, s1, er.ext e1, (WpG.bind h1).mono fun y H2 ⟨d2, ρ2, S2, e2, s2, r2, h2⟩ => ?_⟩⟩
  refine ⟨ρ2, S2, d1, d2, d, s2, RepV.ext e2 r1, r2, RepV.ext (e1.trans e2) r, _, (WpG.bind (rep := repE) h2).mono fun _ H3 ⟨_, ρ3, S3, e3, s3, _, h3⟩ => ?_⟩
  exact h3 ρ3 H3 σ .refl s3 ⟨er.ext (e1.trans (e2.trans e3)), rfl, fun _ _ => rfl⟩
/-! ### what is walked -/
def ItOk (K : PySem.W.Frag) (mg : Str → Option Value) (J : It) (xs : List D) (gs : Guard) (ρ0 : List Addr) (H0 : Hp) : Prop :=
  ∀ (i : Nat) ρ1 S1 H1, Ext ρ0 H0 ρ1 H1 → Sim K mg ρ1 S1 H1 → gOk gs S1 = true → (xs.length ≤ i → J.stop i H1) ∧ (i < xs.length → J.go i H1) ∧
    ∀ x H2 d, xs[i]? = some d → J.yld i H1 x H2 → Ext ρ1 H1 ρ1 H2 ∧ Sim K mg ρ1 S1 H2 ∧ RepV K mg ρ1 H2 d x
def repI (K : PySem.W.Frag) (mg : Str → Option Value) : List Addr → Hp → List D × Guard → It → Prop := fun ρ H w J => ItOk K mg J w.1 w.2 ρ H
abbrev LI (X : Cx) (W : WX) (m : Env → M (List D × Guard)) : TI := Lft X.K X.mg (repI X.K X.mg) W m
theorem PI.imp {tg e : Expr} {t t' : TI} (h : PI X tg e t) (i : ∀ σ H R, t' σ H R → t σ H R) : PI X tg e t' := ⟨fun pins s σ H R I q => h.run pins s σ H R I (i σ H R q)⟩
theorem PI.or {tg e : Expr} {t t' : TI} (h : PI X tg e t) (h' : PI X tg e t') : PI X tg e (fun σ H R => t σ H R ∨ t' σ H R) := ⟨fun pins s σ H R I q => by
  rcases q with q | q
  · exact h.run pins s σ H R I q
  · exact h'.run pins s σ H R I q⟩
theorem it_seq {K : PySem.W.Frag} {mg : Str → Option Value} {ρ : List Addr} {H : Hp} {ds : List D} {vs : List V} {J : It} {gs : Guard} {P : Hp → List V → Prop}
    (hgo : ∀ i H x, P H vs → vs[i]? = some x → J.go i H) (hst : ∀ i H, P H vs → vs.length ≤ i → J.stop i H) (hy : ∀ i H x H', P H vs → J.yld i H x H' → H' = H ∧ vs[i]? = some x)
    (hl : ds.length = vs.length) (hP : ∀ ρ1 S1 H1, Ext ρ H ρ1 H1 → Sim K mg ρ1 S1 H1 → gOk gs S1 = true → P H1 vs ∧ RepL K mg ρ1 H1 ds vs) : ItOk K mg J ds gs ρ H := by
  intro i ρ1 S1 H1 ex s g
  obtain ⟨p, r⟩ := hP ρ1 S1 H1 ex s g
  refine ⟨fun h => hst i H1 p (by omega), fun h => ?_, fun x H2 d hd y => ?_⟩
  · exact hgo i H1 _ p (List.getElem?_eq_getElem (by omega))
  · obtain ⟨rfl, e⟩ := hy i H1 x H2 p y
    obtain ⟨v, hv, rv⟩ := r.get hd
    rw [e] at hv
    cases hv
    exact ⟨.refl, s, rv⟩
theorem list_det {K : PySem.W.Frag} {H : Hp} {a : Addr} {vs : List V} (h : H a = some (.lst vs)) (hk : K.lookup a = none ∨ True) : SqL K H a vs := SqL.of h
theorem si_val {tg e : Expr} {m : Env → M D} (he : PE X e (LE X W m)) : PI X tg e (LI X W fun η => M.bind (m η) fun x => walkOf x) := by
  refine PI.imp (PI.or (pi_list he) (pi_tup he)) fun σ H R h => ?_
  obtain ⟨ρ, S, η, s, er, h⟩ := h
  have h : WpG X.K X.mg (repI X.K X.mg) (fun c d H' => W c d σ H') ρ H (M.bind (m η) (fun x => walkOf x) S) R := h
  have h0 := h
  unfold M.bind at h0
  cases e0 : m η S with
  | bad => rw [e0] at h0; exact h0.elim
  | err d S' =>
    rw [e0] at h0
    exact .inl ⟨ρ, S, η, s, er, by rw [e0]; exact h0⟩
  | ok d S' =>
    rw [e0] at h0
    have h0 : WpG X.K X.mg (repI X.K X.mg) (fun c d H' => W c d σ H') ρ H (walkOf d S') R := h0
    cases d with
    | tup ds =>
      refine .inr ⟨ρ, S, η, s, er, ?_⟩
      rw [e0]
      intro ρ1 H1 v ex s1 r
      obtain ⟨a, vs, rfl, ha, ra⟩ := rep_tup r
      refine ⟨a, rfl, ⟨vs, ha⟩, h0 ρ1 H1 _ ex s1 (it_seq (P := fun H vs => SqT X.K H a vs) (fun i H x p e => ⟨vs, x, p, e⟩) (fun i H p e => ⟨vs, p, e⟩) (fun i H x H' p y => ⟨y.1, y.2 vs p⟩) ra.len fun ρ2 S2 H2 ex2 s2 g => ⟨SqT.ext ex2 ha, ra.ext ex2⟩)⟩
    | fzl ds =>
      refine .inl ⟨ρ, S, η, s, er, ?_⟩
      rw [e0]
      intro ρ1 H1 v ex s1 r
      obtain ⟨a, vs, rfl, ha, ra⟩ := rep_fzl r
      refine ⟨a, rfl, ⟨vs, ha.sq⟩, h0 ρ1 H1 _ ex s1 (it_seq (P := fun H vs => SqL X.K H a vs) (fun i H x p e => ⟨vs, x, p, e⟩) (fun i H p e => ⟨vs, p, e⟩) (fun i H x H' p y => ⟨y.1, y.2 vs p⟩) ra.len fun ρ2 S2 H2 ex2 s2 g => ⟨(FzL.ext ex2 ha).sq, ra.ext ex2⟩)⟩
    | loc l =>
      unfold walkOf at h0
      simp only at h0
      split at h0
      · rename_i ds el
        refine .inl ⟨ρ, S, η, s, er, ?_⟩
        rw [e0]
        intro ρ1 H1 v ex s1 r
        obtain ⟨a, vs, rfl, hl, ha, ra⟩ := rep_lst s1 r el
        refine ⟨a, rfl, ⟨vs, SqL.of ha⟩, h0 ρ1 H1 (Itl X.K a) ex s1 ?_⟩
        intro i ρ2 S2 H2 ex2 s2 g
        simp only [gOk, List.all_cons, List.all_nil, Bool.and_true, decide_eq_true_eq] at g
        obtain ⟨vs2, hv2, rv2⟩ := s2.obj l a _ (ex2.pre _ _ hl) g
        refine ⟨fun hi => ⟨vs2, SqL.of hv2, by rw [← rv2.len]; exact hi⟩, fun hi => ⟨vs2, _, SqL.of hv2, List.getElem?_eq_getElem (by rw [← rv2.len]; exact hi)⟩, fun x H3 d hd y => ?_⟩
        obtain ⟨rfl, y2⟩ := y
        obtain ⟨v, hv, rv⟩ := rv2.get hd
        rw [y2 vs2 (SqL.of hv2)] at hv
        cases hv
        exact ⟨.refl, s2, rv⟩
      · exact h0.elim
    | non => exact h0.elim
    | bl _ => exact h0.elim
    | int _ => exact h0.elim
    | str _ => exact h0.elim
    | glob _ => exact h0.elim
    | ty _ => exact h0.elim
theorem it_range {K : PySem.W.Frag} {mg : Str → Option Value} {ρ : List Addr} {H : Hp} {lo : Int} {n : Nat} : ItOk K mg (Itr lo n) (rngD lo n) [] ρ H := by
  intro i ρ1 S1 H1 ex s g
  have hl : (rngD lo n).length = n := by simp [rngD]
  rw [hl]
  refine ⟨fun h => h, fun h => h, fun x H2 d hd y => ?_⟩
  obtain ⟨rfl, rfl⟩ := y
  refine ⟨.refl, s, ?_⟩
  unfold rngD at hd
  rw [List.getElem?_map] at hd
  obtain ⟨j, hj, rfl⟩ := Option.map_eq_some_iff.mp hd
  have := List.getElem?_range (n := n) (i := i)
  have hi : i < n := by
    by_cases c : i < n
    · exact c
    · rw [List.getElem?_eq_none (by simpa using c)] at hj; cases hj
  rw [List.getElem?_range hi] at hj
  cases hj
  rfl
theorem bd62_ok {i : Int} (h : bd62 i = true) : -(2 ^ 62) ≤ i ∧ i < 2 ^ 62 := of_decide_eq_true h
theorem si_rng1 (c : Cok T F C X W k) {tg a : Expr} {m : Env → M D} {p pos : Pos} (hg : C.gl "range" = true) (ha : PE X a (LE X W m)) (hs : notStar a = true) :
    PI X tg (.Call (.Name "range" p) [a] [] pos) (LI X W fun η => M.bind (m η) fun x => fun S => match x with
    | .int j => if bd62 j then .ok (rngD 0 j.toNat, []) S else .bad
    | _ => .bad) := by
  obtain ⟨g1, g2⟩ := c.gl hg
  refine PI.imp (pi_range1 g1 g2 (pa_cons ha pa_nil (star_cons hs)) (star_cons hs)) fun σ H R h => ?_
  obtain ⟨ρ, S, η, s, er, h⟩ := h
  refine ⟨ρ, S, η, s, er, (WpG.bind h).mono fun v H1 ⟨d, ρ1, S1, e1, s1, r1, h1⟩ => ?_⟩
  split at h1
  · split at h1
    · rename_i hb
      obtain ⟨b1, b2⟩ := bd62_ok hb
      cases (show v = _ from r1)
      exact ⟨_, rfl, b1, b2, h1 ρ1 H1 _ .refl s1 it_range⟩
    · exact h1.elim
  · exact h1.elim
theorem si_rng2 (c : Cok T F C X W k) {tg a b : Expr} {m m' : Env → M D} {p pos : Pos} (hg : C.gl "range" = true) (ha : PE X a (LE X W m)) (hb : PE X b (LE X W m')) (hs : notStar a = true) (hs' : notStar b = true) :
    PI X tg (.Call (.Name "range" p) [a, b] [] pos) (LI X W fun η => M.bind (m η) fun x => M.bind (m' η) fun y => fun S => match x, y with
    | .int i, .int j => if bd62 i && bd62 j then .ok (rngD i (j - i).toNat, []) S else .bad
    | _, _ => .bad) := by
  obtain ⟨g1, g2⟩ := c.gl hg
  refine PI.imp (pi_range2 g1 g2 (pa_cons ha (pa_cons hb pa_nil (star_cons hs')) (star_cons hs)) (by rw [star_cons hs, star_cons hs']; rfl) (by rw [star_cons hs']; rfl)) fun σ H R h => ?_
  obtain ⟨ρ, S, η, s, er, h⟩ := h
  refine ⟨ρ, S, η, s, er, (WpG.bind h).mono fun v H1 ⟨d, ρ1, S1, e1, s1, r1, h1⟩ => ⟨ρ1, S1, η, s1, er.ext e1, (WpG.bind h1).mono fun w H2 ⟨d2, ρ2, S2, e2, s2, r2, h2⟩ => ?_⟩⟩
  split at h2
  · split at h2
    · rename_i hb
      simp only [Bool.and_eq_true] at hb
      obtain ⟨b1, b2⟩ := bd62_ok hb.1
      obtain ⟨b3, b4⟩ := bd62_ok hb.2
      cases (show v = _ from r1)
      cases (show w = _ from r2)
      exact ⟨_, _, rfl, ⟨b1, b2, b3, b4⟩, h2 ρ2 H2 _ .refl s2 it_range⟩
    · exact h2.elim
  · exact h2.elim
/-! ### comprehensions -/
theorem Cok.inner (c : Cok T F C X W k) (s : Shared) (H : Hp) (scope : Scope) (cl : List (Str × Addr)) (A : Addr) (fp : List Addr) :
    Cok T F (C.inner scope) (X.blk s H scope (compEnvC scope cl A X.env) fp) (fun _ _ _ _ => False) k where
  hN := c.hN
  nd := c.nd
  sc := by
    show (compEnvC scope cl A X.env).scope = relS scope C.sc
    rw [← c.sc]
    rfl
  calm := c.calm
  tk := takes0
  room := c.room
  gone := c.gone
  cns := c.cns
  fns := c.fns
  mine := fun x h => by
    have hsc : (compEnvC scope cl A X.env).scope = relS scope C.sc := by rw [← c.sc]; rfl
    show Loc (compEnvC scope cl A X.env).scope x ∧ ((scope.names.lookup x == some .cell) = true ∨ (compEnvC scope cl A X.env).scope.names.lookup x = some .local)
    rw [hsc]
    unfold SC.mine SC.inner at h
    simp only at h
    split at h
    · rename_i e
      exact ⟨.inl e, .inr e⟩
    · rename_i e
      exact ⟨.inr e, .inl (by rw [of_decide_eq_true h]; rfl)⟩
    · cases h
theorem EnvRel.wipe {K : PySem.W.Frag} {mg : Str → Option Value} {ρ : List Addr} {H : Hp} {η : Env} {σ : L2.St} (er : EnvRel K mg ρ H η σ) : ∀ l : List Nat, EnvRel K mg ρ H (wipeE η l) (L2.wipe σ l)
  | [] => er
  | i :: l => by
    have ih := EnvRel.wipe er l
    show EnvRel K mg ρ H ((wipeE η l).set i none) ((L2.wipe σ l).set i none)
    refine ⟨by rw [List.length_set, List.length_set]; exact ih.1, fun j d h => ?_⟩
    by_cases hj : i = j
    · subst hj
      have hi : i < (wipeE η l).length := by
        have := (List.getElem?_eq_some_iff.mp h).1
        rwa [List.length_set] at this
      rw [List.getElem?_set_self hi] at h
      cases h
    · rw [List.getElem?_set_ne hj] at h
      obtain ⟨v, h1, h2⟩ := ih.2 j d h
      exact ⟨v, by rw [List.getElem?_set_ne hj]; exact h1, h2⟩
theorem wipe_none {σ : L2.St} : ∀ {l : List Nat} {i : Nat}, i ∈ l → i < σ.length → (L2.wipe σ l)[i]? = some none
  | j :: l, i, h, hi => by
    show ((L2.wipe σ l).set j none)[i]? = some none
    by_cases e : j = i
    · subst e
      rw [List.getElem?_set_self (by rw [L2.wipe_length]; exact hi)]
    · rw [List.getElem?_set_ne e]
      rcases List.mem_cons.mp h with rfl | h
      · exact absurd rfl e
      · exact wipe_none h hi
theorem wipe_other {σ : L2.St} : ∀ {l : List Nat} {i : Nat}, i ∉ l → (L2.wipe σ l)[i]? = σ[i]?
  | [], _, _ => rfl
  | j :: l, i, h => by
    show ((L2.wipe σ l).set j none)[i]? = _
    simp only [List.mem_cons, not_or] at h
    rw [List.getElem?_set_ne (Ne.symm h.1)]
    exact wipe_other h.2
theorem wipe_same {σ σ2 : L2.St} {l sl : List Nat} (hl : σ2.length = (L2.wipe σ l).length) (h : ∀ i : Nat, i ∉ sl → σ2[i]? = (L2.wipe σ l)[i]?) (hs : ∀ i ∈ sl, i ∈ l) : L2.wipe σ2 l = L2.wipe σ l := by
  apply List.ext_getElem?
  intro i
  rw [L2.wipe_length] at hl
  by_cases hi : i ∈ l
  · by_cases hb : i < σ.length
    · rw [wipe_none hi hb, wipe_none hi (by omega)]
    · rw [List.getElem?_eq_none (by rw [L2.wipe_length]; omega), List.getElem?_eq_none (by rw [L2.wipe_length]; omega)]
  · rw [wipe_other hi, h i fun z => hi (hs i z)]
def repC (K : PySem.W.Frag) (mg : Str → Option Value) : List Addr → Hp → List D → List V → Prop := RepL K mg
theorem fold_plain {iter : Expr} {env : PySem.Env} {x : Value} (h : noSets iter = true) : foldedSetIterable iter env x = pure x := by
  cases iter <;> first | rfl | cases h
theorem bind_ok {α β : Type} {m : M α} {f : α → M β} {S S' : Store} {b : β} (h : M.bind m f S = .ok b S') : ∃ a S1, m S = .ok a S1 ∧ f a S1 = .ok b S' := by
  unfold M.bind at h
  split at h
  · exact ⟨_, _, by assumption, h⟩
  · cases h
  · cases h
theorem noErr_bind {α γ δ : Type} {K : PySem.W.Frag} {mg : Str → Option Value} {rep : List Addr → Hp → γ → δ → Prop} {Z : XK} {ρ : List Addr} {H : Hp} {m : M α} {f : α → M γ} {S : Store} {Q : δ → Hp → Prop} (h : WpG K mg rep Z ρ H (M.bind (fun S => noErr (m S)) f S) Q) :
    ∃ a S', m S = .ok a S' ∧ WpG K mg rep Z ρ H (f a S') Q := by
  unfold M.bind at h
  cases e : m S with
  | ok a S' => simp only [noErr, e] at h; exact ⟨a, S', rfl, h⟩
  | err d S' => simp only [noErr, e] at h; exact h.elim
  | bad => simp only [noErr, e] at h; exact h.elim
/-- a list comprehension with one for -/
theorem lc_ok {K : PySem.W.Frag} {mg : Str → Option Value} {own : List Nat} {mi : Env → M (List D × Guard)} {mg' : D → Env → M Env} {mc : Env → M Bool} {me : Env → M D} {sl : List Nat} {σ : L2.St} {H : Hp} {Q : VK} (hsl : ∀ i ∈ sl, i ∈ own)
    (h : Lft K mg (repV K mg) W (fun η => M.bind (mi η) fun w => M.bind (many w.1) fun _ => M.bind (fun S => noErr (comp w.2 mg' mc me (wipeE η own) w.1 S)) fun ys => M.alloc (.lst ys)) σ H Q) :
    tLc (Lft K mg (repI K mg) W mi) (LGt' K mg (fun _ _ _ _ => False) sl mg') (Lft K mg repE (fun _ _ _ _ => False) mc) (Lft K mg (repV K mg) (fun _ _ _ _ => False) me) own σ H Q := by
  obtain ⟨ρ, S, η, s, er, h⟩ := h
  refine ⟨ρ, S, η, s, er, (WpG.bind h).mono fun J H1 ⟨w, ρ1, S1, e1, s1, it, h1⟩ => ?_⟩
  obtain ⟨xs, gs⟩ := w
  obtain ⟨hz, h1⟩ := many_ok h1
  have h1 : WpG K mg (repV K mg) (fun c d H' => W c d σ H') ρ1 H1 (M.bind (fun S => noErr (comp gs mg' mc me (wipeE η own) xs S)) (fun ys => M.alloc (.lst ys)) S1) Q := h1
  have er1 : EnvRel K mg ρ1 H1 (wipeE η own) (L2.wipe σ own) := (er.ext e1).wipe own
  obtain ⟨tot, S3, ec, h1⟩ := noErr_bind h1
  · have it : ItOk K mg J xs gs ρ1 H1 := it
    have hz : xs.length ≤ sizeLine := hz
    intro p hp
    let Pv : Nat → Hp → Prop := fun i H => ∃ ρ2 S2 accD acc ys, Ext ρ1 H1 ρ2 H ∧ Sim K mg ρ2 S2 H ∧ p ∉ ρ2 ∧ H p = some (.lst acc) ∧ RepL K mg ρ2 H accD acc ∧ acc.length ≤ i ∧
      comp gs mg' mc me (wipeE η own) (xs.drop i) S2 = .ok ys S3 ∧ tot = accD ++ ys
    refine ⟨fun i m H => m = xs.length - i ∧ i ≤ xs.length ∧ Pv i H, ⟨xs.length, by simp, Nat.zero_le _, ρ1, S1, [], [], tot, Ext.tmp hp, s1.tmp hp, s1.free hp, upd_same, rfl, Nat.le_refl _, by simpa using ec, rfl⟩, ?_⟩
    rintro i m H ⟨rfl, hi, ρ2, S2, accD, acc, ys, ex, s2, np, hpl, ra, hl, hc, htot⟩
    by_cases hlt : i < xs.length
    · refine .inr ?_
      have hd : xs.drop i = xs[i] :: xs.drop (i + 1) := List.drop_eq_getElem_cons hlt
      rw [hd] at hc
      unfold comp at hc
      split at hc
      · rename_i hg
        obtain ⟨i1, i2, i3⟩ := it i ρ2 S2 H ex s2 hg
        refine ⟨i2 hlt, Pv (i + 1), fun H' q => ⟨xs.length - (i + 1), by omega, rfl, hlt, q⟩, fun x H' hy => ?_⟩
        obtain ⟨ex2, s2', rx⟩ := i3 x H' _ (List.getElem?_eq_getElem hlt) hy
        have p2 : H' p = some (.lst acc) := ex2.keep p _ hpl np
        obtain ⟨η2, S4, q1, hc⟩ := bind_ok hc
        obtain ⟨b, S5, q2, hc⟩ := bind_ok hc
        have er2 : EnvRel K mg ρ2 H' (wipeE η own) (L2.wipe σ own) := er1.ext (ex.trans ex2)
        refine ⟨ρ2, S2, wipeE η own, xs[i], s2', er2, rx, ?_⟩
        rw [q1]
        rintro ρ4 H4 σ2 ex4 s4 ⟨er4, l4, o4⟩
        refine ⟨wipe_same l4 o4 hsl, ρ4, S4, η2, s4, er4, ?_⟩
        rw [q2]
        rintro ρ5 H5 b' ex5 s5 rfl
        have f5 : Ext ρ2 H ρ5 H5 := ex2.trans (ex4.trans ex5)
        have keepP : ∀ {ρ' : List Addr} {H'' : Hp}, Ext ρ2 H ρ' H'' → H'' p = some (.lst acc) ∧ p ∉ ρ' := fun {ρ' H''} e => ⟨e.keep p _ hpl np, fun hm => by
          rcases e.new p hm with z | z
          · exact np z
          · rw [hpl] at z; cases z⟩
        cases b with
        | true =>
          rw [if_pos rfl] at hc ⊢
          obtain ⟨y, S6, q3, hc⟩ := bind_ok hc
          obtain ⟨r, S7, q4, hc⟩ := bind_ok hc
          cases hc
          refine ⟨ρ5, S5, η2, s5, er4.ext ex5, ?_⟩
          rw [q3]
          intro ρ6 H6 v ex6 s6 rv
          have f6 := f5.trans ex6
          obtain ⟨k1, k2⟩ := keepP f6
          refine ⟨acc, k1, by omega, ρ6, S6, accD ++ [y], acc ++ [v], r, (ex.trans f6).off hp, s6.off k1 (fun z => z) k2, k2, upd_same, ?_, by rw [List.length_append]; exact Nat.succ_le_succ hl, q4, by rw [htot]; simp⟩
          exact ((ra.ext f6).append (rep_one rv)).kp (Kp.off k1 fun z => z)
        | false =>
          rw [if_neg Bool.false_ne_true] at hc ⊢
          obtain ⟨k1, k2⟩ := keepP f5
          exact ⟨ρ5, S5, accD, acc, ys, ex.trans f5, s5, k2, k1, ra.ext f5, Nat.le_succ_of_le hl, hc, htot⟩
      · cases hc
    · have hn : i = xs.length := by omega
      subst hn
      rw [List.drop_length] at hc
      unfold comp at hc
      split at hc
      · rename_i hg
        cases hc
        rw [List.append_nil] at htot
        subst htot
        obtain ⟨i1, _, _⟩ := it xs.length ρ2 S3 H ex s2 hg
        refine .inl ⟨i1 (Nat.le_refl _), ?_⟩
        have exc : Ext ρ1 H1 (ρ2 ++ [p]) H := ⟨fun l a h => by
            have := ex.pre l a h
            rw [List.getElem?_append_left (List.getElem?_eq_some_iff.mp this).1]; exact this, ex.fix, ex.keep, fun a h => by
          rcases List.mem_append.mp h with z | z
          · exact ex.new a z
          · simp at z; subst z; exact .inr hp⟩
        have kk : Kp ρ2 H (ρ2 ++ [p]) H := ⟨fun l a h => by rw [List.getElem?_append_left (List.getElem?_eq_some_iff.mp h).1]; exact h, fun _ _ h _ => h⟩
        have sim' : Sim K mg (ρ2 ++ [p]) (S3 ++ [.lst tot]) H := ⟨by simp [s2.len], by
            rw [List.nodup_append]
            refine ⟨s2.nd, by simp, fun a ha b hb e => ?_⟩
            simp at hb; subst hb; subst e; exact np ha, fun l a c h1 h2 => by
            rcases get_append h1 with q | ⟨q, q'⟩
            · rcases get_append h2 with r | ⟨r, r'⟩
              · exact (s2.obj l a c q r).kp kk rfl
              · have := (List.getElem?_eq_some_iff.mp q).1
                rw [s2.len] at this; omega
            · subst q'
              rcases get_append h2 with r | ⟨r, r'⟩
              · have := (List.getElem?_eq_some_iff.mp r).1
                rw [q, s2.len] at this; omega
              · subst r'
                exact ⟨acc, hpl, ra.kp kk⟩⟩
        refine h1 (ρ2 ++ [p]) H (.ref p) exc sim' ?_
        show RepV K mg _ _ (.loc S3.length) _
        simp only [RepV]
        exact ⟨p, by rw [← s2.len]; simp, rfl⟩
      · cases hc
end
end Fw
/-! Fw12b: stars, displays of dicts, sorted of a set comprehension -/
namespace Fw
open PySem PySem.Spec PyProof.Rows L2
section
variable {T : Tab} {F : Fn} {C : SC} {X : Cx} {W : WX} {k : Nat}
theorem sm_star {e : Expr} {p : Pos} {es : List Expr} {m : Env → M D} {ms : Env → M (List D)} (he : PE X e (LE X W m)) (hes : PA X es (LA X W ms)) :
    PA X (.Starred e p :: es) (LA X W fun η => M.bind (m η) fun x => M.bind (fun S => match seqOf S x with
      | some ys => .ok ys S
      | none => .bad) fun ys => M.bind (ms η) fun xs => M.pure (ys ++ xs)) := by
  refine PA.imp (StX.pa_star he hes) fun σ H Q h => ?_
  obtain ⟨ρ, S, η, s, er, h⟩ := h
  refine ⟨ρ, S, η, s, er, (WpG.bind h).mono fun v H1 ⟨d, ρ1, S1, e1, s1, r1, h1⟩ => ?_⟩
  cases es : seqOf S1 d with
  | none => unfold M.bind at h1; simp only [es] at h1; exact h1.elim
  | some ys =>
    obtain ⟨a, vs, rfl, ha, ra⟩ := seqOf_rep s1 es r1
    have h2 : WpG X.K X.mg (repL X.K X.mg) (fun c d H' => W c d σ H') ρ1 H1 (M.bind (ms η) (fun xs => M.pure (ys ++ xs)) S1) Q := by
      unfold M.bind at h1
      simp only [es] at h1
      exact h1
    refine ⟨a, vs, rfl, ha.symm, ρ1, S1, η, s1, er.ext e1, (WpG.bind h2).mono fun ws H2 ⟨ds, ρ2, S2, e2, s2, r2, h3⟩ => ?_⟩
    exact ok_at h3 s2 (RepL.append (RepL.ext e2 ra) r2)
/-! ### an object that joins the store -/
theorem Ext.adopt {ρ ρ2 : List Addr} {H H2 : Hp} {p : Addr} {u o : HO} (ex : Ext ρ (upd H p u) ρ2 H2) (hp : H p = none) : Ext ρ H (ρ2 ++ [p]) (upd H2 p o) where
  pre := fun l a h => by
    have := ex.pre l a h
    rw [List.getElem?_append_left (List.getElem?_eq_some_iff.mp this).1]; exact this
  fix := fun a w h f => by
    rw [upd_ne (ne_of_none h hp)]
    exact ex.fix a w (by rw [upd_ne (ne_of_none h hp)]; exact h) f
  keep := fun a w h n => by
    rw [upd_ne (ne_of_none h hp)]
    exact ex.keep a w (by rw [upd_ne (ne_of_none h hp)]; exact h) n
  new := fun a h => by
    by_cases e : a = p
    · subst e; exact .inr hp
    · rcases List.mem_append.mp h with z | z
      · rcases ex.new a z with q | q
        · exact .inl q
        · rw [upd_ne e] at q; exact .inr q
      · exact absurd (List.mem_singleton.mp z) e
theorem Sim.adopt {K : PySem.W.Frag} {mg : Str → Option Value} {ρ : List Addr} {S : Store} {H : Hp} {p : Addr} {u o : HO} {c : Cell} (s : Sim K mg ρ S H) (hu : H p = some u) (nf : ¬ Fix u) (hp : p ∉ ρ) (hc : CellRep K mg (ρ ++ [p]) (upd H p o) p c) : Sim K mg (ρ ++ [p]) (S ++ [c]) (upd H p o) where
  len := by simp [s.len]
  nd := by
    rw [List.nodup_append]
    refine ⟨s.nd, by simp, fun a ha b hb e => ?_⟩
    simp at hb
    subst hb; subst e
    exact hp ha
  obj := fun l a c' h1 h2 => by
    have kk : Kp ρ H (ρ ++ [p]) (upd H p o) := ⟨fun l a h => by rw [List.getElem?_append_left (List.getElem?_eq_some_iff.mp h).1]; exact h, (Kp.off (ρ := ρ) hu nf).fix⟩
    rcases get_append h1 with q | ⟨q, q'⟩
    · rcases get_append h2 with r | ⟨r, r'⟩
      · exact (s.obj l a c' q r).kp kk (upd_ne fun z => by
          subst z
          exact hp (List.mem_of_getElem? q))
      · have := (List.getElem?_eq_some_iff.mp q).1
        rw [s.len] at this; omega
    · subst q'
      rcases get_append h2 with r | ⟨r, r'⟩
      · have := (List.getElem?_eq_some_iff.mp r).1
        rw [q, s.len] at this; omega
      · subst r'; exact hc
theorem rep_new {K : PySem.W.Frag} {mg : Str → Option Value} {ρ : List Addr} {S : Store} {H : Hp} {p : Addr} (h : ρ.length = S.length) : RepV K mg (ρ ++ [p]) H (.loc S.length) (.ref p) := by
  simp only [RepV]
  exact ⟨p, by rw [← h]; simp, rfl⟩
/-! ### displays of dicts -/
def repP (K : PySem.W.Frag) (mg : Str → Option Value) : List Addr → Hp → List (Key × D) → List (V × V) → Prop := fun ρ H ps qs => ∃ kvs : List (Key × V), qs = kvs.map (fun kv => (kV kv.1, kv.2)) ∧ RepK K mg ρ H ps kvs
def PLk (X : Cx) (W : WX) (keys : List (Option Expr)) (values : List Expr) (m : Env → M (List (Key × D))) : Prop :=
  ∃ trs, (∀ pos, PPs X pos keys values trs) ∧ ∀ σ H Q, Lft X.K X.mg (repP X.K X.mg) W m σ H Q → tPairs trs σ H Q
theorem pl_nil : PLk X W [] [] fun _ => M.pure [] := ⟨[], fun pos => pps_nil, fun σ H Q h => by
  obtain ⟨ρ, S, η, s, er, h⟩ := h
  exact ok_at h s ⟨[], rfl, rfl⟩⟩
theorem pl_cons {kx vx : Expr} {ks : List (Option Expr)} {vs : List Expr} {mk mv : Env → M D} {mr : Env → M (List (Key × D))} (hk : PE X kx (LE X W mk)) (hv : PE X vx (LE X W mv)) (hr : PLk X W ks vs mr) :
    PLk X W (some kx :: ks) (vx :: vs) fun η => M.bind (mk η) fun x => M.bind (mv η) fun y => M.bind (mr η) fun ps => match keyOf x with
    | some k => M.pure ((k, y) :: ps)
    | none => M.bad := by
  obtain ⟨trs, h1, h2⟩ := hr
  refine ⟨(LE X W mk, LE X W mv) :: trs, fun pos => pps_cons hk hv (h1 pos), fun σ H Q h => ?_⟩
  obtain ⟨ρ, S, η, s, er, h⟩ := h
  refine ⟨ρ, S, η, s, er, (WpG.bind h).mono fun v H1 ⟨d, ρ1, S1, e1, s1, r1, h3⟩ => ⟨ρ1, S1, η, s1, er.ext e1, (WpG.bind h3).mono fun w H2 ⟨d2, ρ2, S2, e2, s2, r2, h4⟩ => ?_⟩⟩
  refine h2 σ H2 _ ⟨ρ2, S2, η, s2, er.ext (e1.trans e2), (WpG.bind h4).mono fun qs H3 q => ?_⟩
  obtain ⟨ps, ρ3, S3, e3, s3, ⟨kvs, rfl, rk⟩, h5⟩ := q
  cases ek : keyOf d with
  | none => rw [ek] at h5; exact h5.elim
  | some key =>
    rw [ek] at h5
    have ev := key_rep ek (RepV.ext (e2.trans e3) r1)
    refine ok_at h5 s3 ⟨(key, w) :: kvs, ?_, ⟨w, kvs, rfl, RepV.ext e3 r2, rk⟩⟩
    rw [ev]
    rfl
theorem RepK.merge {K : PySem.W.Frag} {mg : Str → Option Value} {ρ : List Addr} {H : Hp} : ∀ {more : List (Key × D)} {ms : List (Key × V)} {kvs : List (Key × D)} {ps : List (Key × V)}, RepK K mg ρ H more ms → RepK K mg ρ H kvs ps → RepK K mg ρ H (mergeD kvs more) (mergeK ps ms)
  | [], _, kvs, ps, h, q => by have h : _ = [] := h; subst h; exact q
  | p :: r, ms, kvs, ps, h, q => by
    have h : ∃ v t, ms = (p.1, v) :: t ∧ RepV K mg ρ H p.2 v ∧ RepK K mg ρ H r t := h
    obtain ⟨v, t, rfl, h1, h2⟩ := h
    exact RepK.merge (more := r) (ms := t) (kvs := putKey p.1 p.2 kvs) (ps := putK ps p.1 v) h2 (RepK.put p.1 h1 q)
theorem sn_dct {keys : List (Option Expr)} {values : List Expr} {mp : Env → M (List (Key × D))} {pos : Pos} (h : PLk X W keys values mp) (hall : keys.all (·.isSome) = true) (hl : keys.length = values.length) (h0 : keys ≠ []) (h15 : keys.length ≤ 15) :
    PE X (.Dict keys values pos) (LE X W fun η => M.bind (mp η) fun ps => if ps.length ≤ 15 then M.alloc (.dct (mergeD [] ps)) else M.bad) := by
  obtain ⟨trs, h1, h2⟩ := h
  refine PE.imp (pe_disp (h1 pos) hall hl h0 h15) fun σ H Q h p hp => ?_
  obtain ⟨ρ, S, η, s, er, h⟩ := h
  have et : Ext ρ H ρ (upd H p (.dK [])) := Ext.tmp hp
  have np : p ∉ ρ := s.free hp
  refine h2 σ _ _ ⟨ρ, S, η, s.tmp hp, er.ext et, ?_⟩
  have h : WpG X.K X.mg (repV X.K X.mg) (fun c d H' => W c d σ H') ρ H (M.bind (mp η) (fun ps => if ps.length ≤ 15 then M.alloc (.dct (mergeD [] ps)) else M.bad) S) Q := h
  unfold M.bind at h
  cases em : mp η S with
  | bad => rw [em] at h; exact h.elim
  | err d S' =>
    rw [em] at h
    exact WpG.later et (r := .err d S') (rep := repP X.K X.mg) (Q := fun ps H2 => H2 p = some (.dK []) ∧ ∃ kvs : List (Key × V), ps = kvs.map (fun kv => (kV kv.1, kv.2)) ∧ kvs.length ≤ 15 ∧ Q (.ref p) (upd H2 p (.dK (mergeK [] kvs)))) h
  | ok ds S3 =>
    rw [em] at h
    dsimp only at h
    split at h
    · rename_i hn
      rintro ρ2 H2 ps ex2 s2 ⟨kvs, rfl, rk⟩
      have hH2 : H2 p = some (.dK []) := ex2.keep p _ upd_same np
      have np2 : p ∉ ρ2 := fun hm => by
        rcases ex2.new p hm with z | z
        · exact np z
        · rw [upd_same] at z; cases z
      refine ⟨hH2, kvs, rfl, by rw [← rk.len]; exact hn, ?_⟩
      have kk : Kp ρ2 H2 (ρ2 ++ [p]) (upd H2 p (.dK (mergeK [] kvs))) := ⟨fun l a h => by rw [List.getElem?_append_left (List.getElem?_eq_some_iff.mp h).1]; exact h, (Kp.off (ρ := ρ2) hH2 fun z => z).fix⟩
      refine h (ρ2 ++ [p]) _ (.ref p) (Ext.adopt ex2 hp) (Sim.adopt s2 hH2 (fun z => z) np2 ⟨_, upd_same, ?_⟩) (rep_new s2.len)
      exact RepK.merge (rk.kp kk) rfl
    · exact h.elim
/-! ### sorted of a set comprehension of texts -/
theorem allStrs_append : ∀ {a b : List D} {l : List Str}, allStrs (a ++ b) = some l → ∃ l1 l2, allStrs a = some l1 ∧ allStrs b = some l2 ∧ l = l1 ++ l2
  | [], b, l, h => ⟨[], l, rfl, h, rfl⟩
  | .str s :: a, b, l, h => by
    simp only [List.cons_append, allStrs, Option.map_eq_some_iff] at h
    obtain ⟨l', h', rfl⟩ := h
    obtain ⟨l1, l2, e1, e2, rfl⟩ := allStrs_append h'
    exact ⟨s :: l1, l2, by simp [allStrs, e1], e2, rfl⟩
  | .non :: a, b, l, h => by simp [allStrs] at h
  | .bl _ :: a, b, l, h => by simp [allStrs] at h
  | .int _ :: a, b, l, h => by simp [allStrs] at h
  | .tup _ :: a, b, l, h => by simp [allStrs] at h
  | .fzl _ :: a, b, l, h => by simp [allStrs] at h
  | .loc _ :: a, b, l, h => by simp [allStrs] at h
  | .glob _ :: a, b, l, h => by simp [allStrs] at h
  | .ty _ :: a, b, l, h => by simp [allStrs] at h
theorem addS_le (ks : List Str) (k : Str) : ks.length ≤ (addS ks k).length := by
  unfold addS
  split <;> simp
theorem foldl_addS_le : ∀ (b ks : List Str), ks.length ≤ (b.foldl addS ks).length
  | [], ks => Nat.le_refl _
  | c :: b, ks => Nat.le_trans (addS_le ks c) (foldl_addS_le b (addS ks c))
theorem dedup_le (a b : List Str) : (dedup a).length ≤ (dedup (a ++ b)).length := by
  unfold dedup
  rw [List.foldl_append]
  exact foldl_addS_le b _
theorem dedup_snoc (a : List Str) (c : Str) : dedup (a ++ [c]) = addS (dedup a) c := by
  unfold dedup
  rw [List.foldl_append]
  rfl
theorem isStr_ok {P : Program} {w : World} : ∀ (k : Str) (v : V) (u : Value), v = .str k → RelV v u → (vStr P w).knd.is k u = true := fun k v u h r => by
  subst h
  obtain ⟨t, rfl⟩ := r
  show Value.isStrOf k (.str k t) = true
  simp [Value.isStrOf]
theorem ssc_ok {K : PySem.W.Frag} {mg : Str → Option Value} {P : Program} {w : World} {own : List Nat} {mi : Env → M (List D × Guard)} {mg' : D → Env → M Env} {mc : Env → M Bool} {me : Env → M D} {sl : List Nat} {σ : L2.St} {H : Hp} {Q : VK} (hsl : ∀ i ∈ sl, i ∈ own)
    (h : Lft K mg (repV K mg) W (fun η => M.bind (mi η) fun w => M.bind (many w.1) fun _ => M.bind (fun S => noErr (comp w.2 mg' mc me (wipeE η own) w.1 S)) fun ys => fun S => match allStrs ys with
      | some ss => if (dedup ss).length < 64 then M.alloc (.lst ((sortStr (dedup ss)).map .str)) S else .bad
      | none => .bad) σ H Q) :
    tScV (vStr P w) (fun k v => v = .str k) (Lft K mg (repI K mg) W mi) (LGt' K mg (fun _ _ _ _ => False) sl mg') (Lft K mg repE (fun _ _ _ _ => False) mc) (Lft K mg (repV K mg) (fun _ _ _ _ => False) me) own σ H (fun x H1 => rSortV (vStr P w) [x] H1 Q) := by
  obtain ⟨ρ, S, η, s, er, h⟩ := h
  refine ⟨ρ, S, η, s, er, (WpG.bind h).mono fun J H1 ⟨w', ρ1, S1, e1, s1, it, h1⟩ => ?_⟩
  obtain ⟨xs, gs⟩ := w'
  obtain ⟨hz, h1⟩ := many_ok h1
  have er1 : EnvRel K mg ρ1 H1 (wipeE η own) (L2.wipe σ own) := (er.ext e1).wipe own
  obtain ⟨tot, S3, ec, h1⟩ := noErr_bind h1
  have it : ItOk K mg J xs gs ρ1 H1 := it
  have hz : xs.length ≤ sizeLine := hz
  cases ess : allStrs tot with
  | none => simp only [ess] at h1; exact h1.elim
  | some ss =>
  simp only [ess] at h1
  split at h1
  case isFalse => exact h1.elim
  case isTrue h64 =>
  intro p hp
  let Pv : Nat → Hp → Prop := fun i H => ∃ ρ2 S2 accD ssp ys, Ext ρ1 H1 ρ2 H ∧ Sim K mg ρ2 S2 H ∧ p ∉ ρ2 ∧ H p = some (SetVO (vStr P w) p (dedup ssp)) ∧ allStrs accD = some ssp ∧
    comp gs mg' mc me (wipeE η own) (xs.drop i) S2 = .ok ys S3 ∧ tot = accD ++ ys
  refine ⟨fun i m H => m = xs.length - i ∧ i ≤ xs.length ∧ Pv i H, ⟨xs.length, by simp, Nat.zero_le _, ρ1, S1, [], [], tot, Ext.tmp hp, s1.tmp hp, s1.free hp, upd_same, rfl, by simpa using ec, rfl⟩, ?_⟩
  rintro i m H ⟨rfl, hi, ρ2, S2, accD, ssp, ys, ex, s2, np, hpl, ra, hc, htot⟩
  by_cases hlt : i < xs.length
  · refine .inr ?_
    have hd : xs.drop i = xs[i] :: xs.drop (i + 1) := List.drop_eq_getElem_cons hlt
    rw [hd] at hc
    unfold comp at hc
    split at hc
    · rename_i hg
      obtain ⟨i1, i2, i3⟩ := it i ρ2 S2 H ex s2 hg
      refine ⟨i2 hlt, Pv (i + 1), fun H' q => ⟨xs.length - (i + 1), by omega, rfl, hlt, q⟩, fun x H' hy => ?_⟩
      obtain ⟨ex2, s2', rx⟩ := i3 x H' _ (List.getElem?_eq_getElem hlt) hy
      obtain ⟨η2, S4, q1, hc⟩ := bind_ok hc
      obtain ⟨b, S5, q2, hc⟩ := bind_ok hc
      have er2 : EnvRel K mg ρ2 H' (wipeE η own) (L2.wipe σ own) := er1.ext (ex.trans ex2)
      refine ⟨ρ2, S2, wipeE η own, xs[i], s2', er2, rx, ?_⟩
      rw [q1]
      rintro ρ4 H4 σ2 ex4 s4 ⟨er4, l4, o4⟩
      refine ⟨wipe_same l4 o4 hsl, ρ4, S4, η2, s4, er4, ?_⟩
      rw [q2]
      rintro ρ5 H5 b' ex5 s5 rfl
      have f5 : Ext ρ2 H ρ5 H5 := ex2.trans (ex4.trans ex5)
      have keepP : ∀ {ρ' : List Addr} {H'' : Hp}, Ext ρ2 H ρ' H'' → H'' p = some (SetVO (vStr P w) p (dedup ssp)) ∧ p ∉ ρ' := fun {ρ' H''} e => ⟨e.keep p _ hpl np, fun hm => by
        rcases e.new p hm with z | z
        · exact np z
        · rw [hpl] at z; cases z⟩
      cases b with
      | true =>
        rw [if_pos rfl] at hc ⊢
        obtain ⟨y, S6, q3, hc⟩ := bind_ok hc
        obtain ⟨r, S7, q4, hc⟩ := bind_ok hc
        cases hc
        refine ⟨ρ5, S5, η2, s5, er4.ext ex5, ?_⟩
        rw [q3]
        intro ρ6 H6 v ex6 s6 rv
        have f6 := f5.trans ex6
        obtain ⟨k1, k2⟩ := keepP f6
        have htot' : tot = (accD ++ [y]) ++ r := by rw [htot]; simp
        have ess' := ess
        rw [htot'] at ess'
        obtain ⟨l1, l2, a1, a2, rfl⟩ := allStrs_append ess'
        obtain ⟨l3, l4, b1, b2, rfl⟩ := allStrs_append a1
        rw [ra] at b1
        cases b1
        obtain ⟨c, ey, el⟩ : ∃ c, y = .str c ∧ l4 = [c] := by
          cases y <;> simp [allStrs] at b2
          exact ⟨_, rfl, b2.symm⟩
        subst ey el
        have hlen : (dedup ssp).length < 64 := Nat.lt_of_le_of_lt (by rw [List.append_assoc]; exact dedup_le ssp _) h64
        have hv : v = .str c := rv
        refine ⟨c, dedup ssp, hv, k1, Nat.lt_of_le_of_lt (Nat.succ_le_of_lt hlen) (by decide), ρ6, S6, accD ++ [.str c], ssp ++ [c], r, (ex.trans f6).off hp, s6.off k1 (fun z => z) k2, k2, ?_, a1, q4, htot'⟩
        rw [upd_same, dedup_snoc]
        rfl
      | false =>
        rw [if_neg Bool.false_ne_true] at hc ⊢
        obtain ⟨k1, k2⟩ := keepP f5
        exact ⟨ρ5, S5, accD, ssp, ys, ex.trans f5, s5, k2, k1, ra, hc, htot⟩
    · cases hc
  · have hn : i = xs.length := by omega
    subst hn
    rw [List.drop_length] at hc
    unfold comp at hc
    split at hc
    · rename_i hg
      cases hc
      rw [List.append_nil] at htot
      subst htot
      rw [ess] at ra
      cases ra
      obtain ⟨i1, _, _⟩ := it xs.length ρ2 S3 H ex s2 hg
      refine .inl ⟨i1 (Nat.le_refl _), p, dedup ss, rfl, hpl, h64, fun zs p' pm so hp' => ?_⟩
      have e := rises_unique (pm.trans (sortStr_perm (dedup ss)).symm) (rises_of so) (sortStr_rises (dedup ss))
      rw [e]
      exact ok_lst (WpG.later ex h1) s2 (rep_strs _) hp'
    · cases hc
theorem sn_ssc (c : Cok T F C X W k) {own : List (Str × Nat)} {mi : Env → M (List D × Guard)} {mg' : D → Env → M Env} {mc : Env → M Bool} {me : Env → M D} {sl own' : List Nat} {elt tg iter : Expr} {ifs : List Expr} {scope : Scope} {p pos pos2 : Pos}
    (hg0 : C.gl "sorted" = true) (hit : PI X tg iter (LI X W mi)) (ok : BlkOk X.N X.env.scope scope own)
    (hg : ∀ (s : Shared) (H : Hp) (C : Addr) (cl : List (Str × Addr)) (fp : List Addr), PG (X.blk s H scope (compEnvC scope cl C X.env) fp) tg (LGt' X.K X.mg (fun _ _ _ _ => False) sl mg')) (ht : ∀ (s : Shared) (H : Hp) (C : Addr) (cl : List (Str × Addr)) (fp : List Addr), PTs (X.blk s H scope (compEnvC scope cl C X.env) fp) ifs (Lft X.K X.mg repE (fun _ _ _ _ => False) mc))
    (he : ∀ (s : Shared) (H : Hp) (C : Addr) (cl : List (Str × Addr)) (fp : List Addr), PE (X.blk s H scope (compEnvC scope cl C X.env) fp) elt (Lft X.K X.mg (repV X.K X.mg) (fun _ _ _ _ => False) me)) (hs : noSets iter = true) (ho : own.map (·.2) = own') (hsl : ∀ i ∈ sl, i ∈ own') :
    PE X (.Call (.Name "sorted" p) [.SetComp elt [⟨tg, iter, ifs, 0⟩] scope pos2] [] pos) (LE X W fun η => M.bind (mi η) fun w => M.bind (many w.1) fun _ => M.bind (fun S => noErr (comp w.2 mg' mc me (wipeE η own') w.1 S)) fun ys => fun S => match allStrs ys with
      | some ss => if (dedup ss).length < 64 then M.alloc (.lst ((sortStr (dedup ss)).map .str)) S else .bad
      | none => .bad) := by
  obtain ⟨g1, g2⟩ := c.gl hg0
  subst ho
  exact PE.imp (pe_callB (cr_sortV c.calm) g1 g2 (boot_bi .sorted) (pa_cons (pe_scV (κ := vStr X.prog X.w) isStr_ok c.calm c.nd hit ok hg ht he fun x => fold_plain hs) pa_nil)) fun σ H Q h => ssc_ok hsl h
end
end Fw
/-! Fw13: every expression that is checked does what its rendition does -/
namespace Fw
open PySem PySem.Spec PyProof.Rows L2
section
variable {T : Tab} {F : Fn}
theorem chkL_len {C : SC} : ∀ {xs : L} {es : List Expr}, chkL C xs es = true → ∀ η S ds S', evL F xs η S = .ok ds S' → ds.length = es.length
  | .nil, es, h => by
    simp only [chkL] at h
    split at h
    · intro η S ds S' q
      simp only [evL, M.pure] at q
      cases q
      rfl
    · cases h
  | .cons x r, es, h => by
    simp only [chkL] at h
    split at h
    · simp only [Bool.and_eq_true] at h
      intro η S ds S' q
      simp only [evL] at q
      obtain ⟨a, S1, _, q⟩ := bind_ok q
      obtain ⟨as, S2, q1, q⟩ := bind_ok q
      cases q
      simp [chkL_len h.1.2 _ _ _ _ q1]
    · cases h
  | .star x r, es, h => by simp [chkL] at h
theorem chkK_len {C : SC} : ∀ {xs : L} {es : List Keyword}, chkK C xs es = true → ∀ η S ds S', evL F xs η S = .ok ds S' → ds.length = es.length
  | .nil, es, h => by
    simp only [chkK] at h
    split at h
    · intro η S ds S' q
      simp only [evL, M.pure] at q
      cases q
      rfl
    · cases h
  | .cons x r, es, h => by
    simp only [chkK] at h
    split at h
    · simp only [Bool.and_eq_true] at h
      intro η S ds S' q
      simp only [evL] at q
      obtain ⟨a, S1, _, q⟩ := bind_ok q
      obtain ⟨as, S2, q1, q⟩ := bind_ok q
      cases q
      simp [chkK_len h.2 _ _ _ _ q1]
    · cases h
  | .star x r, es, h => by simp [chkK] at h
theorem not_slice {b : Expr} (h : notSlice b = true) : ∀ l u st p, b ≠ .Slice l u st p := fun l u st p e => by
  subst e
  cases h
theorem chkGs_stars {C : SC} : ∀ {xs : GL} {es : List Expr}, chkGs C xs es = true → noStars es = true ∧ xs.len = es.length
  | .nil, es, h => by
    simp only [chkGs] at h
    split at h
    · exact ⟨rfl, rfl⟩
    · cases h
  | .cons x r, es, h => by
    simp only [chkGs] at h
    split at h
    · simp only [Bool.and_eq_true] at h
      obtain ⟨h1, h2⟩ := chkGs_stars h.1.2
      refine ⟨?_, by simp [GL.len, h2]⟩
      simp only [noStars, List.all_cons, h.2, Bool.true_and]
      exact h1
    · cases h
theorem mt_there {m : Mt} (h : m.there = true) : m ≠ .items ∧ m ≠ .values ∧ m ≠ .keys := by cases m <;> first | decide | cases h
theorem bad_PE {X : Cx} {W : WX} {e : Expr} {m : Env → M D} (hm : ∀ η S, m η S = .bad) : PE X e (LE X W m) := ⟨fun pins s σ H Q I h => by
  obtain ⟨ρ, S, η, s', er, h⟩ := h
  rw [hm] at h
  exact h.elim⟩
theorem bad_PT {X : Cx} {W : WX} {e : Expr} {m : Env → M Bool} (hm : ∀ η S, m η S = .bad) : PT X e (LT X W m) := ⟨fun pins s σ H Q I h => by
  obtain ⟨ρ, S, η, s', er, h⟩ := h
  rw [hm] at h
  exact h.elim⟩
theorem bad_PW {X : Cx} {W : WX} {e : Expr} {m : Env → M Bool} (hm : ∀ η S, m η S = .bad) : PW X e (LT X W m) := ⟨fun wh pins s σ H Q I h => by
  obtain ⟨ρ, S, η, s', er, h⟩ := h
  rw [hm] at h
  exact h.elim⟩
section
variable {X : Cx} {W : WX} {a b : Expr} {rest : List Expr} {pos : Pos}
theorem sn_and {ma mb : Env → M D} (ha : PE X a (LE X W ma)) (hb : PE X (.BoolOp .And (b :: rest) pos) (LE X W mb)) :
    PE X (.BoolOp .And (a :: b :: rest) pos) (LE X W fun η => M.bind (ma η) fun x => M.bind (isBl x) fun k => if k then mb η else M.pure (.bl false)) := by
  refine PE.imp (pe_and ha hb) fun σ H Q h => ?_
  obtain ⟨ρ, S, η, s, er, h⟩ := h
  refine ⟨ρ, S, η, s, er, (WpG.bind h).mono fun v H1 ⟨d, ρ1, S1, e1, s1, r1, h1⟩ => ?_⟩
  obtain ⟨b, rfl, h2⟩ := isBl_ok r1 h1
  refine ⟨b, rfl, ?_⟩
  cases b with
  | true => exact ⟨ρ1, S1, η, s1, er.ext e1, h2⟩
  | false => exact ok_at h2 s1 (by rfl)
theorem sn_or {ma mb : Env → M D} (ha : PE X a (LE X W ma)) (hb : PE X (.BoolOp .Or (b :: rest) pos) (LE X W mb)) :
    PE X (.BoolOp .Or (a :: b :: rest) pos) (LE X W fun η => M.bind (ma η) fun x => M.bind (isBl x) fun k => if k then M.pure (.bl true) else mb η) := by
  refine PE.imp (pe_or ha hb) fun σ H Q h => ?_
  obtain ⟨ρ, S, η, s, er, h⟩ := h
  refine ⟨ρ, S, η, s, er, (WpG.bind h).mono fun v H1 ⟨d, ρ1, S1, e1, s1, r1, h1⟩ => ?_⟩
  obtain ⟨b, rfl, h2⟩ := isBl_ok r1 h1
  refine ⟨b, rfl, ?_⟩
  cases b with
  | false => exact ⟨ρ1, S1, η, s1, er.ext e1, h2⟩
  | true => exact ok_at h2 s1 (by rfl)
theorem PW.imp {e : Expr} {t t' : TT} (h : PW X e t) (i : ∀ σ H Q, t' σ H Q → t σ H Q) : PW X e t' := ⟨fun wh pins s σ H Q I q => h.run wh pins s σ H Q I (i σ H Q q)⟩
theorem st_and {ma mb : Env → M Bool} (ha : PT X a (LT X W ma)) (hb : PW X (.BoolOp .And (b :: rest) pos) (LT X W mb)) :
    PW X (.BoolOp .And (a :: b :: rest) pos) (LT X W fun η => M.bind (ma η) fun k => if k then mb η else M.pure false) := by
  refine PW.imp (pw_and ha hb) fun σ H Q h => ?_
  obtain ⟨ρ, S, η, s, er, h⟩ := h
  refine ⟨ρ, S, η, s, er, (WpG.bind h).mono fun v H1 ⟨d, ρ1, S1, e1, s1, r1, h2⟩ => ?_⟩
  have r1 : d = v := r1
  subst r1
  cases d with
  | true => exact ⟨ρ1, S1, η, s1, er.ext e1, h2⟩
  | false => exact h2 ρ1 H1 false .refl s1 rfl
theorem st_or {ma mb : Env → M Bool} (ha : PT X a (LT X W ma)) (hb : PW X (.BoolOp .Or (b :: rest) pos) (LT X W mb)) :
    PW X (.BoolOp .Or (a :: b :: rest) pos) (LT X W fun η => M.bind (ma η) fun k => if k then M.pure true else mb η) := by
  refine PW.imp (pw_or ha hb) fun σ H Q h => ?_
  obtain ⟨ρ, S, η, s, er, h⟩ := h
  refine ⟨ρ, S, η, s, er, (WpG.bind h).mono fun v H1 ⟨d, ρ1, S1, e1, s1, r1, h2⟩ => ?_⟩
  have r1 : d = v := r1
  subst r1
  cases d with
  | false => exact ⟨ρ1, S1, η, s1, er.ext e1, h2⟩
  | true => exact h2 ρ1 H1 true .refl s1 rfl
end
theorem chkP_keys {C : SC} : ∀ {x : PL} {ks : List (Option Expr)} {vs : List Expr}, chkP C x ks vs = true → ks.all (·.isSome) = true ∧ ks.length = vs.length
  | .nil, ks, vs, h => by
    simp only [chkP] at h
    split at h
    · exact ⟨rfl, rfl⟩
    · cases h
  | .cons x y r, ks, vs, h => by
    simp only [chkP] at h
    split at h
    · simp only [Bool.and_eq_true] at h
      obtain ⟨h1, h2⟩ := chkP_keys h.2
      exact ⟨by simp only [List.all_cons, Option.isSome_some, Bool.true_and]; exact h1, by simp [h2]⟩
    · cases h
theorem chkL_cons {C : SC} {x : E} {r : L} {e : Expr} {es : List Expr} : chkL C (.cons x r) (e :: es) = (chkE C x e && chkL C r es && notStar e) := by simp only [chkL]
theorem chkTs_cons {C : SC} {x : E} {r : L} {e : Expr} {es : List Expr} : chkTs C (.cons x r) (e :: es) = (chkT C x e && chkTs C r es) := by simp only [chkTs]
mutual
theorem okE : ∀ (x : E) {C : SC} {e : Expr} {X : Cx} {W : WX} {k : Nat}, chkE C x e = true → Cok T F C X W k → PE X e (LE X W (evE F x))
  | .var i, C, e, X, W, k, h, c => by
    simp only [chkE] at h
    split at h
    · simp only [Bool.and_eq_true, decide_eq_true_eq] at h
      obtain ⟨⟨h1, h2⟩, h3⟩ := h
      obtain ⟨n1, n2, _⟩ := ok_name h3
      refine PE.imp (pe_var (i := i) (by rw [c.hN]; exact h1) (c.vis h2) n1 n2) fun σ H Q h => ?_
      obtain ⟨ρ, S, η, s, er, h⟩ := h
      simp only [evE] at h
      split at h
      · rename_i d e0
        obtain ⟨v, e1, r⟩ := er.2 i d e0
        exact ⟨v, e1, ok_at h s r⟩
      · exact h.elim
    · cases h
  | .glb j, C, e, X, W, k, h, c => by
    simp only [chkE] at h
    split at h
    · simp only [Bool.and_eq_true, decide_eq_true_eq] at h
      obtain ⟨⟨h1, h2⟩, h3⟩ := h
      obtain ⟨n1, n2, _⟩ := ok_name h3
      cases hc : F.consts j with
      | none =>
        refine ⟨fun pins s σ H Q I h => ?_⟩
        obtain ⟨ρ, S, η, s, er, h⟩ := h
        simp only [evE, hc] at h
        exact h.elim
      | some d =>
        obtain ⟨u, v, hm, r, rd⟩ := c.cns j _ d h1 hc
        refine PE.imp (pe_glob (c.glob h2) hm r n1) fun σ H Q h => ?_
        obtain ⟨ρ, S, η, s, er, h⟩ := h
        simp only [evE, hc] at h
        exact ok_at h s (rd ρ H)
    · cases h
  | .non, C, e, X, W, k, h, c => by
    simp only [chkE] at h
    split at h
    · exact PE.imp pe_non fun σ H Q ⟨ρ, S, η, s, er, h⟩ => ok_at h s (by rfl)
    · cases h
  | .bl b, C, e, X, W, k, h, c => by
    simp only [chkE] at h
    split at h
    · cases of_decide_eq_true h
      exact PE.imp pe_bl fun σ H Q ⟨ρ, S, η, s, er, h⟩ => ok_at h s (by rfl)
    · cases h
  | .int b, C, e, X, W, k, h, c => by
    simp only [chkE] at h
    split at h
    · cases of_decide_eq_true h
      exact PE.imp pe_int fun σ H Q ⟨ρ, S, η, s, er, h⟩ => ok_at h s (by rfl)
    · cases h
  | .str b, C, e, X, W, k, h, c => by
    simp only [chkE] at h
    split at h
    · cases of_decide_eq_true h
      exact PE.imp pe_str fun σ H Q ⟨ρ, S, η, s, er, h⟩ => ok_at h s (by rfl)
    · cases h
  | .bin o a b, C, e, X, W, k, h, c => by
    simp only [chkE] at h
    split at h
    · simp only [Bool.and_eq_true, decide_eq_true_eq] at h
      obtain ⟨⟨h1, h2⟩, h3⟩ := h
      subst h1
      exact sn_bin (okE a h2 c) (okE b h3 c)
    · cases h
  | .neg a, C, e, X, W, k, h, c => by
    simp only [chkE] at h
    split at h
    · exact sn_neg (okE a h c)
    · cases h
  | .cmp o a b, C, e, X, W, k, h, c => by
    simp only [chkE] at h
    split at h
    · simp only [Bool.and_eq_true, decide_eq_true_eq] at h
      obtain ⟨⟨⟨h1, h2⟩, h3⟩, h4⟩ := h
      subst h1
      exact sn_cmp c.un100 (okE a h2 c) (okE b h3 c) h4
    · cases h
  | .chn o o' a b d, C, e, X, W, k, h, c => by
    simp only [chkE] at h
    split at h
    · simp only [Bool.and_eq_true, decide_eq_true_eq] at h
      obtain ⟨⟨⟨⟨⟨⟨h1, h2⟩, h3⟩, h4⟩, h5⟩, h6⟩, h7⟩ := h
      subst h1 h2
      exact sn_chn c.un100 (okE a h3 c) (okE b h4 c) (okE d h5 c) h6 h7
    · cases h
  | .and xs, C, e, X, W, k, h, c => by
    simp only [chkE] at h
    split at h
    · simp only [Bool.and_eq_true] at h
      exact okAnd xs h.1 c
    · cases h
  | .or xs, C, e, X, W, k, h, c => by
    simp only [chkE] at h
    split at h
    · simp only [Bool.and_eq_true] at h
      exact okOr xs h.1 c
    · cases h
  | .not a, C, e, X, W, k, h, c => by
    simp only [chkE] at h
    split at h
    · exact sn_not (okE a h c)
    · cases h
  | .ife t a b, C, e, X, W, k, h, c => by
    simp only [chkE] at h
    split at h
    · simp only [Bool.and_eq_true] at h
      exact sn_ife (okT t h.1.1 c) (okE a h.1.2 c) (okE b h.2 c)
    · cases h
  | .tup xs, C, e, X, W, k, h, c => by
    simp only [chkE] at h
    split at h
    · exact sn_tup (okM xs h c)
    · cases h
  | .lst xs, C, e, X, W, k, h, c => by
    simp only [chkE] at h
    split at h
    · exact sn_lst (okM xs h c)
    · cases h
  | .dct .nil, C, e, X, W, k, h, c => by
    simp only [chkE] at h
    split at h
    · simp only [Bool.and_eq_true, chkP] at h
      split at h
      · exact sn_dct0
      · cases h.1
    · cases h
  | .dct (.cons x y r), C, e, X, W, k, h, c => by
    simp only [chkE] at h
    split at h
    · simp only [Bool.and_eq_true, decide_eq_true_eq] at h
      obtain ⟨h1, h2⟩ := chkP_keys h.1
      exact sn_dct (okP (.cons x y r) h.1 c) h1 h2 (by
        rintro rfl
        simp [chkP] at h) h.2
    · cases h
  | .idx a i, C, e, X, W, k, h, c => by
    simp only [chkE] at h
    split at h
    · simp only [Bool.and_eq_true] at h
      exact sn_idx c.un100 (okE a h.1.1 c) (okE i h.1.2 c) (not_slice h.2)
    · cases h
  | .slc a lo hi, C, e, X, W, k, h, c => by
    simp only [chkE] at h
    split at h
    · simp only [Bool.and_eq_true] at h
      exact sn_slc (okE a h.1.1 c) (okO lo h.1.2 c) (okO hi h.2 c)
    · cases h
  | .rev a, C, e, X, W, k, h, c => by
    simp only [chkE] at h
    split at h
    · exact sn_rev (okE a h c)
    · cases h
  | .call f xs, C, e, X, W, k, h, c => by
    simp only [chkE] at h
    split at h
    · rename_i x _ es _
      simp only [Bool.and_eq_true, decide_eq_true_eq] at h
      obtain ⟨⟨⟨h1, h2⟩, h3⟩, h4⟩ := h
      cases es with
      | nil =>
        cases xs with
        | nil => exact sn_call0 c h1 h2 h3
        | cons _ _ => simp [chkL] at h4
        | star _ _ => simp [chkL] at h4
      | cons e es => exact sn_call c h1 h2 h3 (okL xs h4 c) (chkL_stars h4)
    · cases h
  | .callk f xs ks p, C, e, X, W, k, h, c => by
    simp only [chkE] at h
    split at h
    · rename_i x _ es kws _
      simp only [Bool.and_eq_true, decide_eq_true_eq] at h
      obtain ⟨⟨⟨⟨⟨⟨h1, h2⟩, h3⟩, h4⟩, h5⟩, h6⟩, h7⟩ := h
      cases es with
      | nil =>
        cases xs with
        | nil => exact sn_callk0 c h1 h2 h3 (okK ks h5 c) h6 rfl h7 fun η S ds S' q => by rw [chkK_len h5 _ _ _ _ q, h7]
        | cons _ _ => simp [chkL] at h4
        | star _ _ => simp [chkL] at h4
      | cons e es => exact sn_callk c h1 h2 h3 (okL xs h4 c) (chkL_stars h4) (okK ks h5 c) h6 rfl h7 (chkL_len h4) fun η S ds S' q => by rw [chkK_len h5 _ _ _ _ q, h7]
    · cases h
  | .bi b xs, C, e, X, W, k, h, c => by
    simp only [chkE] at h
    split at h
    · rename_i x _ es _
      simp only [Bool.and_eq_true, decide_eq_true_eq] at h
      obtain ⟨⟨⟨h1, h2⟩, h3⟩, h4⟩ := h
      subst h1
      cases es with
      | nil => cases h4
      | cons e es => exact sn_bi c h2 (okL xs h3 c) (chkL_stars h3)
    · cases h
  | .mth m o xs, C, e, X, W, k, h, c => by
    simp only [chkE] at h
    split at h
    · rename_i x _ p es q
      simp only [Bool.and_eq_true, decide_eq_true_eq] at h
      obtain ⟨⟨⟨⟨⟨⟨h1, h2⟩, h3⟩, h4⟩, h5⟩, h6⟩, h7⟩ := h
      subst h1
      cases es with
      | nil =>
        cases xs with
        | nil => exact sn_mth0 c (mt_there h4) (okE o h2 c) h5 h6
        | cons _ _ => simp [chkL] at h3
        | star _ _ => simp [chkL] at h3
      | cons e es => exact sn_mth c (mt_there h4) (okE o h2 c) (okL xs h3 c) (chkL_stars h3) h5 h6 h7
    · cases h
  | .lcp elt g it cd own, C, e, X, W, k, h, c => by
    simp only [chkE] at h
    split at h
    · rename_i el tg iter ifs scope _
      simp only [Bool.and_eq_true, decide_eq_true_eq] at h
      obtain ⟨⟨⟨⟨⟨⟨⟨h1, h2⟩, h3⟩, h4⟩, h5⟩, h6⟩, h7⟩, h8⟩ := h
      have hb := blkOk_by h4
      rw [← c.hN, ← c.sc] at hb
      refine PE.imp (pe_lc (own := own.filterMap fun i => X.N[i]?.map fun x => (x, i)) c.calm c.nd (okI it h1 c) hb (g := LGt' X.K X.mg (fun _ _ _ _ => False) g.slots (asG F g)) (tt := Lft X.K X.mg repE (fun _ _ _ _ => False) (evC F cd)) (te := Lft X.K X.mg (repV X.K X.mg) (fun _ _ _ _ => False) (evE F elt)) (fun s H A cl fp => okG g h6 (c.inner s H scope cl A fp)) (fun s H A cl fp => okC cd h7 (c.inner s H scope cl A fp)) (fun s H A cl fp => okE elt h8 (c.inner s H scope cl A fp)) fun x => fold_plain h2) fun σ H Q h => ?_
      rw [c.hN, h5]
      exact lc_ok (fun i hi => of_decide_eq_true (List.all_eq_true.mp h3 i hi)) h
    · cases h
  | .ssc elt g it cd own, C, e, X, W, k, h, c => by
    simp only [chkE] at h
    split at h
    · rename_i x p el tg iter ifs scope p2 pos
      simp only [Bool.and_eq_true, decide_eq_true_eq] at h
      obtain ⟨⟨⟨⟨⟨⟨⟨⟨⟨h0, h0'⟩, h1⟩, h2⟩, h3⟩, h4⟩, h5⟩, h6⟩, h7⟩, h8⟩ := h
      subst h0
      have hb := blkOk_by h4
      rw [← c.hN, ← c.sc] at hb
      exact sn_ssc c h0' (okI it h1 c) hb (fun s H A cl fp => okG g h6 (c.inner s H scope cl A fp)) (fun s H A cl fp => okC cd h7 (c.inner s H scope cl A fp)) (fun s H A cl fp => okE elt h8 (c.inner s H scope cl A fp)) h2 (by rw [c.hN]; exact h5) (fun i hi => of_decide_eq_true (List.all_eq_true.mp h3 i hi))
    · cases h
theorem okAnd : ∀ (x : L) {C : SC} {es : List Expr} {X : Cx} {W : WX} {k : Nat} {pos : Pos}, chkL C x es = true → Cok T F C X W k → PE X (.BoolOp .And es pos) (LE X W (evAnd F x))
  | .nil, C, es, X, W, k, pos, h, c => bad_PE fun _ _ => rfl
  | .star _ _, C, es, X, W, k, pos, h, c => by simp [chkL] at h
  | .cons x .nil, C, es, X, W, k, pos, h, c => by
    simp only [chkL] at h
    split at h
    · simp only [Bool.and_eq_true] at h
      split at h
      · exact pe_one (okE x h.1.1 c)
      · cases h.1.2
    · cases h
  | .cons x (.star _ _), C, es, X, W, k, pos, h, c => by
    simp only [chkL] at h
    split at h
    · simp at h
    · cases h
  | .cons x (.cons y r), C, es, X, W, k, pos, h, c => by
    cases es with
    | nil => simp [chkL] at h
    | cons e es =>
      rw [chkL_cons] at h
      simp only [Bool.and_eq_true] at h
      obtain ⟨⟨h1, h2⟩, h3⟩ := h
      cases es with
      | nil => simp [chkL] at h2
      | cons e' es => exact sn_and (okE x h1 c) (okAnd (.cons y r) h2 c)
theorem okOr : ∀ (x : L) {C : SC} {es : List Expr} {X : Cx} {W : WX} {k : Nat} {pos : Pos}, chkL C x es = true → Cok T F C X W k → PE X (.BoolOp .Or es pos) (LE X W (evOr F x))
  | .nil, C, es, X, W, k, pos, h, c => bad_PE fun _ _ => rfl
  | .star _ _, C, es, X, W, k, pos, h, c => by simp [chkL] at h
  | .cons x .nil, C, es, X, W, k, pos, h, c => by
    simp only [chkL] at h
    split at h
    · simp only [Bool.and_eq_true] at h
      split at h
      · exact pe_one (okE x h.1.1 c)
      · cases h.1.2
    · cases h
  | .cons x (.star _ _), C, es, X, W, k, pos, h, c => by
    simp only [chkL] at h
    split at h
    · simp at h
    · cases h
  | .cons x (.cons y r), C, es, X, W, k, pos, h, c => by
    cases es with
    | nil => simp [chkL] at h
    | cons e es =>
      rw [chkL_cons] at h
      simp only [Bool.and_eq_true] at h
      obtain ⟨⟨h1, h2⟩, h3⟩ := h
      cases es with
      | nil => simp [chkL] at h2
      | cons e' es => exact sn_or (okE x h1 c) (okOr (.cons y r) h2 c)
theorem okTAnd : ∀ (x : L) {C : SC} {es : List Expr} {X : Cx} {W : WX} {k : Nat} {pos : Pos}, chkTs C x es = true → Cok T F C X W k → PW X (.BoolOp .And es pos) (LT X W (tsAnd F x))
  | .nil, C, es, X, W, k, pos, h, c => bad_PW fun _ _ => rfl
  | .star _ _, C, es, X, W, k, pos, h, c => by simp [chkTs] at h
  | .cons x .nil, C, es, X, W, k, pos, h, c => by
    simp only [chkTs] at h
    split at h
    · simp only [Bool.and_eq_true] at h
      split at h
      · exact pw_and1 (okT x h.1 c)
      · cases h.2
    · cases h
  | .cons x (.star _ _), C, es, X, W, k, pos, h, c => by
    simp only [chkTs] at h
    split at h
    · simp at h
    · cases h
  | .cons x (.cons y r), C, es, X, W, k, pos, h, c => by
    cases es with
    | nil => simp [chkTs] at h
    | cons e es =>
      rw [chkTs_cons] at h
      simp only [Bool.and_eq_true] at h
      obtain ⟨h1, h2⟩ := h
      cases es with
      | nil => simp [chkTs] at h2
      | cons e' es => exact st_and (okT x h1 c) (okTAnd (.cons y r) h2 c)
theorem okTOr : ∀ (x : L) {C : SC} {es : List Expr} {X : Cx} {W : WX} {k : Nat} {pos : Pos}, chkTs C x es = true → Cok T F C X W k → PW X (.BoolOp .Or es pos) (LT X W (tsOr F x))
  | .nil, C, es, X, W, k, pos, h, c => bad_PW fun _ _ => rfl
  | .star _ _, C, es, X, W, k, pos, h, c => by simp [chkTs] at h
  | .cons x .nil, C, es, X, W, k, pos, h, c => by
    simp only [chkTs] at h
    split at h
    · simp only [Bool.and_eq_true] at h
      split at h
      · exact pw_or1 (okT x h.1 c)
      · cases h.2
    · cases h
  | .cons x (.star _ _), C, es, X, W, k, pos, h, c => by
    simp only [chkTs] at h
    split at h
    · simp at h
    · cases h
  | .cons x (.cons y r), C, es, X, W, k, pos, h, c => by
    cases es with
    | nil => simp [chkTs] at h
    | cons e es =>
      rw [chkTs_cons] at h
      simp only [Bool.and_eq_true] at h
      obtain ⟨h1, h2⟩ := h
      cases es with
      | nil => simp [chkTs] at h2
      | cons e' es => exact st_or (okT x h1 c) (okTOr (.cons y r) h2 c)
theorem okT : ∀ (x : E) {C : SC} {e : Expr} {X : Cx} {W : WX} {k : Nat}, chkT C x e = true → Cok T F C X W k → PT X e (LT X W (evT F x))
  | .and xs, C, e, X, W, k, h, c => by
    simp only [chkT] at h
    split at h
    · simp only [Bool.and_eq_true] at h
      exact (okTAnd xs h.1 c).pt
    · cases h
  | .or xs, C, e, X, W, k, h, c => by
    simp only [chkT] at h
    split at h
    · simp only [Bool.and_eq_true] at h
      exact (okTOr xs h.1 c).pt
    · cases h
  | .not a, C, e, X, W, k, h, c => by
    simp only [chkT] at h
    split at h
    · exact st_not (okT a h c)
    · cases h
  | .cmp o a b, C, e, X, W, k, h, c => by
    simp only [chkT] at h
    split at h
    · simp only [Bool.and_eq_true, decide_eq_true_eq] at h
      obtain ⟨⟨⟨h1, h2⟩, h3⟩, h4⟩ := h
      subst h1
      exact st_cmp c.un100 (okE a h2 c) (okE b h3 c) h4
    · cases h
  | .chn o o' a b d, C, e, X, W, k, h, c => by
    simp only [chkT] at h
    split at h
    · simp only [Bool.and_eq_true, decide_eq_true_eq] at h
      obtain ⟨⟨⟨⟨⟨⟨h1, h2⟩, h3⟩, h4⟩, h5⟩, h6⟩, h7⟩ := h
      subst h1 h2
      exact st_chn c.un100 (okE a h3 c) (okE b h4 c) (okE d h5 c) h6 h7
    · cases h
  | .bl b, C, e, X, W, k, h, c => by
    simp only [chkT] at h
    split at h
    · cases of_decide_eq_true h
      refine PT.imp (pt_val pe_bl) fun σ H Q h => ?_
      obtain ⟨ρ, S, η, s, er, h⟩ := h
      exact ⟨b, rfl, h ρ H b .refl s rfl⟩
    · cases h
  | .var i, C, e, X, W, k, h, c => by
    have h0 : chkE C (.var i) e = true := by simpa only [chkT, chkE] using h
    simp only [chkT] at h
    split at h
    · have := st_truth (okE (.var i) h0 c) (by intro _; rfl)
      simpa only [evE, evT] using this
    · cases h
  | .call f xs, C, e, X, W, k, h, c => by
    have h0 : chkE C (.call f xs) e = true := by simpa only [chkT, chkE] using h
    simp only [chkT] at h
    split at h
    · have := st_truth (okE (.call f xs) h0 c) (by intro _; rfl)
      simpa only [evE, evT] using this
    · cases h
  | .bi b xs, C, e, X, W, k, h, c => by
    have h0 : chkE C (.bi b xs) e = true := by simpa only [chkT, chkE] using h
    simp only [chkT] at h
    split at h
    · have := st_truth (okE (.bi b xs) h0 c) (by intro _; rfl)
      simpa only [evE, evT] using this
    · cases h
  | .idx a b, C, e, X, W, k, h, c => by
    have h0 : chkE C (.idx a b) e = true := by simpa only [chkT, chkE] using h
    simp only [chkT] at h
    split at h
    · have := st_truth (okE (.idx a b) h0 c) (by intro _; rfl)
      simpa only [evE, evT] using this
    · cases h
  | .glb _, C, e, X, W, k, h, c => by simp [chkT] at h
  | .non, C, e, X, W, k, h, c => by simp [chkT] at h
  | .int _, C, e, X, W, k, h, c => by simp [chkT] at h
  | .str _, C, e, X, W, k, h, c => by simp [chkT] at h
  | .bin _ _ _, C, e, X, W, k, h, c => by simp [chkT] at h
  | .neg _, C, e, X, W, k, h, c => by simp [chkT] at h
  | .ife _ _ _, C, e, X, W, k, h, c => by simp [chkT] at h
  | .tup _, C, e, X, W, k, h, c => by simp [chkT] at h
  | .lst _, C, e, X, W, k, h, c => by simp [chkT] at h
  | .dct _, C, e, X, W, k, h, c => by simp [chkT] at h
  | .slc _ _ _, C, e, X, W, k, h, c => by simp [chkT] at h
  | .rev _, C, e, X, W, k, h, c => by simp [chkT] at h
  | .callk _ _ _ _, C, e, X, W, k, h, c => by simp [chkT] at h
  | .mth _ _ _, C, e, X, W, k, h, c => by simp [chkT] at h
  | .lcp _ _ _ _ _, C, e, X, W, k, h, c => by simp [chkT] at h
  | .ssc _ _ _ _ _, C, e, X, W, k, h, c => by simp [chkT] at h
theorem okL : ∀ (x : L) {C : SC} {es : List Expr} {X : Cx} {W : WX} {k : Nat}, chkL C x es = true → Cok T F C X W k → PA X es (LA X W (evL F x))
  | .nil, C, es, X, W, k, h, c => by
    simp only [chkL] at h
    split at h
    · exact sn_nil
    · cases h
  | .star _ _, C, es, X, W, k, h, c => by simp [chkL] at h
  | .cons x r, C, es, X, W, k, h, c => by
    simp only [chkL] at h
    split at h
    · simp only [Bool.and_eq_true] at h
      exact sn_cons (okE x h.1.1 c) (okL r h.1.2 c) h.2
    · cases h
theorem okM : ∀ (x : L) {C : SC} {es : List Expr} {X : Cx} {W : WX} {k : Nat}, chkM C x es = true → Cok T F C X W k → PA X es (LA X W (evL F x))
  | .nil, C, es, X, W, k, h, c => by
    simp only [chkM] at h
    split at h
    · exact sn_nil
    · cases h
  | .star x r, C, es, X, W, k, h, c => by
    simp only [chkM] at h
    split at h
    · simp only [Bool.and_eq_true] at h
      exact sm_star (okE x h.1 c) (okM r h.2 c)
    · cases h
  | .cons x r, C, es, X, W, k, h, c => by
    simp only [chkM] at h
    split at h
    · simp only [Bool.and_eq_true] at h
      exact sn_cons (okE x h.1.1 c) (okM r h.1.2 c) h.2
    · cases h
theorem okP : ∀ (x : PL) {C : SC} {ks : List (Option Expr)} {vs : List Expr} {X : Cx} {W : WX} {k : Nat}, chkP C x ks vs = true → Cok T F C X W k → PLk X W ks vs (evP F x)
  | .nil, C, ks, vs, X, W, k, h, c => by
    simp only [chkP] at h
    split at h
    · exact pl_nil
    · cases h
  | .cons x y r, C, ks, vs, X, W, k, h, c => by
    simp only [chkP] at h
    split at h
    · simp only [Bool.and_eq_true] at h
      exact pl_cons (okE x h.1.1 c) (okE y h.1.2 c) (okP r h.2 c)
    · cases h
theorem okK : ∀ (x : L) {C : SC} {es : List Keyword} {X : Cx} {W : WX} {k : Nat}, chkK C x es = true → Cok T F C X W k → PK X es (LK X W (evL F x))
  | .nil, C, es, X, W, k, h, c => by
    simp only [chkK] at h
    split at h
    · exact sk_nil
    · cases h
  | .star _ _, C, es, X, W, k, h, c => by simp [chkK] at h
  | .cons x r, C, es, X, W, k, h, c => by
    simp only [chkK] at h
    split at h
    · simp only [Bool.and_eq_true] at h
      exact sk_cons (okE x h.1 c) (okK r h.2 c)
    · cases h
theorem okO : ∀ (x : O) {C : SC} {e : Option Expr} {X : Cx} {W : WX} {k : Nat}, chkO C x e = true → Cok T F C X W k → PO X e (LO X W (evO F x))
  | .none, C, e, X, W, k, h, c => by
    simp only [chkO] at h
    split at h
    · exact so_none
    · cases h
  | .some x, C, e, X, W, k, h, c => by
    simp only [chkO] at h
    split at h
    · exact so_some (okE x h c)
    · cases h
theorem okC : ∀ (x : O) {C : SC} {e : List Expr} {X : Cx} {W : WX} {k : Nat}, chkC C x e = true → Cok T F C X W k → PTs X e (LT X W (evC F x))
  | .none, C, e, X, W, k, h, c => by
    simp only [chkC] at h
    split at h
    · refine ⟨fun pins s σ H Q I q => pts_nil.run pins s σ H Q I ?_⟩
      obtain ⟨ρ, S, η, sm, er, q⟩ := q
      exact q ρ H true .refl sm rfl
    · cases h
  | .some x, C, e, X, W, k, h, c => by
    simp only [chkC] at h
    split at h
    · exact pts_one (okT x h c)
    · cases h
theorem okG : ∀ (x : G) {C : SC} {e : Expr} {X : Cx} {W : WX} {k : Nat}, chkG C x e = true → Cok T F C X W k → PG X e (LGt X W x.slots (asG F x))
  | .name i, C, e, X, W, k, h, c => by
    simp only [chkG] at h
    split at h
    · simp only [Bool.and_eq_true, decide_eq_true_eq] at h
      exact sg_name c h.1 h.2
    · cases h
  | .tup gs, C, e, X, W, k, h, c => by
    simp only [chkG] at h
    split at h
    · have hl := chkGs_stars h
      have := sg_tup (n := ‹_›) (p := ‹_›) c.calm (W := W) (okGs gs h c) hl.1
      rw [← hl.2] at this
      exact this
    · cases h
  | .sub o i, C, e, X, W, k, h, c => by
    simp only [chkG] at h
    split at h
    · simp only [Bool.and_eq_true] at h
      exact sg_sub c.un100 (okE o h.1.1 c) (okE i h.1.2 c) (not_slice h.2)
    · cases h
theorem okGs : ∀ (x : GL) {C : SC} {es : List Expr} {X : Cx} {W : WX} {k : Nat}, chkGs C x es = true → Cok T F C X W k → PGs X es (LGs X x.slots (asGs F x))
  | .nil, C, es, X, W, k, h, c => by
    simp only [chkGs] at h
    split at h
    · refine PGs.imp sg_nil fun v σ H Q h => ?_
      obtain ⟨ρ, S, η, ds, s, er, r, ne, h⟩ := h
      refine ⟨ρ, S, η, ds, s, er, r, ?_, ?_⟩ <;> cases ds <;> first | exact ne | exact h | (intro _ _ q; cases q)
    · cases h
  | .cons g r, C, es, X, W, k, h, c => by
    simp only [chkGs] at h
    split at h
    · simp only [Bool.and_eq_true] at h
      refine PGs.imp (sg_cons (okG g h.1.1 c) (okGs r h.1.2 c) h.2) fun v σ H Q h => ?_
      obtain ⟨ρ, S, η, ds, s, er, r, ne, h⟩ := h
      refine ⟨ρ, S, η, ds, s, er, r, ?_, ?_⟩ <;> cases ds <;> first | exact ne | exact h | (intro _ _ q; cases q)
    · cases h
theorem okI : ∀ (x : I) {C : SC} {e tg : Expr} {X : Cx} {W : WX} {k : Nat}, chkI C x e = true → Cok T F C X W k → PI X tg e (LI X W (evI F x))
  | .val x, C, e, tg, X, W, k, h, c => by
    simp only [chkI] at h
    exact si_val (okE x h c)
  | .rng1 a, C, e, tg, X, W, k, h, c => by
    simp only [chkI] at h
    split at h
    · simp only [Bool.and_eq_true, decide_eq_true_eq] at h
      obtain ⟨⟨⟨h1, h2⟩, h3⟩, h4⟩ := h
      subst h1
      exact si_rng1 c h2 (okE a h3 c) h4
    · cases h
  | .rng2 a b, C, e, tg, X, W, k, h, c => by
    simp only [chkI] at h
    split at h
    · simp only [Bool.and_eq_true, decide_eq_true_eq] at h
      obtain ⟨⟨⟨⟨⟨h1, h2⟩, h3⟩, h4⟩, h5⟩, h6⟩ := h
      subst h1
      exact si_rng2 c h2 (okE a h3 c) (okE b h4 c) h5 h6
    · cases h
  | .zip _ _, C, e, tg, X, W, k, h, c => by simp [chkI] at h
end
end
end Fw
/-! Fw14: statements -/
namespace Fw
open PySem PySem.Spec PyProof.Rows L2
section
variable {K : PySem.W.Frag} {mg : Str → Option Value} {W : WX} {D : Ends} {ρ ρ1 : List Addr} {H H1 : Hp}
def WpS (K : PySem.W.Frag) (mg : Str → Option Value) (W : WX) (D : Ends) (ρ : List Addr) (H : Hp) : RS → Prop
  | .ok .nx η S => ∀ ρ' H' σ, Ext ρ H ρ' H' → Sim K mg ρ' S H' → EnvRel K mg ρ' H' η σ → D.nx σ H'
  | .ok .brk η S => ∀ ρ' H' σ, Ext ρ H ρ' H' → Sim K mg ρ' S H' → EnvRel K mg ρ' H' η σ → D.bk σ H'
  | .ok .cnt η S => ∀ ρ' H' σ, Ext ρ H ρ' H' → Sim K mg ρ' S H' → EnvRel K mg ρ' H' η σ → D.ct σ H'
  | .ok (.ret d) η S => ∀ ρ' H' v, Ext ρ H ρ' H' → Sim K mg ρ' S H' → RepV K mg ρ' H' d v → D.rt v H'
  | .err e η S => ∀ ρ' H' σ cls dd, Ext ρ H ρ' H' → Sim K mg ρ' S H' → EnvRel K mg ρ' H' η σ → ErrRep K mg ρ' H' S e cls dd → W cls dd σ H'
  | .bad => False
theorem WpS.later {r : RS} (e : Ext ρ H ρ1 H1) (h : WpS K mg W D ρ H r) : WpS K mg W D ρ1 H1 r := by
  cases r with
  | ok f η S =>
    cases f with
    | nx => exact fun ρ' H' σ e' => h ρ' H' σ (e.trans e')
    | brk => exact fun ρ' H' σ e' => h ρ' H' σ (e.trans e')
    | cnt => exact fun ρ' H' σ e' => h ρ' H' σ (e.trans e')
    | ret d => exact fun ρ' H' v e' => h ρ' H' v (e.trans e')
  | err d η S => exact fun ρ' H' σ cls dd e' => h ρ' H' σ cls dd (e.trans e')
  | bad => exact h
end
def LS (X : Cx) (W : WX) (m : Env → Store → RS) : TS := fun En σ H => ∃ ρ S η, Sim X.K X.mg ρ S H ∧ EnvRel X.K X.mg ρ H η σ ∧ WpS X.K X.mg W En ρ H (m η S)
theorem bad_PS {X : Cx} {W : WX} {e : Stmt} {m : Env → Store → RS} (hm : ∀ η S, m η S = .bad) : PS X e (LS X W m) := ⟨fun pins s σ H Q I h => by
  obtain ⟨ρ, S, η, s', er, h⟩ := h
  rw [hm] at h
  exact h.elim⟩
section
variable {T : Tab} {F : Fn} {C : SC} {X : Cx} {W : WX} {k : Nat} {En : Ends} {σ : L2.St} {H : Hp}
/-! ### from a value's reading to a statement's -/
theorem of_wp {α β : Type} {rep : List Addr → Hp → α → β → Prop} {ρ : List Addr} {η : Env} (f : α → Env) (g : α → Fl) {r : R α} {Q : β → Hp → Prop} (er : EnvRel X.K X.mg ρ H η σ) (h : WpS X.K X.mg W En ρ H (RS.of η f g r))
    (hq : ∀ a S', r = .ok a S' → WpS X.K X.mg W En ρ H (.ok (g a) (f a) S') → ∀ ρ' H' b, Ext ρ H ρ' H' → Sim X.K X.mg ρ' S' H' → rep ρ' H' a b → Q b H') : WpG X.K X.mg rep (fun c d H' => W c d σ H') ρ H r Q := by
  cases r with
  | ok a S' => exact hq a S' rfl h
  | err e S' => exact fun ρ' H' cls dd ex s' r => h ρ' H' σ cls dd ex s' (er.ext ex) r
  | bad => exact h
theorem ss_ret {e : Expr} {m : Env → M D} {pos : Pos} (he : PE X e (LE X W m)) : PS X (.Return (some e) pos) (LS X W fun η S => RS.of η (fun _ => η) .ret (m η S)) := by
  refine PS.imp (ps_ret he) fun En σ H h => ?_
  obtain ⟨ρ, S, η, s, er, h⟩ := h
  exact ⟨ρ, S, η, s, er, of_wp (fun _ => η) .ret er h fun a S' e1 h1 ρ' H' b ex s' r => h1 ρ' H' b ex s' r⟩
theorem ss_exp {e : Expr} {m : Env → M D} {pos : Pos} (he : PE X e (LE X W m)) (hn : notComp e = true) : PS X (.Expr e pos) (LS X W fun η S => RS.of η (fun _ => η) (fun _ => .nx) (m η S)) := by
  refine PS.imp (ps_expr he (by cases e <;> first | rfl | cases hn)) fun En σ H h => ?_
  obtain ⟨ρ, S, η, s, er, h⟩ := h
  exact ⟨ρ, S, η, s, er, of_wp (fun _ => η) (fun _ => .nx) er h fun a S' e1 h1 ρ' H' b ex s' r => h1 ρ' H' σ ex s' (er.ext ex)⟩
theorem ls_asg {m : Env → M D} {g : D → Env → M Env} {sl : List Nat} (h : LS X W (fun η S => RS.of η id (fun _ => .nx) (M.bind (m η) (fun d => g d η) S)) En σ H) :
    tAsg (LE X W m) (LGt X W sl g) En σ H := by
  obtain ⟨ρ, S, η, s, er, h⟩ := h
  have h0 : WpG X.K X.mg (repN X.K X.mg σ sl) (fun c d H' => W c d σ H') ρ H (M.bind (m η) (fun d => g d η) S) (fun σ' H' => En.nx σ' H') := of_wp id (fun _ => .nx) er h fun a S' e1 h1 ρ' H' b ex s' r => h1 ρ' H' b ex s' r.1
  exact ⟨ρ, S, η, s, er, (WpG.bind h0).mono fun v H1 ⟨d, ρ1, S1, e1, s1, r1, h1⟩ => ⟨ρ1, S1, η, d, s1, er.ext e1, r1, h1⟩⟩
/-- what stands to the left is no swap -/
theorem sw_plain {e : Expr} {t : Expr} {l : Nat} {env : PySem.Env} (h : notComp e = true) : swapsWithSole [t] e l env = pure false := by
  cases e <;> first | rfl | cases h
theorem sw_plain1 {e : Expr} {t : Option Expr} {l : Nat} {env : PySem.Env} (h : notComp e = true) : swapsWith e t l env = pure false := by
  cases e <;> first | rfl | cases h
theorem sw_none {t e : Expr} {env : PySem.Env} (h : pairStores t e = false) : swappedStores [t] e env = pure none := by
  unfold swappedStores
  cases t <;> first | rfl | (cases e <;> first | rfl | cases h)
theorem sw_fold {t e : Expr} {env : PySem.Env} (h : pairOk t e = true) : swappedStores [t] e env = pure none := by
  cases t <;> try cases h
  cases e <;> try cases h
  rename_i ts _ _ es _ _
  simp only [pairOk, Bool.and_eq_true] at h
  unfold swappedStores
  simp only [h.1]
  simp
theorem filterMap_short {α β : Type} {f : α → Option β} : ∀ {l : List α}, (∃ a ∈ l, f a = none) → (l.filterMap f).length ≠ l.length
  | a :: l, ⟨b, hb, e⟩ => by
    have hle : (l.filterMap f).length ≤ l.length := List.length_filterMap_le _ _
    cases ea : f a with
    | none =>
      rw [List.filterMap_cons_none ea, List.length_cons]
      omega
    | some c =>
      rw [List.filterMap_cons_some ea]
      rcases List.mem_cons.mp hb with rfl | hb
      · rw [e] at ea; cases ea
      · have := filterMap_short (f := f) (l := l) ⟨b, hb, e⟩
        simp only [List.length_cons]
        omega
theorem sw_cell {C : SC} {t e : Expr} {env : PySem.Env} (hsc : env.scope = C.sc) (h : pairCell C t = true) : swappedStores [t] e env = pure none := by
  cases t <;> try cases h
  cases e <;> try rfl
  rename_i ts _ _ es _ _
  simp only [pairCell, List.any_eq_true] at h
  unfold swappedStores
  dsimp only
  have key : (ts.filterMap fun
    | .Name id pos => if env.kindOf id == some .local && pos.line == (ts.head?.map (·.pos.line)).getD 0 then some id else none
    | _ => none).length ≠ ts.length := by
    refine filterMap_short ?_
    obtain ⟨x, hx, q⟩ := h
    refine ⟨x, hx, ?_⟩
    cases x <;> first | rfl | skip
    rename_i id pos
    have q : C.sc.names.lookup id ≠ some .local := of_decide_eq_true q
    have q2 : (env.kindOf id == some .local) = false := by
      rw [← hsc] at q
      exact beq_eq_false_iff_ne.mpr q
    simp only [q2, Bool.false_and, Bool.false_eq_true, if_false]
  have k2 : ((ts.filterMap fun
    | .Name id pos => if env.kindOf id == some .local && pos.line == (ts.head?.map (·.pos.line)).getD 0 then some id else none
    | _ => none).length != ts.length) = true := bne_iff_ne.mpr key
  split
  · rfl
  · split
    · rfl
    · split
      · rfl
      · rename_i hh
        exfalso
        apply hh
        rw [Bool.or_eq_true]
        exact .inl k2
theorem sw_ok {C : SC} {t e : Expr} {env : PySem.Env} (hsc : env.scope = C.sc) (h : (!pairStores t e || pairOk t e || pairCell C t) = true) : swappedStores [t] e env = pure none := by
  rw [Bool.or_eq_true, Bool.or_eq_true] at h
  rcases h with (h | h) | h
  · exact sw_none (by simpa using h)
  · exact sw_fold h
  · exact sw_cell hsc h
theorem sw_star {t : Expr} {env : PySem.Env} (h : notStar t = true) : (assignEach [t] env).map (·.2) = [assign t env] := by
  cases t <;> first | rfl | cases h
theorem ss_asg {t e : Expr} {m : Env → M D} {g : D → Env → M Env} {sl : List Nat} {pos : Pos} (he : PE X e (LE X W m)) (hg : PG X t (LGt X W sl g)) (hn : notComp e = true) (hp : swappedStores [t] e X.env = pure none) (hs : notStar t = true) :
    PS X (.Assign [t] e pos) (LS X W fun η S => RS.of η id (fun _ => .nx) (M.bind (m η) (fun d => g d η) S)) :=
  PS.imp (ps_asg he hg (sw_plain hn) hp (sw_star hs)) fun En σ H h => ls_asg h
theorem ss_seq {st : Stmt} {rest : List Stmt} {m n : Env → Store → RS} (h1 : PS X st (LS X W m)) (h2 : PSs X rest (LS X W n)) : PSs X (st :: rest) (LS X W fun η S => RS.then (m η S) fun η S => n η S) := by
  refine PSs.imp (pss_cons h1 h2) fun En σ H h => ?_
  obtain ⟨ρ, S, η, s, er, h⟩ := h
  dsimp only at h
  refine ⟨ρ, S, η, s, er, ?_⟩
  cases e : m η S with
  | ok f η' S' =>
    rw [e] at h
    cases f with
    | nx =>
      intro ρ' H' σ' ex s' er'
      exact ⟨ρ', S', η', s', er', WpS.later ex h⟩
    | brk => exact h
    | cnt => exact h
    | ret d => exact h
  | err d η' S' => rw [e] at h; exact h
  | bad => rw [e] at h; exact h
theorem ss_nil : PSs X [] (LS X W fun η S => .ok .nx η S) := by
  refine PSs.imp pss_nil fun En σ H h => ?_
  obtain ⟨ρ, S, η, s, er, h⟩ := h
  exact h ρ H σ .refl s er
theorem ss_if {c : Expr} {a b : List Stmt} {mc : Env → M Bool} {ma mb : Env → Store → RS} {pos : Pos} (hc : PT X c (LT X W mc)) (ha : PSs X a (LS X W ma)) (hb : PSs X b (LS X W mb)) :
    PS X (.If c a b pos) (LS X W fun η S => match mc η S with
    | .ok true S' => ma η S'
    | .ok false S' => mb η S'
    | .err e S' => .err e η S'
    | .bad => .bad) := by
  refine PS.imp (ps_if hc ha hb) fun En σ H h => ?_
  obtain ⟨ρ, S, η, s, er, h⟩ := h
  dsimp only at h
  refine ⟨ρ, S, η, s, er, ?_⟩
  cases e : mc η S with
  | ok b S' =>
    rw [e] at h
    intro ρ' H' b' ex s' r
    have r : b = b' := r
    subst r
    cases b with
    | true => exact ⟨ρ', S', η, s', er.ext ex, WpS.later ex h⟩
    | false => exact ⟨ρ', S', η, s', er.ext ex, WpS.later ex h⟩
  | err d S' =>
    rw [e] at h
    exact fun ρ' H' cls dd ex s' r => h ρ' H' σ cls dd ex s' (er.ext ex) r
  | bad => rw [e] at h; exact h
theorem ss_for (hp : PassesOwn (model X.prog X.w) X.A X.env X.xe) (hc : X.calm = true) {tg iter : Expr} {body : List Stmt} {pos : Pos} {mi : Env → M (List D × Guard)} {mg' : D → Env → M Env} {mb : Env → Store → RS} {sl : List Nat}
    (hi : PI X tg iter (LI X W mi)) (hg : PG X tg (LGt X W sl mg')) (hb : PSs X body (LS X W mb)) (hs : noSets iter = true) :
    PS X (.For tg iter body [] pos) (LS X W fun η S => match mi η S with
    | .ok w S' => forLoop w.2 (fun x η S => RS.then (RS.of η id (fun _ => .nx) (mg' x η S)) fun η S => mb η S) w.1 η S'
    | .err e S' => .err e η S'
    | .bad => .bad) := by
  refine PS.imp (ps_for hp hc hi hg hb fun x => fold_plain hs) fun En σ H h => ?_
  obtain ⟨ρ, S, η, s, er, h⟩ := h
  dsimp only at h
  refine ⟨ρ, S, η, s, er, ?_⟩
  cases e : mi η S with
  | bad => rw [e] at h; exact h
  | err d S' =>
    rw [e] at h
    exact fun ρ' H' cls dd ex s' r => h ρ' H' σ cls dd ex s' (er.ext ex) r
  | ok w S' =>
    rw [e] at h
    obtain ⟨xs, gs⟩ := w
    intro ρ1 H1 J ex1 s1 it
    have it : ItOk X.K X.mg J xs gs ρ1 H1 := it
    have h := WpS.later ex1 h
    let st : D → Env → Store → RS := fun x η S => RS.then (RS.of η id (fun _ => .nx) (mg' x η S)) fun η S => mb η S
    have h : WpS X.K X.mg W En ρ1 H1 (forLoop gs st xs η S') := h
    let Pv : Nat → L2.St → Hp → Prop := fun i σ H => ∃ ρ2 S2 η2, Ext ρ1 H1 ρ2 H ∧ Sim X.K X.mg ρ2 S2 H ∧ EnvRel X.K X.mg ρ2 H η2 σ ∧ WpS X.K X.mg W En ρ2 H (forLoop gs st (xs.drop i) η2 S2)
    refine ⟨fun i m σ H => m = xs.length - i ∧ i ≤ xs.length ∧ Pv i σ H, ⟨xs.length, by simp, Nat.zero_le _, ρ1, S', η, .refl, s1, er.ext ex1, by simpa using h⟩, ?_⟩
    rintro i m σ H ⟨rfl, hi, ρ2, S2, η2, ex, s2, er2, h2⟩
    by_cases hlt : i < xs.length
    · have hd : xs.drop i = xs[i] :: xs.drop (i + 1) := List.drop_eq_getElem_cons hlt
      rw [hd] at h2
      unfold forLoop at h2
      split at h2
      · rename_i hgk
        obtain ⟨i1, i2, i3⟩ := it i ρ2 S2 H ex s2 hgk
        refine .inr ⟨i2 hlt, Pv (i + 1), fun σ' H' q => ⟨xs.length - (i + 1), by omega, rfl, hlt, q⟩, fun x H' hy => ?_⟩
        obtain ⟨ex2, s2', rx⟩ := i3 x H' _ (List.getElem?_eq_getElem hlt) hy
        have er2' := er2.ext ex2
        have h2 := WpS.later ex2 h2
        refine ⟨ρ2, S2, η2, xs[i], s2', er2', rx, ?_⟩
        have hst : st xs[i] η2 S2 = RS.then (RS.of η2 id (fun _ => .nx) (mg' xs[i] η2 S2)) fun η S => mb η S := rfl
        rw [hst] at h2
        cases eg : mg' xs[i] η2 S2 with
        | bad => rw [eg] at h2; exact h2
        | err d S3 =>
          rw [eg] at h2
          exact fun ρ' H' cls dd ex s' r => h2 ρ' H' σ cls dd ex s' (er2'.ext ex) r
        | ok η3 S3 =>
          rw [eg] at h2
          have h2 : WpS X.K X.mg W En ρ2 H' (match mb η3 S3 with
            | .ok .nx η' S' => forLoop gs st (xs.drop (i + 1)) η' S'
            | .ok .cnt η' S' => forLoop gs st (xs.drop (i + 1)) η' S'
            | .ok .brk η' S' => .ok .nx η' S'
            | .ok (.ret d) η' S' => .ok (.ret d) η' S'
            | .err e η' S' => .err e η' S'
            | .bad => .bad) := h2
          intro ρ3 H3 σ3 ex3 s3 er3
          refine ⟨ρ3, S3, η3, s3, er3.1, ?_⟩
          have h3 := WpS.later ex3 h2
          have exx : Ext ρ1 H1 ρ3 H3 := ex.trans (ex2.trans ex3)
          cases em : mb η3 S3 with
          | bad => rw [em] at h3; exact h3
          | err d η4 S4 => rw [em] at h3; exact h3
          | ok f η4 S4 =>
            rw [em] at h3
            cases f with
            | nx => exact fun ρ4 H4 σ4 ex4 s4 er4 => ⟨ρ4, S4, η4, exx.trans ex4, s4, er4, WpS.later ex4 h3⟩
            | cnt => exact fun ρ4 H4 σ4 ex4 s4 er4 => ⟨ρ4, S4, η4, exx.trans ex4, s4, er4, WpS.later ex4 h3⟩
            | brk => exact h3
            | ret d => exact h3
      · exact h2.elim
    · have hn : i = xs.length := by omega
      subst hn
      rw [List.drop_length] at h2
      unfold forLoop at h2
      split at h2
      · rename_i hgk
        obtain ⟨i1, _, _⟩ := it xs.length ρ2 S2 H ex s2 hgk
        exact .inl ⟨i1 (Nat.le_refl _), h2 ρ2 H σ .refl s2 er2⟩
      · exact h2.elim
theorem ss_whl (hp : PassesOwn (model X.prog X.w) X.A X.env X.xe) {c : Expr} {body : List Stmt} {pos : Pos} {mc : Env → M Bool} {mb : Env → Store → RS} {n : Nat}
    (hc : PT X c (LT X W mc)) (hb : PSs X body (LS X W mb)) :
    PS X (.While c body [] pos) (LS X W fun η S => whlLoop mc (fun η S => mb η S) n η S) := by
  refine PS.imp (ps_while hp hc hb) fun En σ H h => ?_
  obtain ⟨ρ, S, η, s, er, h⟩ := h
  let Pv : Nat → L2.St → Hp → Prop := fun n σ H => ∃ ρ2 S2 η2, Sim X.K X.mg ρ2 S2 H ∧ EnvRel X.K X.mg ρ2 H η2 σ ∧ WpS X.K X.mg W En ρ2 H (whlLoop mc (fun η S => mb η S) n η2 S2)
  refine ⟨Pv, ⟨n, ρ, S, η, s, er, h⟩, ?_⟩
  rintro m σ H ⟨ρ2, S2, η2, s2, er2, h2⟩
  cases m with
  | zero => exact h2.elim
  | succ m =>
    unfold whlLoop at h2
    refine ⟨ρ2, S2, η2, s2, er2, ?_⟩
    cases e : mc η2 S2 with
    | bad => rw [e] at h2; exact h2
    | err d S3 =>
      rw [e] at h2
      exact fun ρ' H' cls dd ex s' r => h2 ρ' H' σ cls dd ex s' (er2.ext ex) r
    | ok b S3 =>
      rw [e] at h2
      intro ρ3 H3 b' ex3 s3 r
      have r : b = b' := r
      subst r
      have h3 := WpS.later ex3 h2
      have er3 := er2.ext ex3
      cases b with
      | false => exact h3 ρ3 H3 σ .refl s3 er3
      | true =>
        refine ⟨Pv m, fun σ' H' q => ⟨m, Nat.lt_succ_self _, q⟩, ρ3, S3, η2, s3, er3, ?_⟩
        have h3 : WpS X.K X.mg W En ρ3 H3 (match mb η2 S3 with
            | .ok .nx η' S' => whlLoop mc (fun η S => mb η S) m η' S'
            | .ok .cnt η' S' => whlLoop mc (fun η S => mb η S) m η' S'
            | .ok .brk η' S' => .ok .nx η' S'
            | .ok (.ret d) η' S' => .ok (.ret d) η' S'
            | .err e η' S' => .err e η' S'
            | .bad => .bad) := h3
        cases em : mb η2 S3 with
        | bad => rw [em] at h3; exact h3
        | err d η4 S4 => rw [em] at h3; exact h3
        | ok f η4 S4 =>
          rw [em] at h3
          cases f with
          | nx => exact fun ρ4 H4 σ4 ex4 s4 er4 => ⟨ρ4, S4, η4, s4, er4, WpS.later ex4 h3⟩
          | cnt => exact fun ρ4 H4 σ4 ex4 s4 er4 => ⟨ρ4, S4, η4, s4, er4, WpS.later ex4 h3⟩
          | brk => exact h3
          | ret d => exact h3
theorem ss_retN {pos : Pos} : PS X (.Return none pos) (LS X W fun η S => .ok (.ret .non) η S) := by
  refine PS.imp ps_retN fun En σ H h => ?_
  obtain ⟨ρ, S, η, s, er, h⟩ := h
  exact h ρ H .non .refl s (by rfl)
theorem ss_pass {pos : Pos} : PS X (.Pass pos) (LS X W fun η S => .ok .nx η S) := by
  refine PS.imp ps_pass fun En σ H h => ?_
  obtain ⟨ρ, S, η, s, er, h⟩ := h
  exact h ρ H σ .refl s er
theorem ss_brk {pos : Pos} : PS X (.Break pos) (LS X W fun η S => .ok .brk η S) := by
  refine PS.imp ps_break fun En σ H h => ?_
  obtain ⟨ρ, S, η, s, er, h⟩ := h
  exact h ρ H σ .refl s er
theorem ss_cnt {pos : Pos} : PS X (.Continue pos) (LS X W fun η S => .ok .cnt η S) := by
  refine PS.imp ps_continue fun En σ H h => ?_
  obtain ⟨ρ, S, η, s, er, h⟩ := h
  exact h ρ H σ .refl s er
theorem ls_name {m : Env → M D} {i : Nat} (h : LS X W (fun η S => RS.of η id (fun _ => .nx) (M.bind (m η) (fun d => M.pure (η.set i (some d))) S)) En σ H) :
    LE X W m σ H (fun x H1 => En.nx (σ.set i (some x)) H1) := by
  obtain ⟨ρ, S, η, s, er, h⟩ := h
  have h0 : WpG X.K X.mg (repN X.K X.mg σ [i]) (fun c d H' => W c d σ H') ρ H (M.bind (m η) (fun d => M.pure (η.set i (some d))) S) (fun σ' H' => En.nx σ' H') := of_wp id (fun _ => .nx) er h fun a S' e1 h1 ρ' H' b ex s' r => h1 ρ' H' b ex s' r.1
  refine ⟨ρ, S, η, s, er, (WpG.bind h0).mono fun v H1 ⟨d, ρ1, S1, e1, s1, r1, h1⟩ => ?_⟩
  exact h1 ρ1 H1 _ .refl s1 ⟨(er.ext e1).set i r1, by rw [List.length_set], fun j hj => by
    rw [List.getElem?_set_ne]
    intro e
    exact hj (by simp [e])⟩
theorem sw_lc {elt : Expr} {gs : List Comprehension} {scope : Scope} {pos py : Pos} {y : Str} {l : Nat} {env : PySem.Env} :
    swapsWith (.ListComp elt gs scope pos) (some (.Name y py)) l env = pure (env.blockKind == .function && env.kindOf y == some .local && py.line == pos.line && !(scope.names.any fun (n, k) => n == y && (k == .local || k == .cell))) := rfl
/-- name = [.. for ..] -/
theorem ss_setLc (c : Cok T F C X W k) {i : Nat} {y : Str} {py : Pos} {elt tg iter : Expr} {ifs : List Expr} {scope : Scope} {own : List (Str × Nat)} {pos spos : Pos} {wi : TI} {g : TG} {tt : TT} {te : TE} {m : Env → M D} (hi : C.N[i]? = some y) (hm : C.mine y = true)
    (he : PE X (.ListComp elt [⟨tg, iter, ifs, 0⟩] scope pos) (LE X W m)) (hit : PI X tg iter wi) (ok : BlkOk X.N X.env.scope scope own)
    (hg : ∀ (s : Shared) (H : Hp) (C : Addr) (cl : List (Str × Addr)) (fp : List Addr), PG (X.blk s H scope (compEnvC scope cl C X.env) fp) tg g) (ht : ∀ (s : Shared) (H : Hp) (C : Addr) (cl : List (Str × Addr)) (fp : List Addr), PTs (X.blk s H scope (compEnvC scope cl C X.env) fp) ifs tt)
    (hel : ∀ (s : Shared) (H : Hp) (C : Addr) (cl : List (Str × Addr)) (fp : List Addr), PE (X.blk s H scope (compEnvC scope cl C X.env) fp) elt te) (hs : noSets iter = true)
    (hl : ∀ σ H Q, LE X W m σ H Q → tLc wi g tt te (own.map (·.2)) σ H Q) :
    PS X (.Assign [.Name y py] (.ListComp elt [⟨tg, iter, ifs, 0⟩] scope pos) spos) (LS X W fun η S => RS.of η id (fun _ => .nx) (M.bind (m η) (fun d => M.pure (η.set i (some d))) S)) := by
  obtain ⟨h1, h2⟩ := c.mine y hm
  have hN : X.N[i]? = some y := by rw [c.hN]; exact hi
  cases hb : (X.env.blockKind == .function && X.env.kindOf y == some .local && py.line == pos.line && !(scope.names.any fun (n, k) => n == y && (k == .local || k == .cell))) with
  | false => exact PS.imp (ps_set c.nd hN h1 he (by rw [sw_lc, hb]) h2) fun En σ H h => ls_name h
  | true =>
    have hy : X.env.scope.names.lookup y = some .local := by
      simp only [Bool.and_eq_true] at hb
      have := hb.1.1.2
      have q : X.env.kindOf y = some .local := by simpa using this
      exact q
    exact PS.imp (ps_setLc c.calm c.nd hN hy (by rw [sw_lc, hb]) hit ok hg ht hel fun x => fold_plain hs) fun En σ H h => hl σ H _ (ls_name h)
theorem sw_pair {x y : Str} {px py pt pt2 : Pos} {kt k2 : Nat} {a b : Expr} {env : PySem.Env} (hb : env.blockKind = .function) (hx : env.kindOf x = some .local) (hy : env.kindOf y = some .local) (hl : (py.line == px.line) = true) (hne : x ≠ y)
    (ha : notStar a = true) (hb' : notStar b = true) (hf : (foldedForSure 8 a && foldedForSure 8 b) = false) (hc : (constantsAlone 8 a && constantsAlone 8 b) = false) :
    swappedStores [.Tuple [.Name x px, .Name y py] kt pt] (.Tuple [a, b] k2 pt2) env = pure (some [x, y]) := by
  have hl' : py.line = px.line := by simpa using hl
  unfold swappedStores
  have e1 : (y == x) = false := beq_eq_false_iff_ne.mpr (Ne.symm hne)
  simp [hb, hx, hy, hl', hf, hc, Expr.pos, List.eraseDups, List.eraseDupsBy, List.eraseDupsBy.loop, e1]
  rintro (q | q)
  · revert q; cases a <;> first | (intro q; cases q; done) | cases ha
  · revert q; cases b <;> first | (intro q; cases q; done) | cases hb'
theorem ss_aug (c : Cok T F C X W k) {i : Nat} {y : Str} {e : Expr} {o : Operator} {m : Env → M D} {p pos : Pos} (hi : C.N[i]? = some y) (hm : C.mine y = true) (ho : o = .Add ∨ o = .Sub) (he : PE X e (LE X W m)) :
    PS X (.AugAssign (.Name y p) o e pos) (LS X W fun η S => RS.of η id (fun _ => .nx) (M.bind (evE F (.var i) η) (fun x => M.bind (m η) fun y => M.bind (match x, y with
      | .int _, .int _ => binop o x y
      | _, _ => M.bad) fun z => M.pure (η.set i (some z))) S)) := by
  obtain ⟨h1, h2⟩ := c.mine y hm
  have hN : X.N[i]? = some y := by rw [c.hN]; exact hi
  have key : ∀ (f : Int → Int → Int), (∀ a b S, binop o (.int a) (.int b) S = .ok (.int (f a b)) S) → PIp X o (ipI f) → PS X (.AugAssign (.Name y p) o e pos) (LS X W fun η S => RS.of η id (fun _ => .nx) (M.bind (evE F (.var i) η) (fun x => M.bind (m η) fun y => M.bind (match x, y with
      | .int _, .int _ => binop o x y
      | _, _ => M.bad) fun z => M.pure (η.set i (some z))) S)) := fun f hf hp => by
    refine PS.imp (ps_aug c.nd hN h1 he hp h2) fun En σ H h => ?_
    obtain ⟨ρ, S, η, s, er, h⟩ := h
    dsimp only at h
    cases e0 : evE F (.var i) η S with
    | bad => unfold M.bind at h; rw [e0] at h; exact h.elim
    | err d S1 =>
      simp only [evE] at e0
      split at e0 <;> cases e0
    | ok d S1 =>
      have e1 : η[i]? = some (some d) ∧ S1 = S := by
        simp only [evE] at e0
        split at e0
        · cases e0; exact ⟨by assumption, rfl⟩
        · cases e0
      obtain ⟨e1, rfl⟩ := e1
      obtain ⟨v, ev, rv⟩ := er.2 i d e1
      refine ⟨v, ev, ?_⟩
      have hb : ∀ {β : Type} (k : D → M β), M.bind (evE F (.var i) η) k S1 = k d S1 := fun k => by unfold M.bind; rw [e0]
      rw [hb] at h
      have h0 : WpG X.K X.mg (repN X.K X.mg σ [i]) (fun c d H' => W c d σ H') ρ H (M.bind (m η) (fun y => M.bind (match d, y with
        | .int _, .int _ => binop o d y
        | _, _ => M.bad) fun z => M.pure (η.set i (some z))) S1) (fun σ' H' => En.nx σ' H') := of_wp id (fun _ => .nx) er h fun a S' e1 h1 ρ' H' b ex s' r => h1 ρ' H' b ex s' r.1
      refine ⟨ρ, S1, η, s, er, (WpG.bind h0).mono fun w H1 q1 => ?_⟩
      obtain ⟨d1, ρ1, S1, ex1, s1, r1, h1⟩ := q1
      split at h1
      · rename_i a b
        have rv : v = .int a := rv
        have r1 : w = .int b := r1
        subst rv r1
        refine ⟨_, _, rfl, rfl, ?_⟩
        have h2 : WpG X.K X.mg (repN X.K X.mg σ [i]) (fun c d H' => W c d σ H') ρ1 H1 (M.pure (η.set i (some (.int (f a b)))) S1) (fun σ' H' => En.nx σ' H') := by
          unfold M.bind at h1
          rw [hf] at h1
          exact h1
        exact h2 ρ1 H1 _ .refl s1 ⟨(er.ext ex1).set i (by rfl), by rw [List.length_set], fun j hj => by
          rw [List.getElem?_set_ne]
          intro e
          exact hj (by simp [e])⟩
      · exact h1.elim
  rcases ho with rfl | rfl
  · exact key (fun a b => a + b) (fun a b S => rfl) ip_add
  · exact key (fun a b => a - b) (fun a b S => rfl) ip_sub
theorem ss_par (c : Cok T F C X W k) {i j : Nat} {x y : Str} {a b : Expr} {ma mb : Env → M D} {px py pt pt2 pos : Pos} {kt k2 : Nat} (hi : C.N[i]? = some x) (hj : C.N[j]? = some y) (hij : i ≠ j) (hx : C.sc.names.lookup x = some .local) (hy : C.sc.names.lookup y = some .local)
    (ha : PE X a (LE X W ma)) (hb : PE X b (LE X W mb)) (hl : (py.line == px.line) = true) (hne : x ≠ y) (sa : notStar a = true) (sb : notStar b = true) (hf : (foldedForSure 8 a && foldedForSure 8 b) = false) (hc : (constantsAlone 8 a && constantsAlone 8 b) = false) :
    PS X (.Assign [.Tuple [.Name x px, .Name y py] kt pt] (.Tuple [a, b] k2 pt2) pos) (LS X W fun η S => RS.of η id (fun _ => .nx) (M.bind (ma η) (fun x => M.bind (mb η) fun y => M.pure ((η.set i (some x)).set j (some y))) S)) := by
  rw [← c.sc] at hx hy
  refine ⟨fun pins s σ H En I h => ?_⟩
  have hbk : X.env.blockKind = .function := by unfold Env.blockKind; rw [I.ok.kind]; rfl
  refine (ps_par c.calm c.nd (by rw [c.hN]; exact hi) (by rw [c.hN]; exact hj) hij hx hy (sn_cons ha (sn_cons hb sn_nil sb) sa) (sw_pair hbk hx hy hl hne sa sb hf hc)).run pins s σ H En I ?_
  obtain ⟨ρ, S, η, s, er, h⟩ := h
  have h0 : WpG X.K X.mg (repN X.K X.mg σ [i, j]) (fun c d H' => W c d σ H') ρ H (M.bind (ma η) (fun x => M.bind (mb η) fun y => M.pure ((η.set i (some x)).set j (some y))) S) (fun σ' H' => En.nx σ' H') := of_wp id (fun _ => .nx) er h fun a S' e1 h1 ρ' H' b ex s' r => h1 ρ' H' b ex s' r.1
  refine ⟨ρ, S, η, s, er, ?_⟩
  simp only [M.bind, M.pure] at h0 ⊢
  cases e1 : ma η S with
  | bad => simp only [e1] at h0; exact h0.elim
  | err d S1 => simp only [e1] at h0 ⊢; exact h0
  | ok d1 S1 =>
    simp only [e1] at h0 ⊢
    cases e2 : mb η S1 with
    | bad => simp only [e2] at h0; exact h0.elim
    | err d S2 => simp only [e2] at h0 ⊢; exact h0
    | ok d2 S2 =>
      simp only [e2] at h0 ⊢
      intro ρ' H' vs ex s' r
      have r : RepL X.K X.mg ρ' H' [d1, d2] vs := r
      simp only [RepL] at r
      obtain ⟨v, r1, rfl, rv, w, r2, rfl, rw', rfl⟩ := r
      refine ⟨v, w, rfl, ?_⟩
      exact h0 ρ' H' _ ex s' ⟨((er.ext ex).set i rv).set j rw', by rw [List.length_set, List.length_set], fun l hl => by
        simp only [List.mem_cons, List.mem_nil_iff, or_false, not_or] at hl
        rw [List.getElem?_set_ne (Ne.symm hl.2), List.getElem?_set_ne (Ne.symm hl.1)]⟩
theorem sw_trip {x y z : Str} {px py pz pt pt2 : Pos} {kt k2 : Nat} {a b c : Expr} {env : PySem.Env} (hb : env.blockKind = .function) (hx : env.kindOf x = some .local) (hy : env.kindOf y = some .local) (hz : env.kindOf z = some .local) (hl : (py.line == px.line) = true) (hl2 : (pz.line == px.line) = true) (hne : x ≠ y) (hne2 : x ≠ z) (hne3 : y ≠ z)
    (ha : notStar a = true) (hb' : notStar b = true) (hc' : notStar c = true) (hf : (foldedForSure 8 a && foldedForSure 8 b && foldedForSure 8 c) = false) (hc : (constantsAlone 8 a && constantsAlone 8 b && constantsAlone 8 c) = false) :
    swappedStores [.Tuple [.Name x px, .Name y py, .Name z pz] kt pt] (.Tuple [a, b, c] k2 pt2) env = pure (some [x, y, z]) := by
  have hl' : py.line = px.line := by simpa using hl
  have hl2' : pz.line = px.line := by simpa using hl2
  unfold swappedStores
  have e1 : (y == x) = false := beq_eq_false_iff_ne.mpr (Ne.symm hne)
  have e2 : (z == x) = false := beq_eq_false_iff_ne.mpr (Ne.symm hne2)
  have e3 : (z == y) = false := beq_eq_false_iff_ne.mpr (Ne.symm hne3)
  rw [Bool.and_assoc] at hf hc
  simp [hb, hx, hy, hz, hl', hl2', hf, hc, Expr.pos, List.eraseDups, List.eraseDupsBy, List.eraseDupsBy.loop, e1, e2, e3]
  rintro (q | q | q)
  · revert q; cases a <;> first | (intro q; cases q; done) | cases ha
  · revert q; cases b <;> first | (intro q; cases q; done) | cases hb'
  · revert q; cases c <;> first | (intro q; cases q; done) | cases hc'
theorem ss_par3 (c : Cok T F C X W k) {i j l : Nat} {x y z : Str} {a b d : Expr} {ma mb md : Env → M D} {px py pz pt pt2 pos : Pos} {kt k2 : Nat} (hi : C.N[i]? = some x) (hj : C.N[j]? = some y) (hk : C.N[l]? = some z) (hij : i ≠ j ∧ i ≠ l ∧ j ≠ l) (hx : C.sc.names.lookup x = some .local) (hy : C.sc.names.lookup y = some .local) (hz : C.sc.names.lookup z = some .local)
    (ha : PE X a (LE X W ma)) (hb : PE X b (LE X W mb)) (hd : PE X d (LE X W md)) (hl : (py.line == px.line) = true) (hl2 : (pz.line == px.line) = true) (hne : x ≠ y ∧ x ≠ z ∧ y ≠ z) (sa : notStar a = true) (sb : notStar b = true) (sd : notStar d = true) (hf : (foldedForSure 8 a && foldedForSure 8 b && foldedForSure 8 d) = false) (hc : (constantsAlone 8 a && constantsAlone 8 b && constantsAlone 8 d) = false) :
    PS X (.Assign [.Tuple [.Name x px, .Name y py, .Name z pz] kt pt] (.Tuple [a, b, d] k2 pt2) pos) (LS X W fun η S => RS.of η id (fun _ => .nx) (M.bind (ma η) (fun x => M.bind (mb η) fun y => M.bind (md η) fun z => M.pure (((η.set i (some x)).set j (some y)).set l (some z))) S)) := by
  rw [← c.sc] at hx hy hz
  refine ⟨fun pins s σ H En I h => ?_⟩
  have hbk : X.env.blockKind = .function := by unfold Env.blockKind; rw [I.ok.kind]; rfl
  refine (ps_par3 c.calm c.nd (by rw [c.hN]; exact hi) (by rw [c.hN]; exact hj) (by rw [c.hN]; exact hk) hij.1 hij.2.1 hij.2.2 hx hy hz (sn_cons ha (sn_cons hb (sn_cons hd sn_nil sd) sb) sa) (sw_trip hbk hx hy hz hl hl2 hne.1 hne.2.1 hne.2.2 sa sb sd hf hc)).run pins s σ H En I ?_
  obtain ⟨ρ, S, η, s, er, h⟩ := h
  have h0 : WpG X.K X.mg (repN X.K X.mg σ [i, j, l]) (fun c d H' => W c d σ H') ρ H (M.bind (ma η) (fun x => M.bind (mb η) fun y => M.bind (md η) fun z => M.pure (((η.set i (some x)).set j (some y)).set l (some z))) S) (fun σ' H' => En.nx σ' H') := of_wp id (fun _ => .nx) er h fun a S' e1 h1 ρ' H' b ex s' r => h1 ρ' H' b ex s' r.1
  refine ⟨ρ, S, η, s, er, ?_⟩
  simp only [M.bind, M.pure] at h0 ⊢
  cases e1 : ma η S with
  | bad => simp only [e1] at h0; exact h0.elim
  | err d S1 => simp only [e1] at h0 ⊢; exact h0
  | ok d1 S1 =>
    simp only [e1] at h0 ⊢
    cases e2 : mb η S1 with
    | bad => simp only [e2] at h0; exact h0.elim
    | err d S2 => simp only [e2] at h0 ⊢; exact h0
    | ok d2 S2 =>
      simp only [e2] at h0 ⊢
      cases e3 : md η S2 with
      | bad => simp only [e3] at h0; exact h0.elim
      | err d S3 => simp only [e3] at h0 ⊢; exact h0
      | ok d3 S3 =>
        simp only [e3] at h0 ⊢
        intro ρ' H' vs ex s' r
        have r : RepL X.K X.mg ρ' H' [d1, d2, d3] vs := r
        simp only [RepL] at r
        obtain ⟨v, r1, rfl, rv, w, r2, rfl, rw', u, r3, rfl, ru, rfl⟩ := r
        refine ⟨v, w, u, rfl, ?_⟩
        exact h0 ρ' H' _ ex s' ⟨(((er.ext ex).set i rv).set j rw').set l ru, by rw [List.length_set, List.length_set, List.length_set], fun m hm => by
          simp only [List.mem_cons, List.mem_nil_iff, or_false, not_or] at hm
          rw [List.getElem?_set_ne (Ne.symm hm.2.2), List.getElem?_set_ne (Ne.symm hm.2.1), List.getElem?_set_ne (Ne.symm hm.1)]⟩
mutual
theorem okS : ∀ (x : Sm) {C : SC} {st : Stmt} {X : Cx} {W : WX} {k : Nat}, chkS C x st = true → Cok T F C X W k → PassesOwn (model X.prog X.w) X.A X.env X.xe → PS X st (LS X W (exS F x))
  | .pass, C, st, X, W, k, h, c, hp => by
    simp only [chkS] at h
    split at h
    · exact ss_pass
    · cases h
  | .brk, C, st, X, W, k, h, c, hp => by
    simp only [chkS] at h
    split at h
    · exact ss_brk
    · cases h
  | .cnt, C, st, X, W, k, h, c, hp => by
    simp only [chkS] at h
    split at h
    · exact ss_cnt
    · cases h
  | .ret .none, C, st, X, W, k, h, c, hp => by
    simp only [chkS] at h
    split at h
    · exact ss_retN
    · cases h
  | .ret (.some e), C, st, X, W, k, h, c, hp => by
    simp only [chkS] at h
    split at h
    · exact ss_ret (okE e h c)
    · cases h
  | .exp e, C, st, X, W, k, h, c, hp => by
    simp only [chkS] at h
    split at h
    · simp only [Bool.and_eq_true] at h
      exact ss_exp (okE e h.1 c) h.2
    · cases h
  | .asg g x, C, st, X, W, k, h, c, hp => by
    simp only [chkS] at h
    split at h
    · rename_i t e pos
      simp only [Bool.and_eq_true] at h
      obtain ⟨⟨⟨⟨h1, h2⟩, h3⟩, h4⟩, h5⟩ := h
      by_cases hn : notComp e = true
      · exact ss_asg (okE x h2 c) (okG g h1 c) hn (sw_ok c.sc h4) h3
      · split at h5
        · cases g <;> simp only [chkG] at h1 <;> try cases h1
          rename_i y py el gens scope lpos i
          simp only [Bool.and_eq_true, decide_eq_true_eq] at h1
          have he := okE (F := F) x h2 c
          cases x <;> simp only [chkE] at h2 <;> try cases h2
          rename_i elt g it cd own
          split at h2
          · rename_i q
            cases q
            simp only [Bool.and_eq_true, decide_eq_true_eq] at h2
            obtain ⟨⟨⟨⟨⟨⟨⟨h1', h2⟩, h3⟩, h4⟩, h5⟩, h6⟩, h7⟩, h8⟩ := h2
            have hb := blkOk_by h4
            rw [← c.hN, ← c.sc] at hb
            refine ss_setLc (own := own.filterMap fun i => X.N[i]?.map fun x => (x, i)) c h1.1 h1.2 he (okI it h1' c) hb (g := LGt' X.K X.mg (fun _ _ _ _ => False) g.slots (asG F g)) (tt := Lft X.K X.mg repE (fun _ _ _ _ => False) (evC F cd)) (te := Lft X.K X.mg (repV X.K X.mg) (fun _ _ _ _ => False) (evE F elt)) (fun s H A cl fp => okG g h6 (c.inner s H _ cl A fp)) (fun s H A cl fp => okC cd h7 (c.inner s H _ cl A fp)) (fun s H A cl fp => okE elt h8 (c.inner s H _ cl A fp)) h2 fun σ H Q h => ?_
            rw [c.hN, h5]
            exact lc_ok (fun i hi => of_decide_eq_true (List.all_eq_true.mp h3 i hi)) h
          · cases h2
        · exact absurd h5 hn
    · cases h
  | .par i j a b, C, st, X, W, k, h, c, hp => by
    simp only [chkS] at h
    split at h
    · simp only [Bool.and_eq_true, decide_eq_true_eq, Bool.not_eq_true'] at h
      obtain ⟨⟨⟨⟨⟨⟨⟨⟨⟨⟨⟨⟨h1, h2⟩, h3⟩, h4⟩, h5⟩, h6⟩, h7⟩, h8⟩, h9⟩, h10⟩, h11⟩, h12⟩, h13⟩ := h
      exact ss_par c h1 h2 h3 h4 h5 (okE a h6 c) (okE b h7 c) h8 h9 h10 h11 h12 h13
    · cases h
  | .par3 i j l a b d, C, st, X, W, k, h, c, hp => by
    simp only [chkS] at h
    split at h
    · simp only [Bool.and_eq_true, decide_eq_true_eq, Bool.not_eq_true'] at h
      obtain ⟨⟨⟨⟨⟨⟨⟨⟨⟨⟨⟨⟨⟨⟨h1, h2⟩, h2'⟩, h3⟩, h4⟩, h5⟩, h5'⟩, h6⟩, h7⟩, h7'⟩, h8⟩, h9⟩, h10⟩, h12⟩, h13⟩ := h
      exact ss_par3 c h1 h2 h2' h3 h4 h5 h5' (okE a h6 c) (okE b h7 c) (okE d h7' c) h8.1 h8.2 h9 h10.1.1 h10.1.2 h10.2 h12 h13
    · cases h
  | .aug i o e, C, st, X, W, k, h, c, hp => by
    simp only [chkS] at h
    split at h
    · simp only [Bool.and_eq_true, decide_eq_true_eq] at h
      obtain ⟨⟨⟨⟨h1, h2⟩, h3⟩, h4⟩, h5⟩ := h
      subst h3
      exact ss_aug c h1 h2 h4 (okE e h5 c)
    · cases h
  | .ite t a b, C, st, X, W, k, h, c, hp => by
    simp only [chkS] at h
    split at h
    · simp only [Bool.and_eq_true] at h
      exact ss_if (okT t h.1.1 c) (okSb a h.1.2 c hp) (okSb b h.2 c hp)
    · cases h
  | .for g it b, C, st, X, W, k, h, c, hp => by
    simp only [chkS] at h
    split at h
    · simp only [Bool.and_eq_true] at h
      exact ss_for hp c.calm (okI it h.1.1.2 c) (okG g h.1.1.1 c) (okSb b h.1.2 c hp) h.2
    · cases h
  | .whl t b, C, st, X, W, k, h, c, hp => by
    simp only [chkS] at h
    split at h
    · simp only [Bool.and_eq_true] at h
      exact ss_whl hp (okT t h.1 c) (okSb b h.2 c hp)
    · cases h
theorem okSb : ∀ (x : Sb) {C : SC} {st : List Stmt} {X : Cx} {W : WX} {k : Nat}, chkSb C x st = true → Cok T F C X W k → PassesOwn (model X.prog X.w) X.A X.env X.xe → PSs X st (LS X W (exL F x))
  | .nil, C, st, X, W, k, h, c, hp => by
    simp only [chkSb] at h
    split at h
    · exact ss_nil
    · cases h
  | .cons x r, C, st, X, W, k, h, c, hp => by
    simp only [chkSb] at h
    split at h
    · simp only [Bool.and_eq_true] at h
      exact ss_seq (okS x h.1 c hp) (okSb r h.2 c hp)
    · cases h
end
end
end Fw
/-! Fw15: defs, and the law -/
namespace Fw
open PySem PySem.Spec PyProof.Rows L2
/-- where a def of the text stands -/
structure Hd where
  fa : Addr
  name : Str
  qual : Str
  params : Arguments
  body : List Stmt
  scope : Scope
  dV : Value
  kV : Value
  doc : Value
  pm : Value
  cdv : Value
  ct : Value
  oc : Value
  od : Option Addr
  an : Option Addr
  osl : Array (Option Value)
  N : List Str
  ps : List Str
def Hd.fd (h : Hd) : FuncData := PySem.W.fnOf h.name h.qual h.params h.body h.scope h.dV h.kV h.doc h.pm h.an h.cdv h.ct
structure HdOk (K : PySem.W.Frag) (mg : Str → Option Value) (T : Tab) (nm : Nm) (f : Nat) (x : Str) (d : Def) (h : Hd) : Prop where
  at_ : mg x = some (.ref h.fa)
  lk : K.lookup h.fa = some ⟨h.oc, h.od, .func h.fd, h.osl⟩
  code : PySem.W.codeIn K h.cdv h.qual = true
  keep : PySem.W.keepIn K (.ref h.fa) = true
  sc : FnScope h.N h.ps h.scope
  binds : Binds K h.fd h.ps []
  kws : ∀ (p n : Nat) (ks : List Str), nm.kws[p]? = some (f, n, ks) → KwOk K h.fd h.ps n ks (T.perms.getD p [])
  chk : chkSb ⟨h.N, h.scope, nm, none⟩ d.body h.body = true
  np : d.np = h.ps.length
  ns : d.ns = h.N.length
structure TabOk (K : PySem.W.Frag) (mg : Str → Option Value) (T : Tab) (nm : Nm) : Prop where
  fns : ∀ (f : Nat) (x : Str), nm.fns[f]? = some x → ∃ d h, T.defs[f]? = some d ∧ HdOk K mg T nm f x d h
  gone : ∀ x ∈ nm.gone, mg x = none
  cns : ∀ (i : Nat) (x : Str) (d : D), nm.cns[i]? = some x → T.consts[i]? = some d → ∃ u v, mg x = some u ∧ RelV v u ∧ ∀ ρ H, RepV K mg ρ H d v
theorem RoomG.deeper {k : Nat} {A : Around} (r : RoomG (k + 1) A) (env : PySem.Env) : RoomG k (A.deeper env) := ⟨r.r.deeper env, r.g⟩
theorem env_start {K : PySem.W.Frag} {mg : Str → Option Value} {ρ : List Addr} {H : Hp} {ds : List D} {vs : List V} {N : List Str} {np ns : Nat} (r : RepL K mg ρ H ds vs) (h1 : ds.length = np) (h2 : ns = N.length) :
    EnvRel K mg ρ H (ds.map some ++ List.replicate (ns - np) none) (L2.start N vs) := by
  have hl := r.len
  unfold L2.start
  refine ⟨by simp; omega, fun i d q => ?_⟩
  by_cases hi : i < ds.length
  · rw [List.getElem?_append_left (by simpa using hi), List.getElem?_map] at q
    obtain ⟨e, q1, q2⟩ := Option.map_eq_some_iff.mp q
    cases q2
    obtain ⟨v, hv, rv⟩ := r.get q1
    refine ⟨v, ?_, rv⟩
    rw [List.getElem?_append_left (by simp; omega), List.getElem?_map, hv]
    rfl
  · rw [List.getElem?_append_right (by simpa using hi), List.getElem?_replicate] at q
    split at q <;> cases q
section
variable {P : Program} {w : World} {K : PySem.W.Frag} {mg : Str → Option Value} {base : Heap} {T : Tab} {nm : Nm}
theorem callN_ok (ok : TabOk K mg T nm) : ∀ (n f : Nat) (x : Str) (d : Def) (h : Hd), nm.fns[f]? = some x → T.defs[f]? = some d → HdOk K mg T nm f x d h → FnG P w K mg base n h.fa h.fd h.ps (LSp K mg (callN T n f))
  | 0, f, x, d, h, _, _, _ => ⟨fun vs H Q E q => by obtain ⟨ρ, S, ds, s, r, q⟩ := q; exact q.elim, fun A outer s H args us vs Q E hr e0 hb r q => by obtain ⟨ρ, S, ds, s, r, q⟩ := q; exact q.elim⟩
  | n + 1, f, x, d, h, hx, hd, hk => by
    have len : ∀ vs H Q E, LSp K mg (callN T (n + 1) f) vs H Q E → vs.length = h.ps.length := fun vs H Q E q => by
      obtain ⟨ρ, S, ds, s, r, q⟩ := q
      simp only [callN, hd] at q
      unfold runDef at q
      split at q
      · rename_i e
        rw [← r.len, e, hk.np]
      · exact q.elim
    refine ⟨len, fun A outer s H args us vs Q E hr e0 hb r q => ?_⟩
    have hl := len _ _ _ _ q
    have KX : K.In s.heap := e0.mod.kin.keeps fun b o e => (e0.bs b o e).1
    have lim : s.heap.NoLimit := e0.mod.nolimit.keeps fun b o e => (e0.bs b o e).1
    have hkind : ∀ y ∈ h.ps.zip us, h.scope.names.lookup y.1 = some .local ∨ (h.scope.names.lookup y.1 = some .cell ∧ ((cellsFrom (s.heap.objs.size + 1) h.scope.names []).lookup y.1).isSome = true) := fun ⟨n, v⟩ hy => by
      rcases hk.sc.par n (List.of_mem_zip hy).1 with q | q
      · exact .inl q
      · exact .inr ⟨q, PySem.W.cellsFrom_some _ _ _ (.inl q)⟩
    refine codeAny_call_function hr.r.depth (KX _ _ hk.lk) rfl hk.sc.co hk.sc.gen rfl (PySem.W.codeRec_of KX hk.code) (hb _ _ _ _ ?_)
    refine wpAny_newFunctionEnv_cells hk.sc.kind hkind fun env he s1 ic => ?_
    subst he
    refine ⟨lim.keeps ic.toInCall.keep, codeAny_func ?_⟩
    let X : Cx := cxOf (L2.CX P w) P w K mg base h.N h.qual h.scope h.fa h.cdv A outer s H E
    let W : WX := fun cls d _ H => E cls d H
    have I : Inv X [] (L2.start h.N vs) H s1 := inv_start hk.sc hr.r.hd e0 hl r ic
    have ck : Cok T (T.fn (callN T n)) ⟨h.N, h.scope, nm, none⟩ X W n := {
      hN := rfl
      nd := hk.sc.nd
      sc := rfl
      calm := rfl
      tk := takes_of (X := X) rfl rfl rfl rfl
      room := hr.deeper _
      gone := ok.gone
      cns := ok.cns
      fns := fun g y hy => by
        obtain ⟨d', h', e1, k'⟩ := ok.fns g y hy
        refine ⟨h'.fa, h'.fd, h'.ps, k'.at_, k'.keep, k'.binds, fun p m ks e => ⟨_, k'.kws p m ks e, fun vs => rfl⟩, callN_ok ok n g y d' h' hy e1 k'⟩
      mine := fun y hy => by
        unfold SC.mine at hy
        dsimp only at hy
        split at hy
        · rename_i e
          exact ⟨.inl e, .inl rfl⟩
        · rename_i e
          exact ⟨.inr e, .inl rfl⟩
        · cases hy }
    have hp : PassesOwn (model X.prog X.w) X.A X.env X.xe := passes_of (X := X) rfl
    have body := okSb d.body hk.chk ck hp
    have q : LS X W (exL (T.fn (callN T n)) d.body) { nx := fun _ H' => Q .non H', rt := Q } (L2.start h.N vs) H := by
      obtain ⟨ρ, S, ds, s', r', q⟩ := q
      simp only [callN, hd] at q
      unfold runDef at q
      split at q
      · rename_i e
        refine ⟨ρ, S, ds.map some ++ List.replicate (d.ns - d.np) none, s', env_start r' e hk.ns, ?_⟩
        cases eb : exL (T.fn (callN T n)) d.body (ds.map some ++ List.replicate (d.ns - d.np) none) S with
        | bad => rw [eb] at q; exact q.elim
        | err d0 η S' => rw [eb] at q; exact fun ρ' H' σ cls dd ex s'' er rr => q ρ' H' cls dd ex s'' rr
        | ok fl η S' =>
          rw [eb] at q
          cases fl with
          | nx => exact fun ρ' H' σ ex s'' er => q ρ' H' .non ex s'' (by rfl)
          | brk => exact q.elim
          | cnt => exact q.elim
          | ret v => exact fun ρ' H' v' ex s'' rv => q ρ' H' v' ex s'' rv
      · exact q.elim
    refine wpAny_mono (body.run [] s1 (L2.start h.N vs) H _ I q) (fun fl s' hs => ?_) fun e s' hs => hs
    have fin : ∀ {σ' : L2.St} {H' : Hp} {v : V} {u : Value}, Inv X [] σ' H' s' → RelV v u → Q v H' → CE outer P w H s Q u s' :=
      fun {σ' H' v u} J rv q => ⟨v, H', J.os, J.bare, J.base, J.hok, rv, q⟩
    cases fl with
    | ret u =>
      obtain ⟨v, σ', H', J, rv, q⟩ := hs
      exact fin J rv q
    | next =>
      obtain ⟨σ', H', J, q⟩ := hs
      exact fin (v := V.non) (u := Value.none) J rfl q
    | brk =>
      obtain ⟨_, _, _, q⟩ := hs
      exact False.elim q
    | cont =>
      obtain ⟨_, _, _, q⟩ := hs
      exact False.elim q
end
theorem rep_ints {K : PySem.W.Frag} {mg : Str → Option Value} {ρ : List Addr} {H : Hp} : ∀ ns : List Int, RepL K mg ρ H (ns.map D.int) (ns.map V.int)
  | [] => rfl
  | n :: ns => ⟨.int n, _, rfl, rfl, rep_ints ns⟩
section
variable {P : Program} {w : World} {K : PySem.W.Frag} {mg mb : Str → Option Value} {k : Nat} {fa a : Addr} {fd : FuncData} {x : Str} {m : List D → M D} {s₁ : Shared} {vs : List Value} {ns : List Int}
/-- the law, called by the claim's caller with its script -/
theorem law_at (KX : K.In s₁.heap) (hns : s₁.heap.Ns mainGlobals mg) (hb : s₁.heap.Ns builtinsNs mb) (hbb : ∀ x : Str, x ≠ "__name__" → mb x = bootBuiltins x) (hlim : s₁.heap.NoLimit) (hg : s₁.gens = #[])
    (ha : s₁.heap.get? a = some { cls := .type "list", data := .seq vs.toArray }) (hi : IntsAre vs ns) (hl : ns.length ≤ sizeLine) (hr : RoomG k callerA)
    (F : ∀ base : Heap, K.In base → base.Ns mainGlobals mg → FnG P w K mg base k fa fd [x] (LSp K mg m)) (hbind : ∀ (u : Value), BindsTo s₁ fd ⟨[u], []⟩ [(x, u)])
    (hm : ∃ S', m [.fzl (ns.map D.int)] [] = .ok (.bl true) S') :
    codeAny (model P w) callerA (.call (.ref fa) ⟨[.ref a], []⟩) (fun r s' => r = .ok (.ret (.bool true)) ∧ OldK s₁.heap s'.heap ∧ s'.os = s₁.os ∧ AllBare s'.gens) s₁ := by
  have rv := vals_ints hi
  have lenV := hi.length
  have core : ∀ H : Hp, Only H → FzL K H a (ns.map V.int) → HOk P w H s₁.heap → (∀ b, H b ≠ none → b = a) → (H a ≠ none → K.lookup a = none) →
      codeAny (model P w) callerA (.call (.ref fa) ⟨[.ref a], []⟩) (fun r s' => r = .ok (.ret (.bool true)) ∧ OldK s₁.heap s'.heap ∧ s'.os = s₁.os ∧ AllBare s'.gens) s₁ := by
    intro H hO hS hok hA hK
    have noA : ∀ {b : Addr} {o : Obj} {es : Array DictEntry} {ep : Nat}, s₁.heap.get? b = some o → o.data = .dict es ep → H b = none := fun {b o es ep} e d => by
      cases q : H b with
      | none => rfl
      | some u =>
        have e' : b = a := hA b (by rw [q]; simp)
        subst e'
        rw [ha] at e; cases e
        exact nomatch (show Data.seq vs.toArray _ = Data.dict es ep from d)
    have nsK : ∀ {b : Addr} {m : Str → Option Value}, s₁.heap.Ns b m → (hidT s₁.heap H).Ns b m := fun {b m} ⟨o, es, ep, e, d, r⟩ => ⟨o, es, ep, hidT_get e (noA e d), d, r⟩
    have hKb : K.In (hidT s₁.heap H) := fun b o e => hidT_get (KX b o e) (by
      cases q : H b with
      | none => rfl
      | some u =>
        have e' : b = a := hA b (by rw [q]; simp)
        subst e'
        rw [hK (by rw [q]; simp)] at e; cases e)
    have hM : Mod K mg (hidT s₁.heap H) := ⟨hKb, nsK hns, ⟨mb, nsK hb, hbb⟩, let ⟨mc, h1, h2⟩ := hlim; ⟨mc, nsK h1, h2⟩⟩
    have e0 : Env0 P w K mg (hidT s₁.heap H) callerA [] s₁ H := ⟨rfl, hM, fun b o e => of_hidT e, Nat.le_of_eq (hidT_size _ _), trivial, fun b hb => absurd (show b ∈ ([] : List Addr) from hb) (by simp), hok, .of_eq hg⟩
    have hsp : LSp K mg m [.ref a] H (fun v _ => v = .bl true) fun _ _ _ => False := by
      obtain ⟨S', hm⟩ := hm
      refine ⟨[], [], [.fzl (ns.map D.int)], ⟨rfl, List.nodup_nil, fun l b c h => by simp at h⟩, ⟨.ref a, [], rfl, ⟨a, _, rfl, hS, rep_ints ns⟩, rfl⟩, ?_⟩
      rw [hm]
      exact fun ρ' H' b _ _ r => r
    refine codeAny_mono ((F _ hKb (nsK hns)).run callerA [] s₁ H ⟨[.ref a], []⟩ [.ref a] [.ref a] _ _ hr e0 (hbind (.ref a)) (.cons rfl .nil) hsp) fun r s' h => ?_
    cases r with
    | error e =>
      obtain ⟨_, _, _, _, _, _, _, _, _, _, _, _, z⟩ := h
      exact z.elim
    | ok fl =>
      cases fl with
      | next => exact False.elim h
      | brk => exact False.elim h
      | cont => exact False.elim h
      | ret u =>
        obtain ⟨v, H', os, bare, un, hok', r', q⟩ := h
        have q' : v = .bl true := q
        subst q'
        obtain rfl : u = Value.bool true := r'
        refine ⟨rfl, OldK.of_keep fun b o e => ?_, os, bare⟩
        cases q : H b with
        | none => exact un.keep b o e q (by intro z; exact absurd (show b ∈ ([] : List Addr) from z) (by simp)) (by simp)
        | some u =>
          rcases hO b with z | ⟨ob, xs, z⟩
          · rw [q] at z; cases z
          · obtain ⟨e1, _⟩ := hok b _ z
            obtain ⟨e2, _⟩ := hok' b _ (un.frzs b ob _ z)
            rw [e] at e1; cases e1
            exact e2
  cases hk : K.lookup a with
  | some o =>
    have e := KX a o hk
    rw [ha] at e
    cases e
    exact core (fun _ => none) (fun _ => .inl rfl) (.inr ⟨_, vs.toArray, _, hk, rfl, rfl, rfl, by rw [List.size_toArray, lenV]; exact hl, by simpa using rv⟩) (fun b u z => by cases (show (none : Option HO) = some u from z)) (fun b z => absurd rfl z) fun z => absurd rfl z
  | none =>
    refine core (fun b => if b = a then some (.frz { cls := .type "list", data := .seq vs.toArray } (.lst (ns.map V.int))) else none) (fun b => ?_) (.inl ⟨{ cls := .type "list", data := .seq vs.toArray }, if_pos rfl⟩) (fun b u z => ?_) (fun b z => ?_) fun _ => hk
    · by_cases hb : b = a
      · exact .inr ⟨_, _, if_pos hb⟩
      · exact .inl (if_neg hb)
    · by_cases hb : b = a
      · cases (if_pos hb).symm.trans z
        subst hb
        exact ⟨ha, by rw [List.length_map]; exact hl, vs, _, rv, ha⟩
      · cases (if_neg hb).symm.trans z
    · by_cases hb : b = a
      · exact hb
      · exact absurd (if_neg hb) z
end
/-- the walk of a law's row, from the table of its defs -/
theorem walkG {l : PySem.W.OpenLaw} {n k : Nat} {q : Program} {loose : List Str} {XP : (Str → Option Value) → Heap → Prop} {YP : World → Heap → Prop} {d : DefRec} {K : Params → PySem.W.Frag} {T : Tab} {nm : Nm} {f : Nat}
    (hn : l.most = some n) (hn2 : n ≤ sizeLine) (hdf : d.params.defaults = []) (hr : RoomG k callerA)
    (hY : ∀ (w : World) (h : Heap), YP w h → (K w.params).In h)
    (F : ∀ (w : World) (mg : Str → Option Value) (fa : Addr) (h : Heap), (K w.params).In h → h.Ns mainGlobals mg → mg d.name = some (.ref fa) → TabOk (K w.params) mg T nm)
    (hf : nm.fns[f]? = some d.name) (hx : ∀ df, T.defs[f]? = some df → df.np = 1)
    (hm : ∀ ns : List Int, ns.length ≤ n → ∃ S', callN T k f [.fzl (ns.map D.int)] [] = .ok (.bl true) S') :
    PySem.W.WalkO q loose XP YP l.row.toRowW d [] (fun f vs => PySem.call f vs) := by
  refine Att.attach_call hn hdf fun w s₀ s₁ mg mb fa o pm cd doc a vs ns G Y ho hd hcd hmg hobj hints hlen hg => ?_
  have KX := hY w _ Y
  have ok := F w mg fa _ KX G.T.g hmg
  obtain ⟨df, h, e1, hk⟩ := ok.fns f d.name hf
  have hfa : h.fa = fa := by
    have := hk.at_
    rw [hmg] at this
    cases this; rfl
  subst hfa
  obtain ⟨x, hps⟩ : ∃ x, h.ps = [x] := by
    have e := hk.np.symm.trans (hx _ e1)
    match h.ps, e with
    | [x], _ => exact ⟨x, rfl⟩
  refine law_at (x := x) (fd := h.fd) (m := callN T k f) KX G.T.g G.T.b G.T.builtins G.T.nolimit hg hobj hints (Nat.le_trans hlen hn2) hr (fun base hK hb => ?_) (fun u => ?_) (hm ns hlen)
  · rw [← hps]
    exact callN_ok ok k f d.name df h hf e1 hk
  · have := hk.binds s₁ [u] KX (by rw [hps]; rfl)
    rw [hps] at this
    exact this
end Fw
/-! Fw16: reasoning about the evaluator -/
namespace Fw
open PySem
def Ok {α : Type} (r : R α) (Q : α → Store → Prop) : Prop := match r with
  | .ok a S => Q a S
  | _ => False
def OkS (r : RS) (Q : Fl → Env → Store → Prop) : Prop := match r with
  | .ok f η S => Q f η S
  | _ => False
section
variable {α β : Type}
theorem Ok.mono {r : R α} {Q Q' : α → Store → Prop} (h : Ok r Q) (hq : ∀ a S, Q a S → Q' a S) : Ok r Q' := by
  cases r with
  | ok a S => exact hq _ _ h
  | err e S => exact h
  | bad => exact h
theorem OkS.mono {r : RS} {Q Q' : Fl → Env → Store → Prop} (h : OkS r Q) (hq : ∀ f η S, Q f η S → Q' f η S) : OkS r Q' := by
  cases r with
  | ok f η S => exact hq _ _ _ h
  | err e η S => exact h
  | bad => exact h
theorem Ok.ex {r : R α} {Q : α → Store → Prop} (h : Ok r Q) : ∃ a S, r = .ok a S ∧ Q a S := by
  cases r with
  | ok a S => exact ⟨a, S, rfl, h⟩
  | err e S => exact h.elim
  | bad => exact h.elim
theorem OkS.ex {r : RS} {Q : Fl → Env → Store → Prop} (h : OkS r Q) : ∃ f η S, r = .ok f η S ∧ Q f η S := by
  cases r with
  | ok f η S => exact ⟨f, η, S, rfl, h⟩
  | err e η S => exact h.elim
  | bad => exact h.elim
theorem ok_ok {a : α} {S : Store} {Q : α → Store → Prop} : Ok (.ok a S) Q = Q a S := rfl
theorem oks_ok {f : Fl} {η : Env} {S : Store} {Q : Fl → Env → Store → Prop} : OkS (.ok f η S) Q = Q f η S := rfl
theorem ok_bind {m : M α} {k : α → M β} {S : Store} {Q : β → Store → Prop} : Ok (M.bind m k S) Q = Ok (m S) (fun a S1 => Ok (k a S1) Q) := by
  unfold M.bind
  cases m S <;> rfl
theorem ok_pure {a : α} {S : Store} {Q : α → Store → Prop} : Ok (M.pure a S) Q = Q a S := rfl
theorem ok_alloc {c : Cell} {S : Store} {Q : D → Store → Prop} : Ok (M.alloc c S) Q = Q (.loc S.length) (S ++ [c]) := rfl
theorem oks_of {η : Env} {f : α → Env} {g : α → Fl} {r : R α} {Q : Fl → Env → Store → Prop} : OkS (RS.of η f g r) Q = Ok r (fun a S => Q (g a) (f a) S) := by
  cases r <;> rfl
theorem oks_then {r : RS} {k : Env → Store → RS} {Q : Fl → Env → Store → Prop} : OkS (RS.then r k) Q = OkS r (fun f η S => match f with
    | .nx => OkS (k η S) Q
    | f => Q f η S) := by
  cases r with
  | ok f η S => cases f <;> rfl
  | err e η S => rfl
  | bad => rfl
theorem ok_noErr {r : R α} {Q : α → Store → Prop} : Ok (noErr r) Q = Ok r Q := by cases r <;> rfl
end
section
variable {F : Fn} {η : Env} {S : Store} {Q : D → Store → Prop}
theorem ok_var {i : Nat} {d : D} (h : η[i]? = some (some d)) : Ok (evE F (.var i) η S) Q = Q d S := by
  simp only [evE, h, ok_ok]
theorem ok_many {xs : List D} {S : Store} {Q : List D → Store → Prop} : Ok (many xs S) Q = (xs.length ≤ sizeLine ∧ Q xs S) := by
  unfold many
  by_cases h : xs.length ≤ sizeLine
  · rw [if_pos h]; simp [h, ok_ok]
  · rw [if_neg h]; simp [h, Ok]
theorem ok_ofOpt {f : Store → Option Bool} {S : Store} {Q : Bool → Store → Prop} : Ok (ofOpt f S) Q = ∃ b, f S = some b ∧ Q b S := by
  unfold ofOpt
  cases h : f S with
  | none => simp [Ok]
  | some b => simp [Ok]
theorem ok_ofOpt' {f : Store → Option Bool} {S : Store} {b : Bool} {Q : Bool → Store → Prop} (h : f S = some b) : Ok (ofOpt f S) Q = Q b S := by
  unfold ofOpt
  rw [h]; rfl
/-! ### loops -/
theorem for_ok {gs : Guard} {step : D → Env → Store → RS} {Q : Fl → Env → Store → Prop} (I : Nat → Env → Store → Prop) {xs : List D} {η : Env} {S : Store} (h0 : I 0 η S)
    (hs : ∀ i x η S, xs[i]? = some x → I i η S → gOk gs S = true ∧ OkS (step x η S) (fun f η' S' => match f with
      | .nx => I (i + 1) η' S'
      | .cnt => I (i + 1) η' S'
      | .brk => Q .nx η' S'
      | .ret d => Q (.ret d) η' S'))
    (hd : ∀ η S, I xs.length η S → gOk gs S = true ∧ Q .nx η S) : OkS (forLoop gs step xs η S) Q := by
  have key : ∀ (ys : List D) (n : Nat) (η : Env) (S : Store), xs.drop n = ys → I n η S → n ≤ xs.length → OkS (forLoop gs step ys η S) Q := by
    intro ys
    induction ys with
    | nil =>
      intro n η S hy hi hn
      have : n = xs.length := by
        have := congrArg List.length hy
        simp at this
        omega
      subst this
      obtain ⟨h1, h2⟩ := hd η S hi
      unfold forLoop
      rw [if_pos h1]
      exact h2
    | cons y ys ih =>
      intro n η S hy hi hn
      have hx : xs[n]? = some y := by
        have : (xs.drop n)[0]? = some y := by rw [hy]; rfl
        rwa [List.getElem?_drop, Nat.add_zero] at this
      have hlt : n < xs.length := (List.getElem?_eq_some_iff.mp hx).1
      obtain ⟨h1, h2⟩ := hs n y η S hx hi
      unfold forLoop
      rw [if_pos h1]
      obtain ⟨f, η', S', e, q⟩ := h2.ex
      rw [e]
      have hy' : xs.drop (n + 1) = ys := by
        have := congrArg List.tail hy
        simpa using this
      cases f with
      | nx => exact ih (n + 1) η' S' hy' q hlt
      | cnt => exact ih (n + 1) η' S' hy' q hlt
      | brk => exact q
      | ret d => exact q
  exact key xs 0 η S (by simp) h0 (Nat.zero_le _)
theorem comp_ok {gs : Guard} {g : D → Env → M Env} {c : Env → M Bool} {elt : Env → M D} {η : Env} {Q : List D → Store → Prop} (I : Nat → List D → Store → Prop) {xs : List D} {S : Store} (h0 : I 0 [] S)
    (hs : ∀ i x acc S, xs[i]? = some x → I i acc S → gOk gs S = true ∧ Ok (g x η S) (fun η' S1 => Ok (c η' S1) (fun b S2 => if b = true then Ok (elt η' S2) (fun y S3 => I (i + 1) (acc ++ [y]) S3) else I (i + 1) acc S2)))
    (hd : ∀ acc S, I xs.length acc S → gOk gs S = true ∧ Q acc S) : Ok (comp gs g c elt η xs S) Q := by
  have key : ∀ (ys : List D) (n : Nat) (acc : List D) (S : Store) (Q' : List D → Store → Prop), xs.drop n = ys → I n acc S → n ≤ xs.length → (∀ r S, Q (acc ++ r) S → Q' r S) → Ok (comp gs g c elt η ys S) Q' := by
    intro ys
    induction ys with
    | nil =>
      intro n acc S Q' hy hi hn hq
      have : n = xs.length := by
        have := congrArg List.length hy
        simp at this
        omega
      subst this
      obtain ⟨h1, h2⟩ := hd acc S hi
      unfold comp
      rw [if_pos h1]
      exact hq [] S (by simpa using h2)
    | cons y ys ih =>
      intro n acc S Q' hy hi hn hq
      have hx : xs[n]? = some y := by
        have : (xs.drop n)[0]? = some y := by rw [hy]; rfl
        rwa [List.getElem?_drop, Nat.add_zero] at this
      have hlt : n < xs.length := (List.getElem?_eq_some_iff.mp hx).1
      have hy' : xs.drop (n + 1) = ys := by
        have := congrArg List.tail hy
        simpa using this
      obtain ⟨h1, h2⟩ := hs n y acc S hx hi
      unfold comp
      rw [if_pos h1]
      rw [ok_bind]
      refine h2.mono fun η' S1 h3 => ?_
      rw [ok_bind]
      refine h3.mono fun b S2 h4 => ?_
      cases b with
      | true =>
        rw [if_pos rfl] at h4 ⊢
        rw [ok_bind]
        refine h4.mono fun z S3 h5 => ?_
        rw [ok_bind]
        exact ih (n + 1) (acc ++ [z]) S3 _ hy' h5 hlt fun r S h6 => hq (z :: r) S (by simpa using h6)
      | false =>
        rw [if_neg Bool.false_ne_true] at h4 ⊢
        exact ih (n + 1) acc S2 Q' hy' h4 hlt hq
  exact key xs 0 [] S Q (by simp) h0 (Nat.zero_le _) fun r S h => by simpa using h
theorem whl_ok {t : Env → M Bool} {step : Env → Store → RS} {Q : Fl → Env → Store → Prop} (I : Nat → Env → Store → Prop)
    (hs : ∀ m η S, I m η S → Ok (t η S) (fun b S1 => if b = true then OkS (step η S1) (fun f η' S' => match f with
      | .nx => ∃ m', m' < m ∧ I m' η' S'
      | .cnt => ∃ m', m' < m ∧ I m' η' S'
      | .brk => Q .nx η' S'
      | .ret d => Q (.ret d) η' S') else Q .nx η S1)) : ∀ (n m : Nat) (η : Env) (S : Store), m < n → I m η S → OkS (whlLoop t step n η S) Q
  | 0, m, η, S, h, _ => absurd h (Nat.not_lt_zero _)
  | n + 1, m, η, S, h, hi => by
    unfold whlLoop
    obtain ⟨b, S1, e, q⟩ := (hs m η S hi).ex
    rw [e]
    cases b with
    | false => rw [if_neg Bool.false_ne_true] at q; exact q
    | true =>
      rw [if_pos rfl] at q
      obtain ⟨f, η', S', e2, q2⟩ := q.ex
      dsimp only
      rw [e2]
      cases f with
      | nx => obtain ⟨m', hm, hi'⟩ := q2; exact whl_ok I hs n m' η' S' (by omega) hi'
      | cnt => obtain ⟨m', hm, hi'⟩ := q2; exact whl_ok I hs n m' η' S' (by omega) hi'
      | brk => exact q2
      | ret d => exact q2
end
/-! ### a def's call -/
theorem ok_call {T : Tab} {n f : Nat} {d : Def} {vs : List D} {S : Store} {Q : D → Store → Prop} (hd : T.defs[f]? = some d) (hl : vs.length = d.np)
    (h : OkS (exL (T.fn (callN T n)) d.body (vs.map some ++ List.replicate (d.ns - d.np) none) S) (fun fl _ S' => match fl with
      | .ret v => Q v S'
      | .nx => Q .non S'
      | _ => False)) : Ok (callN T (n + 1) f vs S) Q := by
  simp only [callN, hd]
  unfold runDef
  rw [if_pos hl]
  obtain ⟨fl, η, S', e, q⟩ := h.ex
  rw [e]
  cases fl with
  | nx => exact q
  | brk => exact q.elim
  | cnt => exact q.elim
  | ret v => exact q
/-! ### what stays -/
def Inc (S S' : Store) : Prop := ∀ (l : Nat) (c : Cell), S[l]? = some c → S'[l]? = some c
theorem Inc.refl {S : Store} : Inc S S := fun _ _ h => h
theorem Inc.trans {S S1 S2 : Store} (a : Inc S S1) (b : Inc S1 S2) : Inc S S2 := fun l c h => b l c (a l c h)
theorem get_app {S T : Store} {l : Nat} {c : Cell} (h : S[l]? = some c) : (S ++ T)[l]? = some c := by
  rw [List.getElem?_append_left (List.getElem?_eq_some_iff.mp h).1]; exact h
theorem Inc.app {S : Store} (T : Store) : Inc S (S ++ T) := fun _ _ h => get_app h
theorem get_new {S : Store} {c : Cell} : (S ++ [c])[S.length]? = some c := by simp
theorem get_lt {S : Store} {l : Nat} {c : Cell} (h : S[l]? = some c) : l < S.length := (List.getElem?_eq_some_iff.mp h).1
theorem get_set {S : Store} {l : Nat} {c c' : Cell} (h : S[l]? = some c) : (S.set l c')[l]? = some c' := List.getElem?_set_self (get_lt h)
theorem get_set_ne {S : Store} {l k : Nat} {c : Cell} (h : k ≠ l) : (S.set l c)[k]? = S[k]? := List.getElem?_set_ne (Ne.symm h)
/-! ### data -/
theorem deep_non {S : Store} {n : Nat} : deep S n .non = some .none := by unfold deep; rfl
theorem deep_bl {S : Store} {n : Nat} {b : Bool} : deep S n (.bl b) = some (.bool b) := by unfold deep; rfl
theorem deep_int {S : Store} {n : Nat} {i : Int} : deep S n (.int i) = some (.int i) := by unfold deep; rfl
theorem deep_str {S : Store} {n : Nat} {s : Str} : deep S n (.str s) = some (.str s) := by unfold deep; rfl
theorem deep_tup {S : Store} {n : Nat} {xs : List D} : deep S (n + 1) (.tup xs) = (optAll (xs.map (deep S n))).map .tuple := by rw [deep]
theorem deep_lst {S : Store} {n l : Nat} {xs : List D} (h : S[l]? = some (.lst xs)) : deep S (n + 1) (.loc l) = (optAll (xs.map (deep S n))).map .list := by
  rw [deep, h]
/-- data by value: what it is, in any store -/
def PD (d : D) (p : PyData) : Prop := ∀ S n, p.depth ≤ n → deep S n d = some p
inductive PDs : List D → List PyData → Prop where
  | nil : PDs [] []
  | cons {d : D} {p : PyData} {ds : List D} {ps : List PyData} : PD d p → PDs ds ps → PDs (d :: ds) (p :: ps)
theorem pd_non : PD .non .none := fun _ _ _ => deep_non
theorem pd_bl {b : Bool} : PD (.bl b) (.bool b) := fun _ _ _ => deep_bl
theorem pd_int {b : Int} : PD (.int b) (.int b) := fun _ _ _ => deep_int
theorem pd_str {b : Str} : PD (.str b) (.str b) := fun _ _ _ => deep_str
theorem PDs.all {ds : List D} {ps : List PyData} (h : PDs ds ps) : ∀ S n, PyData.depthAll ps ≤ n → optAll (ds.map (deep S n)) = some ps := by
  induction h with
  | nil => intro S n _; rfl
  | cons h _ ih =>
    intro S n hn
    simp only [PyData.depthAll] at hn
    rw [List.map_cons, h S n (by omega)]
    unfold optAll
    rw [ih S n (by omega)]
theorem pd_tup {ds : List D} {ps : List PyData} (h : PDs ds ps) : PD (.tup ds) (.tuple ps) := fun S n hn => by
  simp only [PyData.depth] at hn
  cases n with
  | zero => omega
  | succ n => rw [deep_tup, h.all S n (by omega)]; rfl
theorem PDs.append {ds es : List D} {ps qs : List PyData} (h : PDs ds ps) (h' : PDs es qs) : PDs (ds ++ es) (ps ++ qs) := by
  induction h with
  | nil => exact h'
  | cons h _ ih => exact .cons h ih
theorem deep_list {S : Store} {l n : Nat} {ds : List D} {ps : List PyData} (h : S[l]? = some (.lst ds)) (r : PDs ds ps) (hn : PyData.depthAll ps ≤ n) : deep S (n + 1) (.loc l) = some (.list ps) := by
  rw [deep_lst h, r.all S n hn]; rfl
/-! ### data that is shown -/
mutual
def nice : PyData → Bool
  | .none | .bool _ => true
  | .int i => decide (i.natAbs < 10 ^ 12)
  | .str x => PyData.strOk x
  | .list xs | .tuple xs => niceAll xs
  | .dict _ => false
def niceAll : List PyData → Bool
  | [] => true
  | x :: xs => nice x && niceAll xs
end
mutual
theorem nice_lay : ∀ {p : PyData}, nice p = true → p.canLay0 = true ∧ p.intsShort 13 = true ∧ p.showable = true
  | .none, _ => ⟨rfl, rfl, rfl⟩
  | .bool _, _ => ⟨rfl, rfl, rfl⟩
  | .int i, h => by
    have h : i.natAbs < 10 ^ 12 := of_decide_eq_true (by simpa only [nice] using h)
    refine ⟨rfl, by simp only [PyData.intsShort, decide_eq_true_eq]; exact PyData.shown_int_le h, ?_⟩
    simp only [PyData.showable, decide_eq_true_eq]
    have : i.natAbs < 2 ^ 1920 := Nat.lt_trans h (Nat.lt_of_lt_of_le (by decide : 10 ^ 12 < 2 ^ 40) (Nat.pow_le_pow_right (by decide) (by decide)))
    by_cases hz : i.natAbs = 0
    · rw [hz]; decide
    · exact (Nat.log2_lt hz).mpr this
  | .str x, h => by
    have h : PyData.strOk x = true := by simpa only [nice] using h
    exact ⟨by simp only [PyData.canLay0]; exact h, rfl, rfl⟩
  | .list xs, h => by
    obtain ⟨h1, h2, h3⟩ := niceAll_lay (xs := xs) (by simpa only [nice] using h)
    exact ⟨by simp only [PyData.canLay0]; exact h1, by simp only [PyData.intsShort]; exact h2, by simp only [PyData.showable]; exact h3⟩
  | .tuple xs, h => by
    obtain ⟨h1, h2, h3⟩ := niceAll_lay (xs := xs) (by simpa only [nice] using h)
    exact ⟨by simp only [PyData.canLay0]; exact h1, by simp only [PyData.intsShort]; exact h2, by simp only [PyData.showable]; exact h3⟩
  | .dict _, h => by simp [nice] at h
theorem niceAll_lay : ∀ {xs : List PyData}, niceAll xs = true → PyData.canLayAll0 xs = true ∧ PyData.intsShortAll 13 xs = true ∧ PyData.showableAll xs = true
  | [], _ => ⟨rfl, rfl, rfl⟩
  | x :: xs, h => by
    simp only [niceAll, Bool.and_eq_true] at h
    obtain ⟨a1, a2, a3⟩ := nice_lay h.1
    obtain ⟨b1, b2, b3⟩ := niceAll_lay h.2
    exact ⟨by simp only [PyData.canLayAll0, a1, b1, Bool.and_self], by simp only [PyData.intsShortAll, a2, b2, Bool.and_self], by simp only [PyData.showableAll, a3, b3, Bool.and_self]⟩
end
mutual
theorem eqv_refl : ∀ {p : PyData}, nice p = true → PyData.eqv p p = true
  | .none, _ => by simp [PyData.eqv]
  | .bool _, _ => by simp [PyData.eqv]
  | .int i, h => by simp [PyData.eqv]
  | .str x, h => by simp [PyData.eqv]
  | .list xs, h => by simp only [PyData.eqv]; exact eqvAll_refl (by simpa only [nice] using h)
  | .tuple xs, h => by simp only [PyData.eqv]; exact eqvAll_refl (by simpa only [nice] using h)
  | .dict _, h => by simp [nice] at h
theorem eqvAll_refl : ∀ {xs : List PyData}, niceAll xs = true → PyData.eqvAll xs xs = true
  | [], _ => by simp [PyData.eqvAll]
  | x :: xs, h => by
    simp only [niceAll, Bool.and_eq_true] at h
    simp only [PyData.eqvAll, eqv_refl h.1, eqvAll_refl h.2, Bool.and_self]
end
/-- data that may be shown and compared -/
structure Fine (p : PyData) : Prop where
  nice : nice p = true
  depth : p.depth ≤ 60
  weight : p.weight ≤ 2 ^ 20
theorem Fine.shaped {p : PyData} (h : Fine p) : SeqAt.shaped p = true := by
  unfold SeqAt.shaped
  rw [(nice_lay h.nice).1, decide_eq_true (Nat.le_trans h.depth (by decide))]
  rfl
theorem repr_ok {S : Store} {d : D} {p : PyData} (h : deep S DEEP d = some p) (f : Fine p) : reprC [d] S = .ok (.str p.shown) S := by
  obtain ⟨h1, h2, h3⟩ := nice_lay f.nice
  have hl : p.shown.length ≤ sizeLine := PyData.shown_fits_of_layable0 (B := 13) (by decide) (by decide) (by
    show (p.canLay0 && decide (p.depth ≤ 64) && decide (p.weight ≤ 2 ^ 20)) = true
    rw [h1, decide_eq_true (Nat.le_trans f.depth (by decide)), decide_eq_true f.weight]
    rfl) h2
  unfold reprC
  dsimp only
  rw [h]
  dsimp only
  rw [h3, show lineOk p.shown.length = true from decide_eq_true hl, decide_eq_true (Nat.le_trans f.depth (by decide))]
  rfl
theorem dataOf_ok {S : Store} {d : D} {p : PyData} (h : deep S DEEP d = some p) (f : SeqAt.shaped p = true) : dataOf S d = some p := by
  unfold dataOf
  rw [h]
  dsimp only
  rw [if_pos f]
theorem shaped_str {s : Str} (h : PyData.strOk s = true) : SeqAt.shaped (.str s) = true := by
  unfold SeqAt.shaped
  simp only [PyData.canLay0, PyData.depth, h]
  rfl
theorem eq_str {S : Store} {a b : Str} (ha : PyData.strOk a = true) (hb : PyData.strOk b = true) : eqD (.str a) (.str b) S = some (a == b) := by
  unfold eqD
  rw [dataOf_ok deep_str (shaped_str ha), dataOf_ok deep_str (shaped_str hb)]
  simp only [PyData.eqv]
theorem eq_int {S : Store} {a b : Int} : eqD (.int a) (.int b) S = some (a == b) := by
  unfold eqD
  rw [dataOf_ok deep_int rfl, dataOf_ok deep_int rfl]
  simp only [PyData.eqv]
theorem eq_same {S : Store} {a b : D} {p : PyData} (ha : deep S DEEP a = some p) (hb : deep S DEEP b = some p) (f : Fine p) : eqD a b S = some true := by
  unfold eqD
  rw [dataOf_ok ha f.shaped, dataOf_ok hb f.shaped]
  simp only [eqv_refl f.nice]
theorem pds_strs : ∀ ws : List Str, PDs (ws.map D.str) (ws.map PyData.str)
  | [] => .nil
  | w :: ws => .cons pd_str (pds_strs ws)
theorem depth_strs : ∀ ws : List Str, PyData.depthAll (ws.map PyData.str) = 0
  | [] => rfl
  | w :: ws => by simp only [List.map_cons, PyData.depthAll, PyData.depth, depth_strs ws, Nat.max_self]
theorem lay_strs : ∀ {ws : List Str}, ws.all PyData.strOk = true → PyData.canLayAll0 (ws.map PyData.str) = true
  | [], _ => rfl
  | w :: ws, h => by
    simp only [List.all_cons, Bool.and_eq_true] at h
    simp only [List.map_cons, PyData.canLayAll0, PyData.canLay0, h.1, lay_strs h.2, Bool.and_self]
theorem in_strs {S : Store} {w : Str} {ws : List Str} {ds : List D} (hd : ds = ws.map D.str) (hw : PyData.strOk w = true) (hs : ws.all PyData.strOk = true) : isIn (.str w) (.tup ds) S = some (decide (w ∈ ws)) := by
  subst hd
  have e : deep S DEEP (.tup (ws.map D.str)) = some (.tuple (ws.map .str)) := pd_tup (pds_strs ws) S DEEP (by simp only [PyData.depth, depth_strs]; decide)
  have sh : SeqAt.shaped (.tuple (ws.map .str)) = true := by
    unfold SeqAt.shaped
    simp only [PyData.canLay0, PyData.depth, depth_strs, lay_strs hs]
    rfl
  unfold isIn
  dsimp only
  rw [dataOf_ok deep_str (shaped_str hw), dataOf_ok e sh]
  dsimp only
  congr 1
  rw [List.any_map]
  induction ws with
  | nil => rfl
  | cons x xs ih =>
    simp only [List.all_cons, Bool.and_eq_true] at hs
    rw [List.any_cons, ih hs.2]
    · simp only [Function.comp, PyData.eqv, List.mem_cons]
      by_cases h : x = w
      · subst h; simp
      · have h' : ¬ w = x := fun e => h e.symm
        simp [h, h', beq_eq_false_iff_ne.mpr h]
    · exact pd_tup (pds_strs xs) S DEEP (by simp only [PyData.depth, depth_strs]; decide)
    · unfold SeqAt.shaped
      simp only [PyData.canLay0, PyData.depth, depth_strs, lay_strs hs.2]
      rfl
end Fw
/-! Fw17: the evaluator, step by step -/
namespace Fw
open PySem
section
variable {F : Fn} {η : Env} {S : Store} {Q : D → Store → Prop} {QB : Bool → Store → Prop} {QL : List D → Store → Prop} {QE : Env → Store → Prop} {QI : List D × Guard → Store → Prop} {QO : Option Int → Store → Prop} {QS : Fl → Env → Store → Prop} {QP : List (L2.Key × D) → Store → Prop}
theorem ev_var {i : Nat} : Ok (evE F (.var i) η S) Q = match η[i]? with
    | some (some d) => Q d S
    | _ => False := by
  rw [evE]
  rcases η[i]? with _ | (_ | d) <;> rfl
theorem ev_glb {k : Nat} : Ok (evE F (.glb k) η S) Q = match F.consts k with
    | some d => Q d S
    | none => False := by
  rw [evE]
  cases F.consts k <;> rfl
theorem ev_non : Ok (evE F .non η S) Q = Q .non S := by rw [evE, ok_pure]
theorem ev_bl {b : Bool} : Ok (evE F (.bl b) η S) Q = Q (.bl b) S := by rw [evE, ok_pure]
theorem ev_int {b : Int} : Ok (evE F (.int b) η S) Q = Q (.int b) S := by rw [evE, ok_pure]
theorem ev_str {b : Str} : Ok (evE F (.str b) η S) Q = Q (.str b) S := by rw [evE, ok_pure]
theorem ev_bin {o : Operator} {a b : E} : Ok (evE F (.bin o a b) η S) Q = Ok (evE F a η S) fun x S1 => Ok (evE F b η S1) fun y S2 => Ok (binop o x y S2) Q := by rw [evE]; simp only [ok_bind]
theorem ok_negI {i : Int} : Ok ((match D.int i with
    | .int i => M.pure (.int (-i))
    | _ => M.bad : M D) S) Q = Q (.int (-i)) S := rfl
theorem ev_neg {i : Int} : Ok (evE F (.neg (.int i)) η S) Q = Q (.int (-i)) S := by rw [evE, ok_bind, ev_int]; rfl
theorem ev_cmp {o : CmpOp} {a b : E} : Ok (evE F (.cmp o a b) η S) Q = Ok (evE F a η S) fun x S1 => Ok (evE F b η S1) fun y S2 => ∃ k, cmpop o x y S2 = some k ∧ Q (.bl k) S2 := by
  rw [evE]; simp only [ok_bind, ok_ofOpt, ok_pure]
theorem ev_not {a : E} : Ok (evE F (.not a) η S) Q = Ok (evE F a η S) fun x S1 => ∃ k, x = .bl k ∧ Q (.bl (!k)) S1 := by
  rw [evE]
  simp only [ok_bind, ok_pure]
  congr 1
  funext x S1
  unfold isBl
  cases x <;> simp [Ok]
theorem ev_ife {t a b : E} : Ok (evE F (.ife t a b) η S) Q = Ok (evT F t η S) fun k S1 => if k = true then Ok (evE F a η S1) Q else Ok (evE F b η S1) Q := by
  rw [evE, ok_bind]
  congr 1
  funext k S1
  cases k <;> rfl
theorem ev_tup {xs : L} : Ok (evE F (.tup xs) η S) Q = Ok (evL F xs η S) fun vs S1 => vs.length ≤ sizeLine ∧ Q (.tup vs) S1 := by rw [evE]; simp only [ok_bind, ok_many, ok_pure]
theorem ev_lst {xs : L} : Ok (evE F (.lst xs) η S) Q = Ok (evL F xs η S) fun vs S1 => vs.length ≤ sizeLine ∧ Q (.loc S1.length) (S1 ++ [.lst vs]) := by rw [evE]; simp only [ok_bind, ok_many, ok_alloc]
theorem ev_dct {ps : PL} : Ok (evE F (.dct ps) η S) Q = Ok (evP F ps η S) fun kvs S1 => kvs.length ≤ 15 ∧ Q (.loc S1.length) (S1 ++ [.dct (mergeD [] kvs)]) := by
  rw [evE, ok_bind]
  congr 1
  funext kvs S1
  by_cases h : kvs.length ≤ 15
  · rw [if_pos h, ok_alloc]; simp [h]
  · rw [if_neg h]; simp [h, Ok, M.bad]
theorem ev_idx {a i : E} : Ok (evE F (.idx a i) η S) Q = Ok (evE F a η S) fun x S1 => Ok (evE F i η S1) fun y S2 => Ok (getix x y S2) Q := by rw [evE]; simp only [ok_bind]
theorem ev_slc {a : E} {lo hi : O} : Ok (evE F (.slc a lo hi) η S) Q = Ok (evE F a η S) fun x S1 => Ok (evO F lo η S1) fun l S2 => Ok (evO F hi η S2) fun h S3 => Ok (slice x l h S3) Q := by rw [evE]; simp only [ok_bind]
theorem ev_rev {a : E} : Ok (evE F (.rev a) η S) Q = Ok (evE F a η S) fun x S1 => Ok (reversed x S1) Q := by rw [evE]; simp only [ok_bind]
theorem ev_call {f : Nat} {xs : L} : Ok (evE F (.call f xs) η S) Q = Ok (evL F xs η S) fun vs S1 => Ok (F.call f vs S1) Q := by rw [evE]; simp only [ok_bind]
theorem ev_callk {f p : Nat} {xs ks : L} : Ok (evE F (.callk f xs ks p) η S) Q = Ok (evL F xs η S) fun vs S1 => Ok (evL F ks η S1) fun ws S2 => Ok (F.call f (F.perm p (vs ++ ws)) S2) Q := by rw [evE]; simp only [ok_bind]
theorem ev_bi {b : Bi} {xs : L} : Ok (evE F (.bi b xs) η S) Q = Ok (evL F xs η S) fun vs S1 => Ok (bicall b vs S1) Q := by rw [evE]; simp only [ok_bind]
theorem ok_recv {m : Mt} {d : D} : Ok (recv m d S) Q = (recvOk m d S = true ∧ Q d S) := by
  unfold recv
  by_cases h : recvOk m d S = true
  · rw [if_pos h, ok_ok]; simp [h]
  · rw [if_neg h]; simp [h, Ok]
theorem ev_mth {m : Mt} {o : E} {xs : L} : Ok (evE F (.mth m o xs) η S) Q = Ok (evE F o η S) fun x S1 => recvOk m x S1 = true ∧ Ok (evL F xs η S1) fun vs S2 => Ok (mtcall m x vs S2) Q := by rw [evE]; simp only [ok_bind, ok_recv]
theorem ev_lcp {elt : E} {g : G} {it : I} {c : O} {own : List Nat} : Ok (evE F (.lcp elt g it c own) η S) Q = Ok (evI F it η S) fun w S1 => w.1.length ≤ sizeLine ∧ Ok (comp w.2 (asG F g) (evC F c) (evE F elt) (wipeE η own) w.1 S1) fun ys S2 => Q (.loc S2.length) (S2 ++ [.lst ys]) := by
  rw [evE]; simp only [ok_bind, ok_many, ok_noErr, ok_alloc]
theorem ev_ssc {elt : E} {g : G} {it : I} {c : O} {own : List Nat} : Ok (evE F (.ssc elt g it c own) η S) Q = Ok (evI F it η S) fun w S1 => w.1.length ≤ sizeLine ∧ Ok (comp w.2 (asG F g) (evC F c) (evE F elt) (wipeE η own) w.1 S1) fun ys S2 => ∃ ss, allStrs ys = some ss ∧ (dedup ss).length < 64 ∧ Q (.loc S2.length) (S2 ++ [.lst ((sortStr (dedup ss)).map .str)]) := by
  rw [evE]
  simp only [ok_bind, ok_many, ok_noErr]
  congr 1
  funext w S1
  congr 1
  congr 1
  funext ys S2
  cases h : allStrs ys with
  | none => simp [Ok]
  | some ss =>
    dsimp only
    by_cases h2 : (dedup ss).length < 64
    · rw [if_pos h2, ok_alloc]; simp [h2]
    · rw [if_neg h2]; simp [h2, Ok]
theorem ev_and1 {a : E} : Ok (evE F (.and (.cons a .nil)) η S) Q = Ok (evE F a η S) Q := by rw [evE, evAnd]
theorem ok_isBl {d : D} : Ok (isBl d S) QB = ∃ k, d = .bl k ∧ QB k S := by
  unfold isBl
  cases d <;> simp [Ok]
theorem ev_and2 {a b : E} {r : L} : Ok (evE F (.and (.cons a (.cons b r))) η S) Q = Ok (evE F a η S) fun x S1 => ∃ k, x = .bl k ∧ if k = true then Ok (evE F (.and (.cons b r)) η S1) Q else Q (.bl false) S1 := by
  rw [evE, evAnd]
  · simp only [ok_bind, ok_isBl]
    congr 1
    funext x S1
    congr 1
    funext k
    congr 1
    cases k
    · rfl
    · simp only [if_true]; rw [evE]
  · intro h; cases h
theorem ev_or1 {a : E} : Ok (evE F (.or (.cons a .nil)) η S) Q = Ok (evE F a η S) Q := by rw [evE, evOr]
theorem ev_or2 {a b : E} {r : L} : Ok (evE F (.or (.cons a (.cons b r))) η S) Q = Ok (evE F a η S) fun x S1 => ∃ k, x = .bl k ∧ if k = true then Q (.bl true) S1 else Ok (evE F (.or (.cons b r)) η S1) Q := by
  rw [evE, evOr]
  · simp only [ok_bind, ok_isBl]
    congr 1
    funext x S1
    congr 1
    funext k
    congr 1
    cases k
    · simp only [Bool.false_eq_true, if_false]; rw [evE]
    · rfl
  · intro h; cases h
/-! lists -/
theorem ev_nil : Ok (evL F .nil η S) QL = QL [] S := by rw [evL, ok_pure]
theorem ev_cons {e : E} {r : L} : Ok (evL F (.cons e r) η S) QL = Ok (evE F e η S) fun x S1 => Ok (evL F r η S1) fun xs S2 => QL (x :: xs) S2 := by rw [evL]; simp only [ok_bind, ok_pure]
theorem ev_pnil : Ok (evP F .nil η S) QP = QP [] S := by rw [evP, ok_pure]
theorem ev_pcons {k v : E} {r : PL} : Ok (evP F (.cons k v r) η S) QP = Ok (evE F k η S) fun x S1 => Ok (evE F v η S1) fun y S2 => Ok (evP F r η S2) fun ps S3 => ∃ key, keyOf x = some key ∧ QP ((key, y) :: ps) S3 := by
  rw [evP]
  simp only [ok_bind]
  congr 1; funext x S1; congr 1; funext y S2; congr 1; funext ps S3
  cases keyOf x <;> simp [Ok, M.bad, M.pure]
theorem ev_onone : Ok (evO F .none η S) QO = QO none S := by rw [evO, ok_pure]
theorem ev_osome {e : E} : Ok (evO F (.some e) η S) QO = Ok (evE F e η S) fun x S1 => ∃ i, x = .int i ∧ QO (some i) S1 := by
  rw [evO]
  simp only [ok_bind]
  congr 1; funext x S1
  cases x <;> simp [Ok, M.bad, M.pure]
/-! tests -/
theorem et_cmp {o : CmpOp} {a b : E} : Ok (evT F (.cmp o a b) η S) QB = Ok (evE F a η S) fun x S1 => Ok (evE F b η S1) fun y S2 => ∃ k, cmpop o x y S2 = some k ∧ QB k S2 := by rw [evT]; simp only [ok_bind, ok_ofOpt]
theorem et_chn {o o' : CmpOp} {a b c : E} : Ok (evT F (.chn o o' a b c) η S) QB = Ok (evE F a η S) fun x S1 => Ok (evE F b η S1) fun y S2 => ∃ k, cmpop o x y S2 = some k ∧ if k = true then Ok (evE F c η S2) fun z S3 => ∃ k', cmpop o' y z S3 = some k' ∧ QB k' S3 else QB false S2 := by
  rw [evT]
  simp only [ok_bind, ok_ofOpt]
  congr 1; funext x S1; congr 1; funext y S2; congr 1; funext k; congr 1
  cases k
  · rfl
  · simp only [if_true, ok_bind, ok_ofOpt]
theorem et_not {a : E} : Ok (evT F (.not a) η S) QB = Ok (evT F a η S) fun k S1 => QB (!k) S1 := by rw [evT]; simp only [ok_bind, ok_pure]
theorem et_bl {b : Bool} : Ok (evT F (.bl b) η S) QB = QB b S := by rw [evT, ok_pure]
theorem et_var {i : Nat} : Ok (evT F (.var i) η S) QB = Ok (evE F (.var i) η S) fun d S1 => Ok (truth d S1) QB := by rw [evT, ok_bind, evE]
theorem et_call {f : Nat} {xs : L} : Ok (evT F (.call f xs) η S) QB = Ok (evE F (.call f xs) η S) fun d S1 => Ok (truth d S1) QB := by rw [evT, ok_bind, evE]
theorem et_bi {f : Bi} {xs : L} : Ok (evT F (.bi f xs) η S) QB = Ok (evE F (.bi f xs) η S) fun d S1 => Ok (truth d S1) QB := by rw [evT, ok_bind, evE]
theorem et_idx {a i : E} : Ok (evT F (.idx a i) η S) QB = Ok (evE F (.idx a i) η S) fun d S1 => Ok (truth d S1) QB := by rw [evT, ok_bind, evE]
theorem et_and1 {a : E} : Ok (evT F (.and (.cons a .nil)) η S) QB = Ok (evT F a η S) QB := by rw [evT, tsAnd]
theorem et_and2 {a b : E} {r : L} : Ok (evT F (.and (.cons a (.cons b r))) η S) QB = Ok (evT F a η S) fun k S1 => if k = true then Ok (evT F (.and (.cons b r)) η S1) QB else QB false S1 := by
  rw [evT, tsAnd]
  · simp only [ok_bind]
    congr 1; funext k S1
    cases k
    · rfl
    · simp only [if_true]; rw [evT]
  · intro h; cases h
theorem et_or1 {a : E} : Ok (evT F (.or (.cons a .nil)) η S) QB = Ok (evT F a η S) QB := by rw [evT, tsOr]
theorem et_or2 {a b : E} {r : L} : Ok (evT F (.or (.cons a (.cons b r))) η S) QB = Ok (evT F a η S) fun k S1 => if k = true then QB true S1 else Ok (evT F (.or (.cons b r)) η S1) QB := by
  rw [evT, tsOr]
  · simp only [ok_bind]
    congr 1; funext k S1
    cases k
    · simp only [Bool.false_eq_true, if_false]; rw [evT]
    · rfl
  · intro h; cases h
theorem ec_none : Ok (evC F .none η S) QB = QB true S := by rw [evC, ok_pure]
theorem ec_some {e : E} : Ok (evC F (.some e) η S) QB = Ok (evT F e η S) QB := by rw [evC]
/-! targets -/
theorem eg_name {i : Nat} {d : D} : Ok (asG F (.name i) d η S) QE = QE (η.set i (some d)) S := by rw [asG, ok_pure]
theorem eg_sub {o i : E} {d : D} : Ok (asG F (.sub o i) d η S) QE = Ok (evE F o η S) fun x S1 => Ok (evE F i η S1) fun y S2 => Ok (setix x y d S2) fun _ S3 => QE η S3 := by rw [asG]; simp only [ok_bind, ok_pure]
theorem eg_tup {gs : GL} {xs : List D} : Ok (asG F (.tup gs) (.tup xs) η S) QE = (xs.length = gs.len ∧ Ok (asGs F gs xs η S) QE) := by
  rw [asG]
  by_cases h : xs.length = gs.len
  · rw [if_pos h, ok_noErr]; simp [h]
  · rw [if_neg h]; simp [h, Ok, M.bad]
theorem eg_nil : Ok (asGs F .nil [] η S) QE = QE η S := by rw [asGs, ok_pure]
theorem eg_cons {g : G} {r : GL} {d : D} {ds : List D} : Ok (asGs F (.cons g r) (d :: ds) η S) QE = Ok (asG F g d η S) fun η' S1 => Ok (asGs F r ds η' S1) QE := by rw [asGs]; simp only [ok_bind]
/-! walked -/
theorem ei_val {e : E} : Ok (evI F (.val e) η S) QI = Ok (evE F e η S) fun x S1 => Ok (walkOf x S1) QI := by rw [evI]; simp only [ok_bind]
theorem ei_rng1 {a : E} : Ok (evI F (.rng1 a) η S) QI = Ok (evE F a η S) fun x S1 => ∃ j, x = .int j ∧ bd62 j = true ∧ QI (rngD 0 j.toNat, []) S1 := by
  rw [evI]
  simp only [ok_bind]
  congr 1; funext x S1
  cases x <;> try simp [Ok]
  rename_i j
  cases h : bd62 j <;> simp [Ok]
theorem ei_rng2 {a b : E} : Ok (evI F (.rng2 a b) η S) QI = Ok (evE F a η S) fun x S1 => Ok (evE F b η S1) fun y S2 => ∃ i j, x = .int i ∧ y = .int j ∧ bd62 i = true ∧ bd62 j = true ∧ QI (rngD i (j - i).toNat, []) S2 := by
  rw [evI]
  simp only [ok_bind]
  congr 1; funext x S1; congr 1; funext y S2
  cases x <;> cases y <;> try simp [Ok]
  rename_i i j
  cases h : bd62 i <;> cases h' : bd62 j <;> simp [Ok]
theorem ok_walk {l : Nat} {xs : List D} (h : S[l]? = some (.lst xs)) : Ok (walkOf (.loc l) S) QI = QI (xs, [(l, xs)]) S := by
  unfold walkOf
  dsimp only
  rw [h]
  rfl
theorem ok_walk_tup {xs : List D} : Ok (walkOf (.tup xs) S) QI = QI (xs, []) S := rfl
/-! statements -/
theorem es_pass : OkS (exS F .pass η S) QS = QS .nx η S := by rw [exS, oks_ok]
theorem es_brk : OkS (exS F .brk η S) QS = QS .brk η S := by rw [exS, oks_ok]
theorem es_cnt : OkS (exS F .cnt η S) QS = QS .cnt η S := by rw [exS, oks_ok]
theorem es_retN : OkS (exS F (.ret .none) η S) QS = QS (.ret .non) η S := by rw [exS, oks_ok]
theorem es_ret {e : E} : OkS (exS F (.ret (.some e)) η S) QS = Ok (evE F e η S) fun d S1 => QS (.ret d) η S1 := by rw [exS, oks_of]
theorem es_exp {e : E} : OkS (exS F (.exp e) η S) QS = Ok (evE F e η S) fun d S1 => QS .nx η S1 := by rw [exS, oks_of]
theorem es_asg {g : G} {e : E} : OkS (exS F (.asg g e) η S) QS = Ok (evE F e η S) fun d S1 => Ok (asG F g d η S1) fun η' S2 => QS .nx η' S2 := by rw [exS, oks_of]; simp only [ok_bind, id]
theorem es_par {i j : Nat} {a b : E} : OkS (exS F (.par i j a b) η S) QS = Ok (evE F a η S) fun x S1 => Ok (evE F b η S1) fun y S2 => QS .nx ((η.set i (some x)).set j (some y)) S2 := by rw [exS, oks_of]; simp only [ok_bind, ok_pure, id]
theorem es_par3 {i j k : Nat} {a b c : E} : OkS (exS F (.par3 i j k a b c) η S) QS = Ok (evE F a η S) fun x S1 => Ok (evE F b η S1) fun y S2 => Ok (evE F c η S2) fun z S3 => QS .nx (((η.set i (some x)).set j (some y)).set k (some z)) S3 := by rw [exS, oks_of]; simp only [ok_bind, ok_pure, id]
theorem es_aug {i : Nat} {o : Operator} {e : E} : OkS (exS F (.aug i o e) η S) QS = Ok (evE F (.var i) η S) fun x S1 => Ok (evE F e η S1) fun y S2 => ∃ a b, x = .int a ∧ y = .int b ∧ Ok (binop o (.int a) (.int b) S2) fun z S3 => QS .nx (η.set i (some z)) S3 := by
  rw [exS, oks_of]
  simp only [ok_bind, ok_pure, id]
  congr 1; funext x S1; congr 1; funext y S2
  cases x <;> cases y <;> simp [Ok, M.bad]
theorem es_ite {t : E} {a b : Sb} : OkS (exS F (.ite t a b) η S) QS = Ok (evT F t η S) fun k S1 => if k = true then OkS (exL F a η S1) QS else OkS (exL F b η S1) QS := by
  rw [exS]
  dsimp only
  cases h : evT F t η S with
  | ok k S1 => cases k <;> rfl
  | err e S1 => rfl
  | bad => rfl
theorem es_for {g : G} {it : I} {b : Sb} : OkS (exS F (.for g it b) η S) QS = Ok (evI F it η S) fun w S1 => OkS (forLoop w.2 (fun x η S => RS.then (RS.of η id (fun _ => .nx) (asG F g x η S)) fun η S => exL F b η S) w.1 η S1) QS := by
  rw [exS]
  dsimp only
  cases h : evI F it η S <;> rfl
theorem es_step {g : G} {b : Sb} {x : D} : OkS (RS.then (RS.of η id (fun _ => .nx) (asG F g x η S)) fun η S => exL F b η S) QS = Ok (asG F g x η S) fun η' S1 => OkS (exL F b η' S1) QS := by
  rw [oks_then, oks_of]
  rfl
theorem es_whl {t : E} {b : Sb} : OkS (exS F (.whl t b) η S) QS = OkS (whlLoop (evT F t) (fun η S => exL F b η S) F.fuel η S) QS := by rw [exS]
theorem el_nil : OkS (exL F .nil η S) QS = QS .nx η S := by rw [exL, oks_ok]
theorem el_cons {s : Sm} {r : Sb} : OkS (exL F (.cons s r) η S) QS = OkS (exS F s η S) (fun f η' S1 => match f with
    | .nx => OkS (exL F r η' S1) QS
    | f => QS f η' S1) := by
  rw [exL, oks_then]
  all_goals congr 1
theorem seq_ok {s : Sm} {r : Sb} {Q1 : Fl → Env → Store → Prop} (h1 : OkS (exS F s η S) Q1) (h2 : ∀ f η' S', Q1 f η' S' → match f with
    | .nx => OkS (exL F r η' S') QS
    | f => QS f η' S') : OkS (exL F (.cons s r) η S) QS := by
  rw [el_cons]
  exact h1.mono h2
/-- the first statement falls through -/
theorem seq_nx {s : Sm} {r : Sb} {P : Env → Store → Prop} (h1 : OkS (exS F s η S) (fun f η' S' => f = .nx ∧ P η' S')) (h2 : ∀ η' S', P η' S' → OkS (exL F r η' S') QS) : OkS (exL F (.cons s r) η S) QS :=
  seq_ok h1 fun f η' S' ⟨e, p⟩ => by subst e; exact h2 η' S' p
end
/-! ### operations -/
section
variable {S : Store} {Q : D → Store → Prop} {QU : Unit → Store → Prop}
theorem ok_addI {i j : Int} : Ok (binop .Add (.int i) (.int j) S) Q = Q (.int (i + j)) S := rfl
theorem ok_subI {i j : Int} : Ok (binop .Sub (.int i) (.int j) S) Q = Q (.int (i - j)) S := rfl
theorem ok_mulI {i j : Int} (h : mulOk i j = true) : Ok (binop .Mult (.int i) (.int j) S) Q = Q (.int (i * j)) S := by
  unfold binop
  dsimp only
  unfold mulD
  dsimp only
  rw [if_pos h]; rfl
theorem ok_modI {i j : Int} (h : j ≠ 0) : Ok (binop .Mod (.int i) (.int j) S) Q = Q (.int (i.fmod j)) S := by
  unfold binop
  dsimp only
  unfold modD
  dsimp only
  rw [if_pos h]; rfl
theorem ok_fdivI {i j : Int} (h : j ≠ 0) (h2 : j.natAbs < 1073741824) : Ok (binop .FloorDiv (.int i) (.int j) S) Q = Q (.int (i.fdiv j)) S := by
  unfold binop
  dsimp only
  unfold fdivD
  dsimp only
  rw [if_pos ⟨h, h2⟩]; rfl
theorem ok_powI {i j : Int} (h : 0 ≤ j ∧ j ≤ 1000000 ∧ i.natAbs < 2 ^ 64) : Ok (binop .Pow (.int i) (.int j) S) Q = Q (.int (i ^ j.toNat)) S := by
  unfold binop
  dsimp only
  unfold powD
  dsimp only
  rw [if_pos h]; rfl
theorem ok_addT {xs ys : List D} (h : xs.length + ys.length ≤ sizeLine) : Ok (binop .Add (.tup xs) (.tup ys) S) Q = Q (.tup (xs ++ ys)) S := by
  unfold binop
  dsimp only
  unfold addD
  dsimp only
  rw [if_pos h]; rfl
theorem ok_addL {l k : Nat} {xs ys : List D} (h1 : S[l]? = some (.lst xs)) (h2 : S[k]? = some (.lst ys)) (h : xs.length + ys.length ≤ sizeLine) : Ok (binop .Add (.loc l) (.loc k) S) Q = Q (.loc S.length) (S ++ [.lst (xs ++ ys)]) := by
  unfold binop
  dsimp only
  unfold addD
  dsimp only
  rw [h1, h2]
  dsimp only
  rw [if_pos h]; rfl
theorem ok_getT {xs : List D} {j : Int} {d : D} (h : L2.atI xs j = some d) : Ok (getix (.tup xs) (.int j) S) Q = Q d S := by
  unfold getix
  dsimp only
  rw [h]; rfl
theorem ok_getL {l : Nat} {xs : List D} {j : Int} {d : D} (hl : S[l]? = some (.lst xs)) (h : L2.atI xs j = some d) : Ok (getix (.loc l) (.int j) S) Q = Q d S := by
  unfold getix
  dsimp only
  rw [hl]
  dsimp only
  rw [h]; rfl
theorem ok_getS {s : Str} {j : Int} {c : Nat} (h : s.length ≤ sizeLine) (hc : L2.atI s.cps.toList j = some c) : Ok (getix (.str s) (.int j) S) Q = Q (.str ⟨#[c]⟩) S := by
  unfold getix
  dsimp only
  rw [if_pos h, hc]; rfl
theorem ok_getD {l : Nat} {kvs : List (L2.Key × D)} {k : D} {key : L2.Key} {d : D} (hl : S[l]? = some (.dct kvs)) (hk : keyOf k = some key) (h : valD kvs key = some d) : Ok (getix (.loc l) k S) Q = Q d S := by
  unfold getix
  dsimp only
  rw [hl]
  dsimp only
  rw [hk]
  dsimp only
  rw [h]; rfl
theorem ok_setD {l : Nat} {kvs : List (L2.Key × D)} {k v : D} {key : L2.Key} (hl : S[l]? = some (.dct kvs)) (hk : keyOf k = some key) (h : kvs.length < sizeLine) : Ok (setix (.loc l) k v S) QU = QU () (S.set l (.dct (putKey key v kvs))) := by
  unfold setix
  dsimp only
  rw [hl]
  dsimp only
  rw [hk]
  dsimp only
  rw [if_pos h]; rfl
theorem ok_intI {i : Int} : Ok (bicall .int [.int i] S) Q = Q (.int i) S := rfl
theorem ok_intB {b : Bool} : Ok (bicall .int [.bl b] S) Q = Q (.int (b2i b)) S := rfl
theorem ok_lenL {l : Nat} {xs : List D} (h : S[l]? = some (.lst xs)) : Ok (bicall .len [.loc l] S) Q = Q (.int xs.length) S := by
  unfold bicall
  dsimp only
  unfold lenC
  dsimp only
  rw [h]; rfl
theorem ok_lenT {xs : List D} : Ok (bicall .len [.tup xs] S) Q = Q (.int xs.length) S := rfl
theorem ok_lenD {l : Nat} {xs : List (L2.Key × D)} (h : S[l]? = some (.dct xs)) : Ok (bicall .len [.loc l] S) Q = Q (.int xs.length) S := by
  unfold bicall
  dsimp only
  unfold lenC
  dsimp only
  rw [h]; rfl
theorem ok_list {d : D} {xs : List D} (h : seqOf S d = some xs) : Ok (bicall .list [d] S) Q = Q (.loc S.length) (S ++ [.lst xs]) := by
  unfold bicall
  dsimp only
  unfold listC
  dsimp only
  rw [h]; rfl
theorem ok_tupleL {l : Nat} {xs : List D} (h : S[l]? = some (.lst xs)) : Ok (bicall .tuple [.loc l] S) Q = Q (.tup xs) S := by
  unfold bicall
  dsimp only
  unfold tupleC
  dsimp only
  rw [h]; rfl
theorem ok_tupleT {xs : List D} : Ok (bicall .tuple [.tup xs] S) Q = Q (.tup xs) S := rfl
theorem ok_repr {d : D} {p : PyData} (h : deep S DEEP d = some p) (f : Fine p) : Ok (bicall .repr [d] S) Q = Q (.str p.shown) S := by
  unfold bicall
  dsimp only
  rw [repr_ok h f]; rfl
theorem ok_append {l : Nat} {xs : List D} {d : D} (h : S[l]? = some (.lst xs)) (hl : xs.length < sizeLine) : Ok (mtcall .append (.loc l) [d] S) Q = Q .non (S.set l (.lst (xs ++ [d]))) := by
  unfold mtcall
  dsimp only
  unfold appendC
  dsimp only
  rw [h]
  dsimp only
  rw [if_pos hl]; rfl
theorem ok_extendL {l k : Nat} {xs ys : List D} (h : S[l]? = some (.lst xs)) (h2 : S[k]? = some (.lst ys)) (hl : xs.length + ys.length ≤ sizeLine) : Ok (mtcall .extend (.loc l) [.loc k] S) Q = Q .non (S.set l (.lst (xs ++ ys))) := by
  unfold mtcall
  dsimp only
  unfold extendC
  dsimp only
  rw [h]
  dsimp only
  rw [h2]
  dsimp only
  rw [if_pos hl]; rfl
theorem ok_extendT {l : Nat} {xs ys : List D} (h : S[l]? = some (.lst xs)) (hl : xs.length + ys.length ≤ sizeLine) : Ok (mtcall .extend (.loc l) [.tup ys] S) Q = Q .non (S.set l (.lst (xs ++ ys))) := by
  unfold mtcall
  dsimp only
  unfold extendC
  dsimp only
  rw [h]
  dsimp only
  rw [if_pos hl]; rfl
theorem ok_pop {l : Nat} {xs : List D} {d : D} (h : S[l]? = some (.lst (xs ++ [d]))) : Ok (mtcall .pop (.loc l) [] S) Q = Q d (S.set l (.lst xs)) := by
  unfold mtcall
  dsimp only
  unfold popC
  dsimp only
  rw [h]
  dsimp only
  rw [show (xs ++ [d])[(xs ++ [d]).length - 1]? = some d from by simp]
  dsimp only
  rw [List.dropLast_concat]
  rfl
theorem recv_lst {l : Nat} {xs : List D} (h : S[l]? = some (.lst xs)) : recvOk .append (.loc l) S = true ∧ recvOk .extend (.loc l) S = true ∧ recvOk .pop (.loc l) S = true := by
  refine ⟨?_, ?_, ?_⟩ <;> (unfold recvOk; dsimp only; rw [h])
theorem recv_dct {l : Nat} {xs : List (L2.Key × D)} (h : S[l]? = some (.dct xs)) : recvOk .get (.loc l) S = true := by
  unfold recvOk; dsimp only; rw [h]
theorem recv_str {s : Str} : recvOk .join (.str s) S = true := rfl
theorem ok_reversed {l : Nat} {xs : List D} (h : S[l]? = some (.lst xs)) : Ok (reversed (.loc l) S) Q = Q (.loc S.length) (S ++ [.lst xs.reverse]) := by
  unfold reversed
  dsimp only
  rw [h]; rfl
theorem ok_sliceT {xs : List D} {lo hi : Option Int} : Ok (slice (.tup xs) lo hi S) Q = Q (.tup (cutD xs lo hi)) S := rfl
theorem ok_sliceF {xs : List D} {lo hi : Option Int} : Ok (slice (.fzl xs) lo hi S) Q = Q (.loc S.length) (S ++ [.lst (cutD xs lo hi)]) := rfl
theorem ok_sliceL {l : Nat} {xs : List D} {lo hi : Option Int} (h : S[l]? = some (.lst xs)) : Ok (slice (.loc l) lo hi S) Q = Q (.loc S.length) (S ++ [.lst (cutD xs lo hi)]) := by
  unfold slice
  dsimp only
  rw [h]; rfl
end
end Fw
/-! Fw18: small facts for the laws' own code -/
namespace Fw
open PySem
theorem two64 : (2 : Int) ^ 64 = 18446744073709551616 := by decide
theorem mulOk_l {i j : Int} (h1 : -18446744073709551616 < i) (h2 : i < 18446744073709551616) : mulOk i j = true := by
  unfold mulOk
  rw [two64]
  rw [decide_eq_true ⟨h1, h2⟩]; rfl
theorem mulOk_r {i j : Int} (h1 : -18446744073709551616 < j) (h2 : j < 18446744073709551616) : mulOk i j = true := by
  unfold mulOk
  rw [two64]
  rw [decide_eq_true (p := -18446744073709551616 < j ∧ j < 18446744073709551616) ⟨h1, h2⟩, Bool.or_true]
theorem fmod_nat {x m : Int} (h : 1 ≤ m) : ∃ k : Nat, x.fmod m = (k : Int) ∧ (k : Int) < m := by
  have h1 : 0 ≤ x.fmod m := Int.fmod_nonneg_of_pos x (by omega)
  have h2 : x.fmod m < m := Int.fmod_lt_of_pos x (by omega)
  exact ⟨(x.fmod m).toNat, by omega, by omega⟩
theorem lay_ints : ∀ ns : List Int, PyData.canLayAll0 (ns.map PyData.int) = true
  | [] => rfl
  | n :: ns => by simp only [List.map_cons, PyData.canLayAll0, PyData.canLay0, lay_ints ns, Bool.and_self]
theorem depth_ints : ∀ ns : List Int, PyData.depthAll (ns.map PyData.int) = 0
  | [] => rfl
  | n :: ns => by simp only [List.map_cons, PyData.depthAll, PyData.depth, depth_ints ns, Nat.max_self]
theorem shaped_ints (ns : List Int) : SeqAt.shaped (.list (ns.map PyData.int)) = true := by
  unfold SeqAt.shaped
  simp only [PyData.canLay0, PyData.depth, lay_ints, depth_ints]
  rfl
theorem pds_ints : ∀ ns : List Int, PDs (ns.map D.int) (ns.map PyData.int)
  | [] => .nil
  | n :: ns => .cons pd_int (pds_ints ns)
theorem eqv_nil {ps : List PyData} : PyData.eqv (.list ps) (.list []) = ps.isEmpty := by
  cases ps <;> simp [PyData.eqv, PyData.eqvAll]
theorem eq_nil_ints {S : Store} {l k : Nat} {ns : List Int} (h : S[l]? = some (.lst (ns.map D.int))) (hk : S[k]? = some (.lst [])) : eqD (.loc l) (.loc k) S = some ns.isEmpty := by
  unfold eqD
  have e1 : deep S DEEP (.loc l) = some (.list (ns.map .int)) := deep_list (n := 59) h (pds_ints ns) (by rw [depth_ints]; decide)
  have e2 : deep S DEEP (.loc k) = some (.list []) := deep_list (n := 59) hk .nil (by decide)
  rw [dataOf_ok e1 (shaped_ints ns), dataOf_ok e2 rfl]
  simp only [eqv_nil]
  cases ns <;> rfl
theorem cmpNe {S : Store} {a b : D} {k : Bool} (h : eqD a b S = some k) : cmpop .NotEq a b S = some (!k) := by
  show (eqD a b S).map (!·) = _
  rw [h]; rfl
theorem cmpEq {S : Store} {a b : D} {k : Bool} (h : eqD a b S = some k) : cmpop .Eq a b S = some k := h
theorem cmpIn {S : Store} {a b : D} {k : Bool} (h : isIn a b S = some k) : cmpop .In a b S = some k := h
theorem cmpNotIn {S : Store} {a b : D} {k : Bool} (h : isIn a b S = some k) : cmpop .NotIn a b S = some (!k) := by
  show (isIn a b S).map (!·) = _
  rw [h]; rfl
theorem cmpGe {S : Store} {i j : Int} : cmpop .GtE (.int i) (.int j) S = some (decide (j ≤ i)) := rfl
theorem cmpGt {S : Store} {i j : Int} : cmpop .Gt (.int i) (.int j) S = some (decide (j < i)) := rfl
theorem cmpLe {S : Store} {i j : Int} : cmpop .LtE (.int i) (.int j) S = some (decide (i ≤ j)) := rfl
theorem cmpLt {S : Store} {i j : Int} : cmpop .Lt (.int i) (.int j) S = some (decide (i < j)) := rfl
theorem if_some {p : Bool} {o : Option Bool} {R : Bool → Prop} (h : o = some p) (q : R p) : ∃ k, o = some k ∧ R k := ⟨p, h, q⟩
theorem atI_nat {α : Type} {xs : List α} {j : Nat} {a : α} (h : xs[j]? = some a) : L2.atI xs (j : Int) = some a := by
  have hj := (List.getElem?_eq_some_iff.mp h).1
  unfold L2.atI L2.ixN
  rw [if_pos (by omega), if_pos (by omega)]
  simpa using h
theorem atI0 {α : Type} {a : α} {xs : List α} : L2.atI (a :: xs) 0 = some a := atI_nat (j := 0) rfl
theorem atI1 {α : Type} {a b : α} {xs : List α} : L2.atI (a :: b :: xs) 1 = some b := atI_nat (j := 1) rfl
theorem atI2 {α : Type} {a b c : α} {xs : List α} : L2.atI (a :: b :: c :: xs) 2 = some c := atI_nat (j := 2) rfl
theorem atI3 {α : Type} {a b c d : α} {xs : List α} : L2.atI (a :: b :: c :: d :: xs) 3 = some d := atI_nat (j := 3) rfl
theorem atI_last {α : Type} {xs : List α} {a : α} : L2.atI (xs ++ [a]) (-1) = some a := by
  unfold L2.atI L2.ixN
  rw [if_neg (by omega), if_pos (by simp; omega)]
  simp
  have : (-1 + ((xs.length : Int) + 1)).toNat = xs.length := by omega
  rw [this]; simp
theorem snoc_of {α : Type} {xs : List α} (h : xs.isEmpty = false) : ∃ ys y, xs = ys ++ [y] := by
  rcases List.eq_nil_or_concat xs with e | ⟨ys, y, e⟩
  · subst e; cases h
  · exact ⟨ys, y, by simpa using e⟩
theorem get_lit {α : Type} {xs : List α} {k : Nat} (h : k < xs.length) : ∃ a, xs[k]? = some a ∧ a ∈ xs := ⟨xs[k], List.getElem?_eq_getElem h, List.getElem_mem h⟩
theorem allStrs_map : ∀ ss : List Str, allStrs (ss.map D.str) = some ss
  | [] => rfl
  | s :: ss => by simp [allStrs, allStrs_map ss]
theorem strKeys_map (v : Str → D) : ∀ ss : List Str, strKeys (ss.map fun s => (.inr s, v s)) = some ss
  | [] => rfl
  | s :: ss => by simp [strKeys, strKeys_map v ss]
theorem mem_addS {ks : List Str} {k s : Str} : s ∈ addS ks k ↔ s ∈ ks ∨ s = k := by
  unfold addS
  split
  · rename_i h
    constructor
    · exact .inl
    · rintro (q | rfl)
      · exact q
      · exact h
  · simp
theorem nodup_addS {ks : List Str} {k : Str} (h : ks.Nodup) : (addS ks k).Nodup := by
  unfold addS
  split
  · exact h
  · rename_i hk
    exact (List.perm_append_singleton k ks).nodup_iff.mpr (List.nodup_cons.mpr ⟨hk, h⟩)
theorem foldl_addS {ss ks : List Str} (h : ks.Nodup) : (ss.foldl addS ks).Nodup ∧ ∀ s, s ∈ ss.foldl addS ks ↔ s ∈ ks ∨ s ∈ ss := by
  induction ss generalizing ks with
  | nil => exact ⟨h, fun s => by simp⟩
  | cons k ss ih =>
    obtain ⟨h1, h2⟩ := ih (nodup_addS (k := k) h)
    refine ⟨h1, fun s => ?_⟩
    rw [List.foldl_cons, h2 s, mem_addS, List.mem_cons, or_assoc]
theorem nodup_dedup (ss : List Str) : (dedup ss).Nodup := (foldl_addS List.nodup_nil).1
theorem mem_dedup {ss : List Str} {s : Str} : s ∈ dedup ss ↔ s ∈ ss := by
  have := (foldl_addS (ss := ss) List.nodup_nil).2 s
  unfold dedup
  simpa using this
theorem dedup_len (ss : List Str) : (dedup ss).length ≤ ss.length := by
  have : ∀ (l ks : List Str), (l.foldl addS ks).length ≤ ks.length + l.length := by
    intro l
    induction l with
    | nil => intro ks; simp
    | cons k l ih =>
      intro ks
      have := ih (addS ks k)
      have h2 : (addS ks k).length ≤ ks.length + 1 := by unfold addS; split <;> simp
      rw [List.foldl_cons, List.length_cons]
      omega
  unfold dedup
  simpa using this ss []
/-- the same texts, sorted -/
theorem sort_same {a b : List Str} (ha : a.Nodup) (hb : b.Nodup) (h : ∀ s, s ∈ a ↔ s ∈ b) : sortStr a = sortStr b := by
  have p : a.Perm b := (List.perm_ext_iff_of_nodup ha hb).mpr h
  exact rises_unique ((sortStr_perm a).trans (p.trans (sortStr_perm b).symm)) (sortStr_rises a) (sortStr_rises b)
theorem ok_sortedS {S : Store} {Q : D → Store → Prop} {l : Nat} {xs : List D} {ss : List Str} (h : S[l]? = some (.lst xs)) (hs : allStrs xs = some ss) (h64 : ss.length < 64) : Ok (bicall .sorted [.loc l] S) Q = Q (.loc S.length) (S ++ [.lst ((sortStr ss).map .str)]) := by
  unfold bicall
  dsimp only
  unfold sortedC
  dsimp only
  rw [h]
  dsimp only
  rw [hs]
  dsimp only
  rw [if_pos h64]; rfl
theorem ok_sortedD {S : Store} {Q : D → Store → Prop} {l : Nat} {kvs : List (L2.Key × D)} {ss : List Str} (h : S[l]? = some (.dct kvs)) (hs : strKeys kvs = some ss) (h64 : ss.length < 64) : Ok (bicall .sorted [.loc l] S) Q = Q (.loc S.length) (S ++ [.lst ((sortStr ss).map .str)]) := by
  unfold bicall
  dsimp only
  unfold sortedC
  dsimp only
  rw [h]
  dsimp only
  rw [hs]
  dsimp only
  rw [if_pos h64]; rfl
theorem gOk_nil {S : Store} : gOk [] S = true := rfl
theorem gOk_one {S : Store} {l : Nat} {xs : List D} (h : S[l]? = some (.lst xs)) : gOk [(l, xs)] S = true := by
  unfold gOk
  simp [h]
/-- all but two cells stays -/
def Frm (d t : Nat) (S S' : Store) : Prop := ∀ (l : Nat) (c : Cell), S[l]? = some c → l ≠ d → l ≠ t → S'[l]? = some c
theorem Frm.refl {d t : Nat} {S : Store} : Frm d t S S := fun _ _ h _ _ => h
theorem Frm.trans {d t : Nat} {S S1 S2 : Store} (a : Frm d t S S1) (b : Frm d t S1 S2) : Frm d t S S2 := fun l c h n m => b l c (a l c h n m) n m
theorem Inc.frm {d t : Nat} {S S' : Store} (h : Inc S S') : Frm d t S S' := fun l c q _ _ => h l c q
theorem Frm.app {d t : Nat} {S : Store} (T : Store) : Frm d t S (S ++ T) := (Inc.app T).frm
theorem Frm.set1 {d t : Nat} {S : Store} {c : Cell} : Frm d t S (S.set d c) := fun l c' h n _ => by rw [get_set_ne n]; exact h
theorem Frm.set2 {d t : Nat} {S : Store} {c : Cell} : Frm d t S (S.set t c) := fun l c' h _ n => by rw [get_set_ne n]; exact h
theorem strOk_append {a b : Str} (ha : PyData.strOk a = true) (hb : PyData.strOk b = true) : PyData.strOk (a ++ b) = true := by
  unfold PyData.strOk at *
  show (a.cps ++ b.cps).all _ = true
  rw [Array.all_append, ha, hb]; rfl
theorem length_app (a b : Str) : (a ++ b).length = a.length + b.length := by
  show (a.cps ++ b.cps).size = _
  rw [Array.size_append]; rfl
theorem join1 : ∀ ss : List Str, (∀ s ∈ ss, PyData.strOk s = true ∧ s.length = 1) → PyData.strOk (Str.join "" ss) = true ∧ (Str.join "" ss).length = ss.length
  | [], _ => ⟨by decide +kernel, by decide +kernel⟩
  | [x], h => by
    obtain ⟨h1, h2⟩ := h x (List.mem_cons_self ..)
    exact ⟨h1, h2⟩
  | x :: y :: r, h => by
    obtain ⟨h1, h2⟩ := h x (List.mem_cons_self ..)
    obtain ⟨h3, h4⟩ := join1 (y :: r) fun s hs => h s (List.mem_cons_of_mem _ hs)
    have e : Str.join "" (x :: y :: r) = x ++ "" ++ Str.join "" (y :: r) := rfl
    have hem : PyData.strOk "" = true := by decide +kernel
    have hl0 : ("" : Str).length = 0 := by decide +kernel
    rw [e]
    refine ⟨strOk_append (strOk_append h1 hem) h3, ?_⟩
    rw [length_app, length_app, h2, h4, hl0, List.length_cons, List.length_cons, List.length_cons]
    omega
theorem ok_join {S : Store} {Q : D → Store → Prop} {l : Nat} {s : Str} {ss : List Str} (h : S[l]? = some (.lst (ss.map .str))) (hl : (ss.map (·.length)).sum + ss.length * s.length ≤ 16777216) : Ok (mtcall .join (.str s) [.loc l] S) Q = Q (.str (Str.join s ss)) S := by
  unfold mtcall
  dsimp only
  unfold joinC
  dsimp only
  rw [h]
  dsimp only
  rw [allStrs_map]
  dsimp only
  rw [if_pos hl]; rfl
theorem ok_get2 {S : Store} {Q : D → Store → Prop} {l : Nat} {kvs : List (L2.Key × D)} {k d : D} {key : L2.Key} (h : S[l]? = some (.dct kvs)) (hk : keyOf k = some key) : Ok (mtcall .get (.loc l) [k, d] S) Q = Q ((valD kvs key).getD d) S := by
  unfold mtcall
  dsimp only
  unfold getC
  dsimp only
  rw [h]
  dsimp only
  rw [hk]
  rfl
theorem ok_get1 {S : Store} {Q : D → Store → Prop} {l : Nat} {kvs : List (L2.Key × D)} {k : D} {key : L2.Key} (h : S[l]? = some (.dct kvs)) (hk : keyOf k = some key) : Ok (mtcall .get (.loc l) [k] S) Q = Q ((valD kvs key).getD .non) S := by
  unfold mtcall
  dsimp only
  unfold getC
  dsimp only
  rw [h]
  dsimp only
  rw [hk]
  rfl
/-- all but some cells stays -/
def FrmX (X : List Nat) (S S' : Store) : Prop := ∀ (l : Nat) (c : Cell), S[l]? = some c → l ∉ X → S'[l]? = some c
theorem FrmX.refl {X : List Nat} {S : Store} : FrmX X S S := fun _ _ h _ => h
theorem FrmX.trans {X : List Nat} {S S1 S2 : Store} (a : FrmX X S S1) (b : FrmX X S1 S2) : FrmX X S S2 := fun l c h n => b l c (a l c h n) n
theorem Inc.x {X : List Nat} {S S' : Store} (h : Inc S S') : FrmX X S S' := fun l c q _ => h l c q
theorem Frm.x {X : List Nat} {d t : Nat} {S S' : Store} (h : Frm d t S S') (hd : d ∈ X) (ht : t ∈ X) : FrmX X S S' := fun l c q n => h l c q (fun e => n (e ▸ hd)) fun e => n (e ▸ ht)
theorem FrmX.app {X : List Nat} {S : Store} (T : Store) : FrmX X S (S ++ T) := (Inc.app T).x
theorem FrmX.set {X : List Nat} {S : Store} {l : Nat} {c : Cell} (h : l ∈ X) : FrmX X S (S.set l c) := fun k c' q n => by
  have e : k ≠ l := fun e => n (by rw [e]; exact h)
  rw [get_set_ne e]; exact q
theorem rngD_get {lo : Int} {n i : Nat} {x : D} (h : (rngD lo n)[i]? = some x) : x = .int (lo + (i : Nat)) ∧ i < n := by
  unfold rngD at h
  rw [List.getElem?_map] at h
  obtain ⟨j, hj, rfl⟩ := Option.map_eq_some_iff.mp h
  have hi : i < n := by
    have := (List.getElem?_eq_some_iff.mp hj).1
    simpa using this
  rw [List.getElem?_range hi] at hj
  cases hj
  exact ⟨rfl, hi⟩
theorem rngD_len {lo : Int} {n : Nat} : (rngD lo n).length = n := by simp [rngD]
theorem bd62_nat {k : Nat} (h : k < 4611686018427387904) : bd62 (k : Int) = true := by
  unfold bd62
  have : (2 : Int) ^ 62 = 4611686018427387904 := by decide
  rw [this]
  exact decide_eq_true ⟨by omega, by omega⟩
end Fw
/-! FwT: what is shown is a text of signs -/
namespace Fw
open PySem
theorem strOk_iff {s : Str} : PyData.strOk s = true ↔ ∀ c ∈ s.cps.toList, c < 0x110000 := by
  unfold PyData.strOk
  rw [← Array.all_toList, List.all_eq_true]
  simp
theorem char_lt (c : Char) : c.toNat < 0x110000 := by
  have h := c.valid
  have : c.toNat = c.val.toNat := rfl
  unfold UInt32.isValidChar Nat.isValidChar at h
  omega
theorem strOk_lit (s : String) : PyData.strOk (Str.ofString s) = true := by
  rw [strOk_iff, Str.ofString_eq_toList]
  intro c hc
  simp only [List.mem_map] at hc
  obtain ⟨x, _, rfl⟩ := hc
  exact char_lt x
theorem reprChar_lt {q c x : Nat} (hq : q < 0x110000) (hc : c < 0x110000) (h : x ∈ Builtin.Str.reprChar q c) : x < 0x110000 := by
  have hex : ∀ w, x ∈ List.replicate (w - ((Nat.toDigits 16 c).map Char.toNat).length) 48 ++ (Nat.toDigits 16 c).map Char.toNat → x < 0x110000 := fun w hx => by
    rcases List.mem_append.mp hx with h | h
    · have := (List.mem_replicate.mp h).2; omega
    · obtain ⟨y, _, rfl⟩ := List.mem_map.mp h
      exact char_lt y
  unfold Builtin.Str.reprChar at h
  dsimp only at h
  split at h
  · simp at h; omega
  split at h
  · simp at h; omega
  split at h
  · simp at h; omega
  split at h
  · simp at h; omega
  split at h
  · simp at h; omega
  split at h
  · rcases List.mem_append.mp h with h | h
    · simp at h; omega
    · exact hex _ h
  split at h
  · rcases List.mem_append.mp h with h | h
    · simp at h; omega
    · exact hex _ h
  · rcases List.mem_append.mp h with h | h
    · simp at h; omega
    · exact hex _ h
theorem fold_lt {q : Nat} (hq : q < 0x110000) : ∀ (l : List Nat) (a : Array Nat), (∀ c ∈ l, c < 0x110000) → (∀ c ∈ a.toList, c < 0x110000) → ∀ c ∈ (l.foldl (fun out c => out ++ (Builtin.Str.reprChar q c).toArray) a).toList, c < 0x110000
  | [], a, _, ha => ha
  | x :: l, a, hl, ha => by
    rw [List.foldl_cons]
    refine fold_lt hq l _ (fun c hc => hl c (List.mem_cons_of_mem _ hc)) fun c hc => ?_
    rw [Array.toList_append] at hc
    rcases List.mem_append.mp hc with h | h
    · exact ha c h
    · exact reprChar_lt hq (hl x (List.mem_cons_self ..)) h
theorem quote_lt (x : Str) : reprQuote x < 0x110000 := by
  unfold reprQuote
  split <;> decide
theorem strOk_reprText {x : Str} (h : PyData.strOk x = true) : PyData.strOk (reprText x) = true := by
  rw [strOk_iff] at h ⊢
  intro c hc
  unfold reprText at hc
  rw [← Array.foldl_toList] at hc
  rw [Array.toList_push] at hc
  rcases List.mem_append.mp hc with hc | hc
  · refine fold_lt (quote_lt x) x.cps.toList #[reprQuote x] h (fun c hc => ?_) c hc
    have : c = reprQuote x := by simpa using hc
    rw [this]; exact quote_lt x
  · rw [List.mem_singleton.mp hc]
    exact quote_lt x
theorem strOk_join {s : Str} (hs : PyData.strOk s = true) : ∀ ts : List Str, (∀ t ∈ ts, PyData.strOk t = true) → PyData.strOk (Str.join s ts) = true
  | [], _ => by show PyData.strOk Str.empty = true; decide +kernel
  | [x], h => h x (List.mem_cons_self ..)
  | x :: y :: r, h => strOk_append (strOk_append (h x (List.mem_cons_self ..)) hs) (strOk_join hs (y :: r) fun t ht => h t (List.mem_cons_of_mem _ ht))
mutual
theorem strOk_shown : ∀ {p : PyData}, nice p = true → PyData.strOk p.shown = true
  | .none, _ => by rw [PyData.shown_none]; exact strOk_lit _
  | .bool b, _ => by rw [PyData.shown_bool]; cases b <;> exact strOk_lit _
  | .int i, _ => by rw [PyData.shown_int]; exact strOk_lit _
  | .str x, h => by rw [PyData.shown_str]; exact strOk_reprText (by simpa only [nice] using h)
  | .list xs, h => by
    rw [PyData.shown_list]
    exact strOk_append (strOk_append (strOk_lit _) (strOk_join (strOk_lit _) _ (strOk_shownAll (by simpa only [nice] using h)))) (strOk_lit _)
  | .tuple xs, h => by
    rw [PyData.shown_tuple]
    exact strOk_append (strOk_append (strOk_lit _) (strOk_join (strOk_lit _) _ (strOk_shownAll (by simpa only [nice] using h)))) (strOk_lit _)
  | .dict _, h => by simp [nice] at h
theorem strOk_shownAll : ∀ {xs : List PyData}, niceAll xs = true → ∀ t ∈ PyData.shownAll xs, PyData.strOk t = true
  | [], _, t, ht => by rw [PyData.shownAll_nil] at ht; cases ht
  | x :: xs, h, t, ht => by
    simp only [niceAll, Bool.and_eq_true] at h
    rw [PyData.shownAll_cons] at ht
    rcases List.mem_cons.mp ht with rfl | ht
    · exact strOk_shown h.1
    · exact strOk_shownAll h.2 t ht
end
theorem eq_shown {S : Store} {p : PyData} (h : Fine p) : eqD (.str p.shown) (.str p.shown) S = some true := by
  rw [eq_str (strOk_shown h.nice) (strOk_shown h.nice)]
  simp
end Fw
namespace Law
open PySem PySem.Spec PyProof.Rows L2 Fw
/-- functions_of ['term'] -/
def b0 : Sb := (.cons (.ret (.some (.ife (.cmp .In (.idx (.var 0) (.int 0)) (.tup (.cons (.str "call") (.cons (.str "part") .nil)))) (.idx (.var 0) (.int 2)) (.tup .nil)))) .nil)
/-- tasks_of ['term'] -/
def b1 : Sb := (.cons (.ite (.cmp .In (.idx (.var 0) (.int 0)) (.tup (.cons (.str "call") (.cons (.str "part") .nil)))) (.cons (.ret (.some (.idx (.var 0) (.int 3)))) .nil) .nil) (.cons (.ite (.cmp .In (.idx (.var 0) (.int 0)) (.tup (.cons (.str "do") (.cons (.str "test") .nil)))) (.cons (.ret (.some (.slc (.var 0) (.some (.int 2)) .none))) .nil) .nil) (.cons (.ret (.some (.ife (.cmp .Eq (.idx (.var 0) (.int 0)) (.str "pick")) (.slc (.var 0) (.some (.int 1)) .none) (.tup .nil)))) .nil)))
/-- parts_of ['term'] -/
def b2 : Sb := (.cons (.ret (.some (.bin .Add (.call 0 (.cons (.var 0) .nil)) (.call 1 (.cons (.var 0) .nil))))) .nil)
/-- part_at ['term', 'way', 'number', 'parts'] -/
def b3 : Sb := (.cons (.for (.name 2) (.val (.var 1)) (.cons (.asg (.name 3) (.call 2 (.cons (.var 0) .nil))) (.cons (.ite (.not (.chn .LtE .Lt (.int 0) (.var 2) (.bi .len (.cons (.var 3) .nil)))) (.cons (.ret (.some .non)) .nil) .nil) (.cons (.asg (.name 0) (.idx (.var 3) (.var 2))) .nil)))) (.cons (.ret (.some (.var 0))) .nil))
/-- terms_in ['term', 'found', 'at'] -/
def b4 : Sb := (.cons (.asg (.name 1) (.lst (.cons (.var 0) .nil))) (.cons (.asg (.name 2) (.int 0)) (.cons (.whl (.cmp .Lt (.var 2) (.bi .len (.cons (.var 1) .nil))) (.cons (.exp (.mth .extend (.var 1) (.cons (.call 2 (.cons (.idx (.var 1) (.var 2)) .nil)) .nil))) (.cons (.aug 2 .Add (.int 1)) .nil))) (.cons (.ret (.some (.var 1))) .nil))))
/-- size_of ['term'] -/
def b5 : Sb := (.cons (.ret (.some (.bi .len (.cons (.call 4 (.cons (.var 0) .nil)) .nil)))) .nil)
/-- names_in ['term', 'one'] -/
def b6 : Sb := (.cons (.ret (.some (.bi .tuple (.cons (.ssc (.idx (.var 1) (.int 1)) (.name 1) (.val (.call 4 (.cons (.var 0) .nil))) (.some (.cmp .In (.idx (.var 1) (.int 0)) (.tup (.cons (.str "call") (.cons (.str "given") (.cons (.str "part") .nil)))))) [1]) .nil)))) .nil)
/-- _law_well ['_law_script', '_law_told', '_law_blend', '_law_number'] -/
def b7 : Sb := (.cons (.par 1 2 (.bi .list (.cons (.slc (.var 0) .none (.some (.int 63))) .nil)) (.int 52433)) (.cons (.for (.name 3) (.val (.var 1)) (.cons (.asg (.name 2) (.bin .Mod (.bi .int (.cons (.bin .Add (.bin .Add (.bin .Mult (.var 2) (.int 69621)) (.bin .Mod (.bi .int (.cons (.var 3) .nil)) (.int 2147483629))) (.int 41)) .nil)) (.int 2147483587))) .nil)) (.cons (.ret (.some (.dct (.cons (.str "told") (.rev (.var 1)) (.cons (.str "blend") (.var 2) (.cons (.str "count") (.int 0) .nil)))))) .nil)))
/-- _law_drawn ['_law_well_here', '_law_many', '_law_seed', '_law_number'] -/
def b8 : Sb := (.cons (.asg (.sub (.var 0) (.str "count")) (.bin .Add (.idx (.var 0) (.str "count")) (.int 1))) (.cons (.asg (.name 2) (.bin .Add (.idx (.var 0) (.str "blend")) (.bin .Mult (.bin .Mult (.int 60343) (.idx (.var 0) (.str "count"))) (.idx (.var 0) (.str "count"))))) (.cons (.ite (.cmp .NotEq (.idx (.var 0) (.str "told")) (.lst .nil)) (.cons (.asg (.name 3) (.mth .pop (.idx (.var 0) (.str "told")) .nil)) (.cons (.ite (.cmp .GtE (.var 3) (.bin .Pow (.int 10) (.int 18))) (.cons (.exp (.mth .append (.idx (.var 0) (.str "told")) (.cons (.bin .FloorDiv (.var 3) (.var 1)) .nil))) (.cons (.ret (.some (.bin .Mod (.bi .int (.cons (.var 3) .nil)) (.var 1)))) .nil)) .nil) (.cons (.asg (.name 2) (.bin .Add (.var 2) (.var 3))) .nil))) .nil) (.cons (.asg (.name 2) (.bin .Mod (.bi .int (.cons (.bin .Mult (.bin .Mod (.bi .int (.cons (.var 2) .nil)) (.int 2147483629)) (.int 40692)) .nil)) (.int 2147483647))) (.cons (.asg (.name 2) (.bin .Mod (.bi .int (.cons (.bin .Add (.bin .Add (.bin .Mult (.var 2) (.var 2)) (.bin .Mult (.int 48271) (.var 2))) (.int 41)) .nil)) (.int 2147483563))) (.cons (.ret (.some (.bin .Mod (.bi .int (.cons (.bin .FloorDiv (.bin .Mod (.bi .int (.cons (.bin .Mult (.var 2) (.int 39373)) .nil)) (.int 2147483587)) (.int 64)) .nil)) (.var 1)))) .nil))))))
/-- _law_one_of ['_law_well_here', '_law_some'] -/
def b9 : Sb := (.cons (.ret (.some (.idx (.var 1) (.call 8 (.cons (.var 0) (.cons (.bi .len (.cons (.var 1) .nil)) .nil)))))) .nil)
/-- _law_name ['_law_well_here', '_law_k'] -/
def b10 : Sb := (.cons (.ite (.cmp .Eq (.call 8 (.cons (.var 0) (.cons (.int 2) .nil))) (.int 0)) (.cons (.ret (.some (.call 9 (.cons (.var 0) (.cons (.lst (.cons (.str "a") (.cons (.str "b") (.cons (.str "op") (.cons (.str "call") (.cons (.str "do") (.cons (.str "given") .nil))))))) .nil))))) .nil) .nil) (.cons (.ret (.some (.mth .join (.str "") (.cons (.lcp (.idx (.str "abcdefghijklmnopqrstuvwxyz") (.call 8 (.cons (.var 0) (.cons (.int 26) .nil)))) (.name 1) (.rng1 (.bin .Add (.int 1) (.call 8 (.cons (.var 0) (.cons (.int 8) .nil))))) .none [1]) .nil)))) .nil))
/-- _law_new ['_law_plan_here', '_law_word', '_law_name_here', '_law_functions', '_law_tasks'] -/
def b11 : Sb := (.cons (.exp (.mth .append (.var 0) (.cons (.tup (.cons (.var 1) (.cons (.var 2) (.cons (.var 3) (.cons (.var 4) .nil))))) .nil))) (.cons (.ret (.some (.bin .Sub (.bi .len (.cons (.var 0) .nil)) (.int 1)))) .nil))
/-- _law_plan ['_law_well_here', '_law_plan_here', '_law_functions', '_law_tasks', '_law_k', '_law_word', '_law_some', '_law_j', '_law_many', '_law_more', '_law_number'] -/
def b12 : Sb := (.cons (.asg (.tup (.cons (.name 1) (.cons (.name 2) (.cons (.name 3) .nil)))) (.tup (.cons (.lst .nil) (.cons (.lst .nil) (.cons (.lst .nil) .nil))))) (.cons (.exp (.mth .append (.var 3) (.cons (.call 11 (.cons (.var 1) (.cons (.call 9 (.cons (.var 0) (.cons (.lst (.cons (.str "end") (.cons (.str "wait") (.cons (.str "fail") .nil)))) .nil))) (.cons (.str "") (.cons (.lst .nil) (.cons (.lst .nil) .nil)))))) .nil))) (.cons (.exp (.mth .append (.var 2) (.cons (.call 11 (.cons (.var 1) (.cons (.str "given") (.cons (.call 10 (.cons (.var 0) .nil)) (.cons (.lst .nil) (.cons (.lst .nil) .nil)))))) .nil))) (.cons (.for (.name 4) (.rng1 (.bin .Add (.int 2) (.call 8 (.cons (.var 0) (.cons (.int 9) .nil))))) (.cons (.asg (.name 5) (.call 9 (.cons (.var 0) (.cons (.lst (.cons (.str "do") (.cons (.str "go") (.cons (.str "test") (.cons (.str "pick") (.cons (.str "call") (.cons (.str "call") (.cons (.str "part") (.cons (.str "part") (.cons (.str "given") .nil)))))))))) .nil)))) (.cons (.asg (.name 6) (.ife (.cmp .In (.var 5) (.tup (.cons (.str "call") (.cons (.str "part") .nil)))) (.lcp (.call 9 (.cons (.var 0) (.cons (.var 2) .nil))) (.name 7) (.rng1 (.call 8 (.cons (.var 0) (.cons (.int 3) .nil)))) .none [7]) (.lst .nil))) (.cons (.asg (.name 8) (.mth .get (.dct (.cons (.str "do") (.int 1) (.cons (.str "go") (.int 0) (.cons (.str "given") (.int 0) (.cons (.str "test") (.int 2) .nil))))) (.cons (.var 5) (.cons (.bin .Add (.call 8 (.cons (.var 0) (.cons (.int 4) .nil))) (.bi .int (.cons (.cmp .Eq (.var 5) (.str "pick")) .nil))) .nil)))) (.cons (.asg (.name 9) (.lcp (.call 9 (.cons (.var 0) (.cons (.var 3) .nil))) (.name 7) (.rng1 (.var 8)) .none [7])) (.cons (.asg (.name 10) (.call 11 (.cons (.var 1) (.cons (.var 5) (.cons (.call 10 (.cons (.var 0) .nil)) (.cons (.var 6) (.cons (.var 9) .nil))))))) (.cons (.ite (.cmp .In (.var 5) (.tup (.cons (.str "part") (.cons (.str "given") .nil)))) (.cons (.exp (.mth .append (.var 2) (.cons (.var 10) .nil))) .nil) (.cons (.exp (.mth .append (.var 3) (.cons (.var 10) .nil))) .nil)) .nil))))))) (.cons (.ret (.some (.var 1))) .nil)))))
/-- _law_deep ['_law_plan_here', '_law_found', '_law_word', '_law_name_here', '_law_functions', '_law_tasks', '_law_inner', '_law_number', '_law_deep_here', '_law_many'] -/
def b13 : Sb := (.cons (.asg (.name 1) (.lst .nil)) (.cons (.for (.tup (.cons (.name 2) (.cons (.name 3) (.cons (.name 4) (.cons (.name 5) .nil))))) (.val (.var 0)) (.cons (.asg (.name 6) (.lcp (.idx (.var 1) (.var 7)) (.name 7) (.val (.bin .Add (.var 4) (.var 5))) .none [7])) (.cons (.exp (.mth .append (.var 1) (.cons (.tup (.cons (.bin .Add (.int 1) (.bi .max (.cons (.bin .Add (.lst (.cons (.int 0) .nil)) (.lcp (.var 8) (.tup (.cons (.name 8) (.cons (.name 9) .nil))) (.val (.var 6)) .none [8, 9])) .nil))) (.cons (.bin .Add (.int 1) (.bi .sum (.cons (.lcp (.var 9) (.tup (.cons (.name 8) (.cons (.name 9) .nil))) (.val (.var 6)) .none [8, 9]) .nil))) .nil))) .nil))) .nil))) (.cons (.ret (.some (.var 1))) .nil)))
/-- _law_terms ['_law_plan_here', '_law_found', '_law_word', '_law_name_here', '_law_functions', '_law_tasks', '_law_some', '_law_more', '_law_number'] -/
def b14 : Sb := (.cons (.asg (.name 1) (.lst .nil)) (.cons (.for (.tup (.cons (.name 2) (.cons (.name 3) (.cons (.name 4) (.cons (.name 5) .nil))))) (.val (.var 0)) (.cons (.par 6 7 (.bi .tuple (.cons (.lcp (.idx (.var 1) (.var 8)) (.name 8) (.val (.var 4)) .none [8]) .nil)) (.bi .tuple (.cons (.lcp (.idx (.var 1) (.var 8)) (.name 8) (.val (.var 5)) .none [8]) .nil))) (.cons (.ite (.cmp .In (.var 2) (.tup (.cons (.str "end") (.cons (.str "wait") (.cons (.str "fail") .nil))))) (.cons (.exp (.mth .append (.var 1) (.cons (.tup (.cons (.var 2) .nil)) .nil))) .nil) (.cons (.ite (.cmp .In (.var 2) (.tup (.cons (.str "go") (.cons (.str "given") .nil)))) (.cons (.exp (.mth .append (.var 1) (.cons (.tup (.cons (.var 2) (.cons (.var 3) .nil))) .nil))) .nil) (.cons (.ite (.cmp .Eq (.var 2) (.str "do")) (.cons (.exp (.mth .append (.var 1) (.cons (.bin .Add (.tup (.cons (.var 2) (.cons (.var 3) .nil))) (.var 7)) .nil))) .nil) (.cons (.ite (.cmp .Eq (.var 2) (.str "test")) (.cons (.exp (.mth .append (.var 1) (.cons (.bin .Add (.tup (.cons (.var 2) (.cons (.tup (.cons (.int 0) (.cons (.int 2) .nil))) .nil))) (.var 7)) .nil))) .nil) (.cons (.ite (.cmp .Eq (.var 2) (.str "pick")) (.cons (.exp (.mth .append (.var 1) (.cons (.bin .Add (.tup (.cons (.var 2) .nil)) (.var 7)) .nil))) .nil) (.cons (.exp (.mth .append (.var 1) (.cons (.tup (.cons (.var 2) (.cons (.var 3) (.cons (.var 6) (.cons (.var 7) .nil))))) .nil))) .nil)) .nil)) .nil)) .nil)) .nil)) .nil))) (.cons (.ret (.some (.var 1))) .nil)))
/-- _law_walked ['_law_plan_here', '_law_row', '_law_route', '_law_number', '_law_inner'] -/
def b15 : Sb := (.cons (.for (.name 3) (.val (.var 2)) (.cons (.ite (.cmp .IsNot (.var 1) .non) (.cons (.asg (.name 4) (.bin .Add (.idx (.idx (.var 0) (.var 1)) (.int 2)) (.idx (.idx (.var 0) (.var 1)) (.int 3)))) (.cons (.asg (.name 1) (.ife (.chn .LtE .Lt (.int 0) (.var 3) (.bi .len (.cons (.var 4) .nil))) (.idx (.var 4) (.var 3)) .non)) .nil)) .nil) .nil)) (.cons (.ret (.some (.var 1))) .nil))
/-- _law_names_of ['_law_plan_here', '_law_row', '_law_waiting', '_law_found', '_law_word', '_law_name_here', '_law_functions', '_law_tasks'] -/
def b16 : Sb := (.cons (.par 2 3 (.lst (.cons (.var 1) .nil)) (.dct .nil)) (.cons (.whl (.cmp .NotEq (.var 2) (.lst .nil)) (.cons (.asg (.tup (.cons (.name 4) (.cons (.name 5) (.cons (.name 6) (.cons (.name 7) .nil))))) (.idx (.var 0) (.mth .pop (.var 2) .nil))) (.cons (.ite (.cmp .In (.var 4) (.tup (.cons (.str "call") (.cons (.str "part") (.cons (.str "given") .nil))))) (.cons (.asg (.sub (.var 3) (.var 5)) (.bl true)) .nil) .nil) (.cons (.exp (.mth .extend (.var 2) (.cons (.bin .Add (.var 6) (.var 7)) .nil))) .nil)))) (.cons (.ret (.some (.bi .tuple (.cons (.bi .sorted (.cons (.var 3) .nil)) .nil)))) .nil)))
/-- _law_way ['_law_well_here', '_law_plan_here', '_law_row', '_law_found', '_law_inner', '_law_many'] -/
def b17 : Sb := (.cons (.asg (.name 3) (.lst .nil)) (.cons (.whl (.and (.cons (.cmp .Gt (.bi .len (.cons (.bin .Add (.idx (.idx (.var 1) (.var 2)) (.int 2)) (.idx (.idx (.var 1) (.var 2)) (.int 3))) .nil)) (.int 0)) (.cons (.cmp .Gt (.call 8 (.cons (.var 0) (.cons (.int 6) .nil))) (.int 0)) .nil))) (.cons (.asg (.name 4) (.bin .Add (.idx (.idx (.var 1) (.var 2)) (.int 2)) (.idx (.idx (.var 1) (.var 2)) (.int 3)))) (.cons (.exp (.mth .append (.var 3) (.cons (.call 8 (.cons (.var 0) (.cons (.bi .len (.cons (.var 4) .nil)) .nil))) .nil))) (.cons (.asg (.name 2) (.idx (.var 4) (.idx (.var 3) (.neg (.int 1))))) .nil)))) (.cons (.asg (.name 5) (.bi .len (.cons (.bin .Add (.idx (.idx (.var 1) (.var 2)) (.int 2)) (.idx (.idx (.var 1) (.var 2)) (.int 3))) .nil))) (.cons (.ret (.some (.bi .tuple (.cons (.bin .Add (.var 3) (.call 9 (.cons (.var 0) (.cons (.lst (.cons (.lst .nil) (.cons (.lst .nil) (.cons (.lst (.cons (.var 5) .nil)) (.cons (.lst (.cons (.neg (.int 1)) .nil)) (.cons (.lst (.cons (.var 5) (.cons (.int 0) .nil))) (.cons (.lst (.cons (.bin .Pow (.int 10) (.int 39)) .nil)) .nil))))))) .nil)))) .nil)))) .nil))))
/-- _law_row_right ['_law_well_here', '_law_plan_here', '_law_terms_here', '_law_row', '_law_many', '_law_shape', '_law_was', '_law_inner', '_law_number', '_law_names', '_law_turn', '_law_route', '_law_at', '_law_due'] -/
def b18 : Sb := (.cons (.par 5 6 (.idx (.var 2) (.var 3)) (.bi .repr (.cons (.idx (.var 2) (.var 3)) .nil))) (.cons (.asg (.name 7) (.bi .tuple (.cons (.lcp (.idx (.var 2) (.var 8)) (.name 8) (.val (.bin .Add (.idx (.idx (.var 1) (.var 3)) (.int 2)) (.idx (.idx (.var 1) (.var 3)) (.int 3)))) .none [8]) .nil))) (.cons (.ite (.cmp .NotEq (.bi .repr (.cons (.lst (.cons (.call 2 (.cons (.var 5) .nil)) (.cons (.callk 2 .nil (.cons (.var 5) .nil) 3) .nil))) .nil)) (.bi .repr (.cons (.lst (.cons (.var 7) (.cons (.var 7) .nil))) .nil))) (.cons (.ret (.some (.bl false))) .nil) .nil) (.cons (.ite (.cmp .NotEq (.lst (.cons (.call 5 (.cons (.var 5) .nil)) (.cons (.callk 5 .nil (.cons (.var 5) .nil) 2) .nil))) (.lst (.cons (.var 4) (.cons (.var 4) .nil)))) (.cons (.ret (.some (.bl false))) .nil) .nil) (.cons (.asg (.name 9) (.call 16 (.cons (.var 1) (.cons (.var 3) .nil)))) (.cons (.ite (.cmp .NotEq (.bi .repr (.cons (.lst (.cons (.call 6 (.cons (.var 5) .nil)) (.cons (.callk 6 .nil (.cons (.var 5) .nil) 1) .nil))) .nil)) (.bi .repr (.cons (.lst (.cons (.var 9) (.cons (.var 9) .nil))) .nil))) (.cons (.ret (.some (.bl false))) .nil) .nil) (.cons (.for (.name 10) (.rng1 (.int 4)) (.cons (.asg (.name 11) (.call 17 (.cons (.var 0) (.cons (.var 1) (.cons (.var 3) .nil))))) (.cons (.asg (.name 12) (.call 15 (.cons (.var 1) (.cons (.var 3) (.cons (.var 11) .nil))))) (.cons (.asg (.name 13) (.ife (.cmp .Is (.var 12) .non) .non (.idx (.var 2) (.var 12)))) (.cons (.ite (.cmp .NotEq (.bi .repr (.cons (.lst (.cons (.call 3 (.cons (.var 5) (.cons (.var 11) .nil))) (.cons (.callk 3 .nil (.cons (.var 11) (.cons (.var 5) .nil)) 0) .nil))) .nil)) (.bi .repr (.cons (.lst (.cons (.var 13) (.cons (.var 13) .nil))) .nil))) (.cons (.ret (.some (.bl false))) .nil) .nil) .nil))))) (.cons (.ret (.some (.and (.cons (.cmp .Eq (.bi .repr (.cons (.call 3 (.cons (.var 5) (.cons (.tup .nil) .nil))) .nil)) (.var 6)) (.cons (.cmp .Eq (.bi .repr (.cons (.var 5) .nil)) (.var 6)) .nil))))) .nil))))))))
/-- _law_doubled ['_law_well_here', '_law_many', '_law_shape', '_law_names', '_law_due', '_law_k', '_law_name_here'] -/
def b19 : Sb := (.cons (.par3 1 2 3 (.bin .Add (.int 1) (.call 8 (.cons (.var 0) (.cons (.int 4) .nil)))) (.tup (.cons (.str "given") (.cons (.str "f") .nil))) (.lst (.cons (.str "f") .nil))) (.cons (.asg (.name 4) (.int 1)) (.cons (.for (.name 5) (.rng1 (.var 1)) (.cons (.asg (.name 6) (.idx (.str "abcde") (.var 5))) (.cons (.exp (.mth .append (.var 3) (.cons (.var 6) .nil))) (.cons (.par 2 4 (.tup (.cons (.str "part") (.cons (.var 6) (.cons (.tup (.cons (.var 2) (.cons (.var 2) .nil))) (.cons (.tup .nil) .nil))))) (.bin .Add (.bin .Mult (.int 2) (.var 4)) (.int 1))) .nil)))) (.cons (.ite (.or (.cons (.cmp .NotEq (.call 5 (.cons (.var 2) .nil)) (.var 4)) (.cons (.cmp .NotEq (.call 6 (.cons (.var 2) .nil)) (.bi .tuple (.cons (.bi .sorted (.cons (.var 3) .nil)) .nil))) .nil))) (.cons (.ret (.some (.bl false))) .nil) .nil) (.cons (.ret (.some (.cmp .Eq (.call 3 (.cons (.var 2) (.cons (.bin .Mult (.tup (.cons (.int 1) .nil)) (.var 1)) .nil))) (.tup (.cons (.str "given") (.cons (.str "f") .nil)))))) .nil)))))
/-- law ['_law_script', '_law_well_here', '_law_turn', '_law_plan_here', '_law_terms_here', '_law_deep_here', '_law_row', '_law_many'] -/
def b20 : Sb := (.cons (.asg (.name 1) (.call 7 (.cons (.var 0) .nil))) (.cons (.for (.name 2) (.rng1 (.int 4)) (.cons (.asg (.name 3) (.call 12 (.cons (.var 1) .nil))) (.cons (.par 4 5 (.call 14 (.cons (.var 3) .nil)) (.call 13 (.cons (.var 3) .nil))) (.cons (.for (.name 6) (.rng1 (.bi .len (.cons (.var 3) .nil))) (.cons (.asg (.name 7) (.idx (.idx (.var 5) (.var 6)) (.int 1))) (.cons (.ite (.and (.cons (.cmp .LtE (.idx (.idx (.var 5) (.var 6)) (.int 0)) (.int 12)) (.cons (.cmp .LtE (.var 7) (.int 60)) (.cons (.not (.call 18 (.cons (.var 1) (.cons (.var 3) (.cons (.var 4) (.cons (.var 6) (.cons (.var 7) .nil))))))) .nil)))) (.cons (.ret (.some (.bl false))) .nil) .nil) .nil))) .nil)))) (.cons (.ret (.some (.call 19 (.cons (.var 1) .nil)))) .nil)))
def df : Nat → Def
  | 0 => ⟨1, 1, b0⟩
  | 1 => ⟨1, 1, b1⟩
  | 2 => ⟨1, 1, b2⟩
  | 3 => ⟨2, 4, b3⟩
  | 4 => ⟨1, 3, b4⟩
  | 5 => ⟨1, 1, b5⟩
  | 6 => ⟨1, 2, b6⟩
  | 7 => ⟨1, 4, b7⟩
  | 8 => ⟨2, 4, b8⟩
  | 9 => ⟨2, 2, b9⟩
  | 10 => ⟨1, 2, b10⟩
  | 11 => ⟨5, 5, b11⟩
  | 12 => ⟨1, 11, b12⟩
  | 13 => ⟨1, 10, b13⟩
  | 14 => ⟨1, 9, b14⟩
  | 15 => ⟨3, 5, b15⟩
  | 16 => ⟨2, 8, b16⟩
  | 17 => ⟨3, 6, b17⟩
  | 18 => ⟨5, 14, b18⟩
  | 19 => ⟨1, 7, b19⟩
  | 20 => ⟨1, 8, b20⟩
  | _ => ⟨0, 0, .nil⟩
def tab : Tab := ⟨[df 0, df 1, df 2, df 3, df 4, df 5, df 6, df 7, df 8, df 9, df 10, df 11, df 12, df 13, df 14, df 15, df 16, df 17, df 18, df 19, df 20], [], [[1, 0], [0], [0], [0]], 1000⟩
def nm : Nm := ⟨["functions_of", "tasks_of", "parts_of", "part_at", "terms_in", "size_of", "names_in", "_law_well", "_law_drawn", "_law_one_of", "_law_name", "_law_new", "_law_plan", "_law_deep", "_law_terms", "_law_walked", "_law_names_of", "_law_way", "_law_row_right", "_law_doubled", "law"], [], [(3, 0, ["way", "term"]), (6, 0, ["term"]), (5, 0, ["term"]), (2, 0, ["term"])], ["int", "len", "list", "max", "range", "repr", "sorted", "sum", "tuple"]⟩
end Law
namespace Law
open PySem PySem.Spec PyProof.Rows L2 Fw
abbrev deckC (t : Nat) (b c : Int) : Cell := .dct [(.inr "told", .loc t), (.inr "blend", .int b), (.inr "count", .int c)]
structure Deck (d t N : Nat) (S : Store) : Prop where
  dk : ∃ b c : Int, S[d]? = some (deckC t b c) ∧ 0 ≤ c ∧ c ≤ N
  tl : ∃ xs : List Int, S[t]? = some (.lst (xs.map .int)) ∧ xs.length ≤ 64
  ne : d ≠ t
theorem Deck.keep {d t N : Nat} {S S' : Store} (h : Deck d t N S) (hi : Inc S S') : Deck d t N S' := by
  obtain ⟨b, c, h1, h2⟩ := h.dk
  obtain ⟨xs, h3, h4⟩ := h.tl
  exact ⟨⟨b, c, hi _ _ h1, h2⟩, ⟨xs, hi _ _ h3, h4⟩, h.ne⟩
theorem Deck.more {d t N N' : Nat} {S : Store} (h : Deck d t N S) (hn : N ≤ N') : Deck d t N' S := by
  obtain ⟨b, c, h1, h2, h3⟩ := h.dk
  exact ⟨⟨b, c, h1, h2, by omega⟩, h.tl, h.ne⟩
abbrev CAP : Nat := 4611686018427387904
theorem t8 : tab.defs[8]? = some (df 8) := rfl
theorem draw_ok {d t N : Nat} {S : Store} {m : Int} {n : Nat} (hm : 1 ≤ m) (hm2 : m < 1000000) (hN : N < CAP) (D0 : Deck d t N S) :
    Ok (callN tab (n + 1) 8 [.loc d, .int m] S) (fun r S' => (∃ k : Nat, r = .int k ∧ (k : Int) < m) ∧ Deck d t (N + 1) S' ∧ Frm d t S S') := by
  obtain ⟨b, c, hd, hc0, hc⟩ := D0.dk
  obtain ⟨xs, ht, hl⟩ := D0.tl
  have hne := D0.ne
  have hm0 : m ≠ 0 := by omega
  have hN' : N < 4611686018427387904 := hN
  refine ok_call t8 rfl ?_
  simp only [df, b8, List.map_cons, List.map_nil, List.replicate, List.cons_append, List.nil_append, List.getElem?_cons_zero, List.getElem?_cons_succ, List.set_cons_zero, List.set_cons_succ, Nat.reduceSub, Nat.reduceAdd, List.length_cons, List.length_nil]
  simp only [el_nil, el_cons, es_pass, es_brk, es_cnt, es_retN, es_ret, es_exp, es_asg, es_par, es_par3, es_aug, es_ite, es_for, es_step, es_whl, ev_var, ev_glb, ev_non, ev_bl, ev_int, ev_str, ev_bin, ev_neg, ev_cmp, ev_not, ev_ife, ev_tup, ev_lst, ev_dct, ev_idx, ev_slc, ev_rev, ev_call, ev_callk, ev_bi, ev_mth, ev_lcp, ev_ssc, ev_and1, ev_and2, ev_or1, ev_or2, ev_nil, ev_cons, ev_pnil, ev_pcons, ev_onone, ev_osome, et_cmp, et_chn, et_not, et_bl, et_var, et_call, et_bi, et_idx, et_and1, et_and2, et_or1, et_or2, ec_none, ec_some, eg_name, eg_sub, eg_tup, eg_nil, eg_cons, ei_val, ei_rng1, ei_rng2, List.map_cons, List.map_nil, List.replicate, List.cons_append, List.nil_append, List.getElem?_cons_zero, List.getElem?_cons_succ, List.set_cons_zero, List.set_cons_succ, Nat.reduceSub, Nat.reduceAdd, List.length_cons, List.length_nil]
  rw [ok_getD (d := .int c) hd rfl rfl, ok_addI, ok_setD hd rfl (by rw [sizeLine_eq]; exact Nat.lt_of_le_of_lt (Nat.le_refl 3) (by decide))]
  have e1 : putKey (.inr (Str.ofString "count")) (.int (c + 1)) [(.inr (Str.ofString "told"), .loc t), (.inr (Str.ofString "blend"), .int b), (.inr (Str.ofString "count"), .int c)] = [(.inr "told", .loc t), (.inr "blend", .int b), (.inr "count", .int (c + 1))] := rfl
  rw [e1]
  have hd1 : (S.set d (deckC t b (c + 1)))[d]? = some (deckC t b (c + 1)) := get_set hd
  have ht1 : (S.set d (deckC t b (c + 1)))[t]? = some (.lst (xs.map .int)) := by rw [get_set_ne hne.symm]; exact ht
  have f1 : Frm d t S (S.set d (deckC t b (c + 1))) := Frm.set1
  generalize S.set d (deckC t b (c + 1)) = S1 at hd1 ht1 f1 ⊢
  rw [ok_getD (d := .int b) hd1 rfl rfl, ok_getD (d := .int (c + 1)) hd1 rfl rfl, ok_mulI (mulOk_l (by decide) (by decide)), ok_getD (d := .int (c + 1)) hd1 rfl rfl, ok_mulI (mulOk_r (by omega) (by omega)), ok_addI, ok_getD (d := .loc t) hd1 rfl rfl]
  refine ⟨by decide, ?_⟩
  have hd2 : (S1 ++ [Cell.lst []])[d]? = some (deckC t b (c + 1)) := get_app hd1
  have ht2 : (S1 ++ [Cell.lst []])[t]? = some (.lst (xs.map .int)) := get_app ht1
  refine if_some (cmpNe (eq_nil_ints ht2 get_new)) ?_
  have f2 : Frm d t S (S1 ++ [Cell.lst []]) := f1.trans (Frm.app _)
  generalize S1 ++ [Cell.lst []] = S2 at hd2 ht2 f2 ⊢
  -- what the mixing gives
  have fin : ∀ (y : Int) (S3 : Store), Deck d t (N + 1) S3 → Frm d t S S3 → (∃ k : Nat, D.int (y.fmod m) = .int k ∧ (k : Int) < m) ∧ Deck d t (N + 1) S3 ∧ Frm d t S S3 := fun y S3 h1 h2 => by
    obtain ⟨k, e, hk⟩ := fmod_nat (x := y) hm
    exact ⟨⟨k, by rw [e], hk⟩, h1, h2⟩
  have D2 : Deck d t (N + 1) S2 := ⟨⟨b, c + 1, hd2, by omega, by omega⟩, ⟨xs, ht2, hl⟩, hne⟩
  cases hx : xs.isEmpty with
  | true =>
    simp only [Bool.not_true, Bool.false_eq_true, if_false]
    rw [ok_intI, ok_modI (by decide), ok_mulI (mulOk_r (by decide) (by decide)), ok_intI, ok_modI (by decide)]
    obtain ⟨k, ek, hk⟩ := fmod_nat (x := (b + 60343 * (c + 1) * (c + 1)).fmod 2147483629 * 40692) (m := 2147483647) (by decide)
    rw [ek, ok_mulI (mulOk_l (by omega) (by omega)), ok_mulI (mulOk_l (by decide) (by decide)), ok_addI, ok_addI, ok_intI, ok_modI (by decide), ok_mulI (mulOk_r (by decide) (by decide)), ok_intI, ok_modI (by decide), ok_fdivI (by decide) (by decide), ok_intI, ok_modI hm0]
    exact fin _ _ D2 f2
  | false =>
    simp only [Bool.not_false, if_true]
    obtain ⟨ys, y, rfl⟩ := snoc_of hx
    rw [ok_getD (d := .loc t) hd2 rfl rfl]
    refine ⟨(recv_lst ht2).2.2, ?_⟩
    rw [List.map_append] at ht2
    rw [ok_pop ht2]
    have hl' : ys.length ≤ 63 := by simp at hl; omega
    have hd3 : (S2.set t (.lst (ys.map .int)))[d]? = some (deckC t b (c + 1)) := by rw [get_set_ne hne]; exact hd2
    have ht3 : (S2.set t (.lst (ys.map .int)))[t]? = some (.lst (ys.map .int)) := get_set ht2
    have f3 : Frm d t S (S2.set t (.lst (ys.map .int))) := f2.trans Frm.set2
    generalize S2.set t (.lst (ys.map .int)) = S3 at hd3 ht3 f3 ⊢
    rw [ok_powI (by decide)]
    refine if_some cmpGe ?_
    split
    · rw [ok_getD (d := .loc t) hd3 rfl rfl]
      refine ⟨(recv_lst ht3).1, ?_⟩
      rw [ok_fdivI hm0 (by omega), ok_append ht3 (by rw [List.length_map, sizeLine_eq]; omega), ok_intI, ok_modI hm0]
      refine fin _ _ ⟨⟨b, c + 1, by rw [get_set_ne hne]; exact hd3, by omega, by omega⟩, ⟨ys ++ [y.fdiv m], ?_, by simp; omega⟩, hne⟩ (f3.trans Frm.set2)
      rw [get_set ht3, List.map_append]
      rfl
    · rw [ok_addI]
      rw [ok_intI, ok_modI (by decide), ok_mulI (mulOk_r (by decide) (by decide)), ok_intI, ok_modI (by decide)]
      obtain ⟨k, ek, hk⟩ := fmod_nat (x := (b + 60343 * (c + 1) * (c + 1) + y).fmod 2147483629 * 40692) (m := 2147483647) (by decide)
      rw [ek, ok_mulI (mulOk_l (by omega) (by omega)), ok_mulI (mulOk_l (by decide) (by decide)), ok_addI, ok_addI, ok_intI, ok_modI (by decide), ok_mulI (mulOk_r (by decide) (by decide)), ok_intI, ok_modI (by decide), ok_fdivI (by decide) (by decide), ok_intI, ok_modI hm0]
      exact fin _ _ ⟨⟨b, c + 1, hd3, by omega, by omega⟩, ⟨ys, ht3, by omega⟩, hne⟩ f3
end Law
namespace Law
open PySem PySem.Spec PyProof.Rows L2 Fw
structure Row where
  w : Str
  nm : Str
  fs : List Nat
  ts : List Nat
def nameOk (s : Str) : Prop := PyData.strOk s = true ∧ s.length ≤ 8
inductive Shape : Str → List Nat → List Nat → Prop where
  | w_end : Shape "end" [] []
  | w_wait : Shape "wait" [] []
  | w_fail : Shape "fail" [] []
  | w_go : Shape "go" [] []
  | w_given : Shape "given" [] []
  | w_do (k : Nat) : Shape "do" [] [k]
  | w_test (k l : Nat) : Shape "test" [] [k, l]
  | w_pick (ts : List Nat) : Shape "pick" [] ts
  | w_call (fs ts : List Nat) : Shape "call" fs ts
  | w_part (fs ts : List Nat) : Shape "part" fs ts
theorem Shape.ok {w : Str} {fs ts : List Nat} (h : Shape w fs ts) : PyData.strOk w = true := by
  cases h <;> decide +kernel
def at_ (T : List D) (k : Nat) : D := T.getD k .non
def chs (T : List D) (l : List Nat) : List D := l.map (at_ T)
def mkT (r : Row) (T : List D) : D :=
  if r.w ∈ (["end", "wait", "fail"] : List Str) then .tup [.str r.w]
  else if r.w ∈ (["go", "given"] : List Str) then .tup [.str r.w, .str r.nm]
  else if r.w = "do" then .tup ([.str r.w, .str r.nm] ++ chs T r.ts)
  else if r.w = "test" then .tup ([.str r.w, .tup [.int 0, .int 2]] ++ chs T r.ts)
  else if r.w = "pick" then .tup ([.str r.w] ++ chs T r.ts)
  else .tup [.str r.w, .str r.nm, .tup (chs T r.fs), .tup (chs T r.ts)]
structure RowOk (i : Nat) (r : Row) : Prop where
  sh : Shape r.w r.fs r.ts
  lt : ∀ k ∈ r.fs ++ r.ts, k < i
  nm : nameOk r.nm
  few : r.fs.length ≤ 10 ∧ r.ts.length ≤ 10
structure Lay (rows : List Row) (T : List D) : Prop where
  len : T.length = rows.length
  row : ∀ (i : Nat) (r : Row), rows[i]? = some r → RowOk i r ∧ T[i]? = some (mkT r T)
theorem t0 : tab.defs[0]? = some (df 0) := rfl
theorem t1 : tab.defs[1]? = some (df 1) := rfl
theorem t2 : tab.defs[2]? = some (df 2) := rfl
section
variable {n : Nat} {S : Store} {Q : D → Store → Prop}
theorem w0 {w : Str} {rest : List D} {k : Bool} (hw : PyData.strOk w = true) (hk : decide (w ∈ (["call", "part"] : List Str)) = k) (h : if k = true then ∃ y, L2.atI (D.str w :: rest) 2 = some y ∧ Q y S else Q (.tup []) S) :
    Ok (callN tab (n + 1) 0 [.tup (.str w :: rest)] S) Q := by
  refine ok_call t0 rfl ?_
  simp only [df, b0, List.map_cons, List.map_nil, List.replicate, List.cons_append, List.nil_append, List.getElem?_cons_zero, List.getElem?_cons_succ, List.set_cons_zero, List.set_cons_succ, Nat.reduceSub, Nat.reduceAdd, List.length_cons, List.length_nil]
  simp only [el_nil, el_cons, es_pass, es_brk, es_cnt, es_retN, es_ret, es_exp, es_asg, es_par, es_par3, es_aug, es_ite, es_for, es_step, es_whl, ev_var, ev_glb, ev_non, ev_bl, ev_int, ev_str, ev_bin, ev_neg, ev_cmp, ev_not, ev_ife, ev_tup, ev_lst, ev_dct, ev_idx, ev_slc, ev_rev, ev_call, ev_callk, ev_bi, ev_mth, ev_lcp, ev_ssc, ev_and1, ev_and2, ev_or1, ev_or2, ev_nil, ev_cons, ev_pnil, ev_pcons, ev_onone, ev_osome, et_cmp, et_chn, et_not, et_bl, et_var, et_call, et_bi, et_idx, et_and1, et_and2, et_or1, et_or2, ec_none, ec_some, eg_name, eg_sub, eg_tup, eg_nil, eg_cons, ei_val, ei_rng1, ei_rng2, List.map_cons, List.map_nil, List.replicate, List.cons_append, List.nil_append, List.getElem?_cons_zero, List.getElem?_cons_succ, List.set_cons_zero, List.set_cons_succ, Nat.reduceSub, Nat.reduceAdd, List.length_cons, List.length_nil]
  rw [ok_getT (d := .str w) atI0]
  refine ⟨by decide, if_some (cmpIn (in_strs (ws := ["call", "part"]) rfl hw (by decide +kernel))) ?_⟩
  rw [hk]
  cases k with
  | true =>
    simp only [if_true] at h ⊢
    obtain ⟨y, h1, h2⟩ := h
    rw [ok_getT h1]
    exact h2
  | false =>
    simp only [Bool.false_eq_true, if_false] at h ⊢
    exact ⟨Nat.zero_le _, h⟩
theorem cut2 {a b : D} {xs : List D} : Fw.cutD (a :: b :: xs) (some 2) none = xs := by
  unfold Fw.cutD
  have h1 : HT.sIx (a :: b :: xs).length 0 (some 2) = 2 := by
    show HT.sIx _ 0 (some ((2 : Nat) : Int)) = 2
    rw [HT.sIx_nat]; simp
  rw [h1, HT.sIx_none]
  simp
theorem cut1 {a : D} {xs : List D} : Fw.cutD (a :: xs) (some 1) none = xs := by
  unfold Fw.cutD
  have h1 : HT.sIx (a :: xs).length 0 (some 1) = 1 := by
    show HT.sIx _ 0 (some ((1 : Nat) : Int)) = 1
    rw [HT.sIx_nat]; simp
  rw [h1, HT.sIx_none]
  simp
theorem w1 {w : Str} {rest : List D} {k k2 k3 : Bool} (hw : PyData.strOk w = true) (hk : decide (w ∈ (["call", "part"] : List Str)) = k) (hk2 : decide (w ∈ (["do", "test"] : List Str)) = k2) (hk3 : (w == "pick") = k3)
    (h : if k = true then ∃ y, L2.atI (D.str w :: rest) 3 = some y ∧ Q y S else if k2 = true then Q (.tup (Fw.cutD (D.str w :: rest) (some 2) none)) S else if k3 = true then Q (.tup rest) S else Q (.tup []) S) :
    Ok (callN tab (n + 1) 1 [.tup (.str w :: rest)] S) Q := by
  refine ok_call t1 rfl ?_
  simp only [df, b1, List.map_cons, List.map_nil, List.replicate, List.cons_append, List.nil_append, List.getElem?_cons_zero, List.getElem?_cons_succ, List.set_cons_zero, List.set_cons_succ, Nat.reduceSub, Nat.reduceAdd, List.length_cons, List.length_nil]
  simp only [el_nil, el_cons, es_pass, es_brk, es_cnt, es_retN, es_ret, es_exp, es_asg, es_par, es_par3, es_aug, es_ite, es_for, es_step, es_whl, ev_var, ev_glb, ev_non, ev_bl, ev_int, ev_str, ev_bin, ev_neg, ev_cmp, ev_not, ev_ife, ev_tup, ev_lst, ev_dct, ev_idx, ev_slc, ev_rev, ev_call, ev_callk, ev_bi, ev_mth, ev_lcp, ev_ssc, ev_and1, ev_and2, ev_or1, ev_or2, ev_nil, ev_cons, ev_pnil, ev_pcons, ev_onone, ev_osome, et_cmp, et_chn, et_not, et_bl, et_var, et_call, et_bi, et_idx, et_and1, et_and2, et_or1, et_or2, ec_none, ec_some, eg_name, eg_sub, eg_tup, eg_nil, eg_cons, ei_val, ei_rng1, ei_rng2, List.map_cons, List.map_nil, List.replicate, List.cons_append, List.nil_append, List.getElem?_cons_zero, List.getElem?_cons_succ, List.set_cons_zero, List.set_cons_succ, Nat.reduceSub, Nat.reduceAdd, List.length_cons, List.length_nil]
  rw [ok_getT (d := .str w) atI0]
  refine ⟨by decide, if_some (cmpIn (in_strs (ws := ["call", "part"]) rfl hw (by decide +kernel))) ?_⟩
  rw [hk]
  cases k with
  | true =>
    simp only [if_true] at h ⊢
    obtain ⟨y, h1, h2⟩ := h
    rw [ok_getT h1]
    exact h2
  | false =>
    simp only [Bool.false_eq_true, if_false] at h ⊢
    rw [ok_getT (d := .str w) atI0]
    refine ⟨by decide, if_some (cmpIn (in_strs (ws := ["do", "test"]) rfl hw (by decide +kernel))) ?_⟩
    rw [hk2]
    cases k2 with
    | true =>
      simp only [if_true] at h ⊢
      exact ⟨2, rfl, h⟩
    | false =>
      simp only [Bool.false_eq_true, if_false] at h ⊢
      rw [ok_getT (d := .str w) atI0]
      refine if_some (cmpEq (eq_str hw (by decide +kernel))) ?_
      rw [show (w == Str.ofString "pick") = k3 from hk3]
      cases k3 with
      | true =>
        simp only [if_true] at h ⊢
        refine ⟨1, rfl, ?_⟩
        rw [ok_sliceT, cut1]
        exact h
      | false =>
        simp only [Bool.false_eq_true, if_false] at h ⊢
        exact ⟨Nat.zero_le _, h⟩
theorem chs_len {T : List D} {l : List Nat} : (chs T l).length = l.length := by simp [chs]
theorem chs_append {T : List D} {l m : List Nat} : chs T (l ++ m) = chs T l ++ chs T m := by simp [chs]
theorem parts_ok {rows : List Row} {T : List D} {i : Nat} {r : Row} (Ly : Lay rows T) (hr : rows[i]? = some r) (hQ : Q (.tup (chs T (r.fs ++ r.ts))) S) : Ok (callN tab (n + 2) 2 [mkT r T] S) Q := by
  obtain ⟨ok, _⟩ := Ly.row i r hr
  have few := ok.few
  have sh := ok.sh
  refine ok_call t2 rfl ?_
  simp only [df, b2, List.map_cons, List.map_nil, List.replicate, List.cons_append, List.nil_append, List.getElem?_cons_zero, List.getElem?_cons_succ, List.set_cons_zero, List.set_cons_succ, Nat.reduceSub, Nat.reduceAdd, List.length_cons, List.length_nil]
  simp only [el_nil, el_cons, es_pass, es_brk, es_cnt, es_retN, es_ret, es_exp, es_asg, es_par, es_par3, es_aug, es_ite, es_for, es_step, es_whl, ev_var, ev_glb, ev_non, ev_bl, ev_int, ev_str, ev_bin, ev_neg, ev_cmp, ev_not, ev_ife, ev_tup, ev_lst, ev_dct, ev_idx, ev_slc, ev_rev, ev_call, ev_callk, ev_bi, ev_mth, ev_lcp, ev_ssc, ev_and1, ev_and2, ev_or1, ev_or2, ev_nil, ev_cons, ev_pnil, ev_pcons, ev_onone, ev_osome, et_cmp, et_chn, et_not, et_bl, et_var, et_call, et_bi, et_idx, et_and1, et_and2, et_or1, et_or2, ec_none, ec_some, eg_name, eg_sub, eg_tup, eg_nil, eg_cons, ei_val, ei_rng1, ei_rng2, List.map_cons, List.map_nil, List.replicate, List.cons_append, List.nil_append, List.getElem?_cons_zero, List.getElem?_cons_succ, List.set_cons_zero, List.set_cons_succ, Nat.reduceSub, Nat.reduceAdd, List.length_cons, List.length_nil]
  show Ok (callN tab (n + 1) 0 [mkT r T] S) _
  have fin : ∀ xs ys : List D, xs ++ ys = chs T (r.fs ++ r.ts) → xs.length ≤ 10 → ys.length ≤ 10 → Ok (binop .Add (.tup xs) (.tup ys) S) (fun d S1 => Q d S1) := fun xs ys e h1 h2 => by
    rw [ok_addT (by rw [sizeLine_eq]; omega), e]
    exact hQ
  obtain ⟨w, nm, fs, ts⟩ := r
  dsimp only at sh few fin hQ
  have hw := sh.ok
  cases sh with
  | w_end => exact w0 (k := false) hw rfl (w1 (k := false) (k2 := false) (k3 := false) hw rfl rfl rfl (fin [] [] rfl (by decide) (by decide)))
  | w_wait => exact w0 (k := false) hw rfl (w1 (k := false) (k2 := false) (k3 := false) hw rfl rfl rfl (fin [] [] rfl (by decide) (by decide)))
  | w_fail => exact w0 (k := false) hw rfl (w1 (k := false) (k2 := false) (k3 := false) hw rfl rfl rfl (fin [] [] rfl (by decide) (by decide)))
  | w_go => exact w0 (k := false) hw rfl (w1 (k := false) (k2 := false) (k3 := false) hw rfl rfl rfl (fin [] [] rfl (by decide) (by decide)))
  | w_given => exact w0 (k := false) hw rfl (w1 (k := false) (k2 := false) (k3 := false) hw rfl rfl rfl (fin [] [] rfl (by decide) (by decide)))
  | w_do k => exact w0 (k := false) hw rfl (w1 (k := false) (k2 := true) (k3 := false) hw rfl rfl rfl (fin [] [at_ T k] rfl (by decide) (by simp)))
  | w_test k l => exact w0 (k := false) hw rfl (w1 (k := false) (k2 := true) (k3 := false) hw rfl rfl rfl (fin [] [at_ T k, at_ T l] rfl (by decide) (by simp)))
  | w_pick ts => exact w0 (k := false) hw rfl (w1 (k := false) (k2 := false) (k3 := true) hw rfl rfl rfl (fin [] (chs T ts) rfl (by decide) (by rw [chs_len]; exact few.2)))
  | w_call fs ts => exact w0 (k := true) hw rfl ⟨_, rfl, w1 (k := true) (k2 := false) (k3 := false) hw rfl rfl rfl ⟨_, rfl, fin (chs T fs) (chs T ts) chs_append.symm (by rw [chs_len]; exact few.1) (by rw [chs_len]; exact few.2)⟩⟩
  | w_part fs ts => exact w0 (k := true) hw rfl ⟨_, rfl, w1 (k := true) (k2 := false) (k3 := false) hw rfl rfl rfl ⟨_, rfl, fin (chs T fs) (chs T ts) chs_append.symm (by rw [chs_len]; exact few.1) (by rw [chs_len]; exact few.2)⟩⟩
end
end Law
namespace Law
open PySem PySem.Spec PyProof.Rows L2 Fw
def z (Z : List Nat) (k : Nat) : Nat := Z.getD k 0
def zs (Z : List Nat) (l : List Nat) : Nat := (l.map (z Z)).sum
structure Sz (rows : List Row) (Z : List Nat) : Prop where
  len : Z.length = rows.length
  row : ∀ (i : Nat) (r : Row), rows[i]? = some r → Z[i]? = some (1 + zs Z (r.fs ++ r.ts))
theorem zs_append {Z l m} : zs Z (l ++ m) = zs Z l + zs Z m := by simp [zs]
theorem zs_cons {Z k l} : zs Z (k :: l) = z Z k + zs Z l := by simp [zs]
theorem Sz.at {rows : List Row} {Z : List Nat} (h : Sz rows Z) {i : Nat} {r : Row} (hr : rows[i]? = some r) : z Z i = 1 + zs Z (r.fs ++ r.ts) := by
  unfold z
  rw [List.getD_eq_getElem?_getD, h.row i r hr]; rfl
def Own (rows : List Row) (k : Nat) (s : Str) : Prop := ∃ r, rows[k]? = some r ∧ r.w ∈ (["call", "given", "part"] : List Str) ∧ r.nm = s
inductive Nin (rows : List Row) : Nat → Str → Prop where
  | own {k s} : Own rows k s → Nin rows k s
  | sub {k c s r} : rows[k]? = some r → c ∈ r.fs ++ r.ts → Nin rows c s → Nin rows k s
theorem nin_iff {rows : List Row} {k : Nat} {r : Row} {s : Str} (hr : rows[k]? = some r) : Nin rows k s ↔ Own rows k s ∨ ∃ c ∈ r.fs ++ r.ts, Nin rows c s := by
  constructor
  · intro h
    cases h with
    | own h => exact .inl h
    | sub h1 h2 h3 =>
      rw [hr] at h1
      cases h1
      exact .inr ⟨_, h2, h3⟩
  · rintro (h | ⟨c, h1, h2⟩)
    · exact .own h
    · exact .sub hr h1 h2
theorem Lay.at {rows : List Row} {T : List D} (h : Lay rows T) {i : Nat} {r : Row} (hr : rows[i]? = some r) : at_ T i = mkT r T := by
  unfold at_
  rw [List.getD_eq_getElem?_getD, (h.row i r hr).2]; rfl
theorem lt_row {rows : List Row} {i : Nat} (h : i < rows.length) : ∃ r, rows[i]? = some r := ⟨rows[i], List.getElem?_eq_getElem h⟩
theorem t4 : tab.defs[4]? = some (df 4) := rfl
theorem t5 : tab.defs[5]? = some (df 5) := rfl
theorem t6 : tab.defs[6]? = some (df 6) := rfl
/-- what the walk through a term's parts has seen -/
structure Seen (rows : List Row) (Z : List Nat) (i : Nat) (ks : List Nat) (a : Nat) : Prop where
  lt : ∀ k ∈ ks, k < rows.length
  le : a ≤ ks.length
  sum : a + zs Z (ks.drop a) = z Z i
  nm : ∀ s, Nin rows i s ↔ (∃ k ∈ ks.take a, Own rows k s) ∨ (∃ k ∈ ks.drop a, Nin rows k s)
theorem Seen.start {rows : List Row} {Z : List Nat} {i : Nat} (hi : i < rows.length) : Seen rows Z i [i] 0 := ⟨by simpa using hi, by simp, by simp [zs], fun s => by simp⟩
theorem Seen.len {rows : List Row} {Z : List Nat} {i a : Nat} {ks : List Nat} (S : Sz rows Z) (h : Seen rows Z i ks a) : ks.length ≤ z Z i := by
  have : ∀ l : List Nat, (∀ k ∈ l, k < rows.length) → l.length ≤ zs Z l := by
    intro l
    induction l with
    | nil => intro _; simp
    | cons k l ih =>
      intro hl
      obtain ⟨r, hr⟩ := lt_row (hl k (List.mem_cons_self ..))
      have := ih fun j hj => hl j (List.mem_cons_of_mem _ hj)
      rw [zs_cons, S.at hr, List.length_cons]
      omega
  have h1 := this (ks.drop a) fun k hk => h.lt k (List.mem_of_mem_drop hk)
  have h2 := h.sum
  have h3 := h.le
  rw [List.length_drop] at h1
  omega
theorem Seen.step {rows : List Row} {T : List D} {Z : List Nat} {i a k : Nat} {ks : List Nat} {r : Row} (L : Lay rows T) (S : Sz rows Z) (h : Seen rows Z i ks a) (hk : ks[a]? = some k) (hr : rows[k]? = some r) :
    Seen rows Z i (ks ++ (r.fs ++ r.ts)) (a + 1) ∧ zs Z ((ks ++ (r.fs ++ r.ts)).drop (a + 1)) < zs Z (ks.drop a) := by
  have ha : a < ks.length := (List.getElem?_eq_some_iff.mp hk).1
  have hkk : ks[a] = k := (List.getElem?_eq_some_iff.mp hk).2
  have hd : ks.drop a = k :: ks.drop (a + 1) := by rw [← hkk]; exact List.drop_eq_getElem_cons ha
  have hd2 : (ks ++ (r.fs ++ r.ts)).drop (a + 1) = ks.drop (a + 1) ++ (r.fs ++ r.ts) := List.drop_append_of_le_length (by omega)
  have ht2 : (ks ++ (r.fs ++ r.ts)).take (a + 1) = ks.take a ++ [k] := by
    rw [List.take_append_of_le_length (by omega), ← hkk]
    exact List.take_succ_eq_append_getElem ha
  have hs := h.sum
  have hz := S.at hr
  rw [hd, zs_cons] at hs
  refine ⟨⟨fun j hj => ?_, by simp; omega, ?_, fun s => ?_⟩, ?_⟩
  · rcases List.mem_append.mp hj with hj | hj
    · exact h.lt j hj
    · have h1 := (L.row k r hr).1.lt j hj
      have h2 := (List.getElem?_eq_some_iff.mp hr).1
      omega
  · rw [hd2, zs_append]
    omega
  · rw [h.nm s, hd, hd2, ht2]
    constructor
    · rintro (⟨j, hj, o⟩ | ⟨j, hj, o⟩)
      · exact .inl ⟨j, List.mem_append_left _ hj, o⟩
      · rcases List.mem_cons.mp hj with rfl | hj
        · rcases (nin_iff hr).mp o with o | ⟨c, hc, o⟩
          · exact .inl ⟨j, List.mem_append_right _ (List.mem_singleton.mpr rfl), o⟩
          · exact .inr ⟨c, List.mem_append_right _ hc, o⟩
        · exact .inr ⟨j, List.mem_append_left _ hj, o⟩
    · rintro (⟨j, hj, o⟩ | ⟨j, hj, o⟩)
      · rcases List.mem_append.mp hj with hj | hj
        · exact .inl ⟨j, hj, o⟩
        · have := List.mem_singleton.mp hj
          subst this
          exact .inr ⟨j, List.mem_cons_self .., .own o⟩
      · rcases List.mem_append.mp hj with hj | hj
        · exact .inr ⟨j, List.mem_cons_of_mem _ hj, o⟩
        · exact .inr ⟨k, List.mem_cons_self .., .sub hr hj o⟩
  · rw [hd, hd2, zs_append, zs_cons, hz]
    omega
section
variable {n : Nat} {S : Store} {Q : D → Store → Prop} {rows : List Row} {T : List D} {Z : List Nat} {i : Nat}
theorem at_lt (Ly : Lay rows T) {k : Nat} (h : k < rows.length) : T[k]? = some (at_ T k) := by
  have : k < T.length := Nat.lt_of_lt_of_eq h Ly.len.symm
  unfold at_
  rw [List.getD_eq_getElem?_getD, List.getElem?_eq_getElem this]; rfl
theorem terms_ok (L : Lay rows T) (Zs : Sz rows Z) (hi : i < rows.length) (h60 : z Z i ≤ 60)
    (hQ : ∀ l ks S', Inc S S' → S'[l]? = some (.lst (chs T ks)) → ks.length = z Z i → (∀ k ∈ ks, k < rows.length) → (∀ s, Nin rows i s ↔ ∃ k ∈ ks, Own rows k s) → Q (.loc l) S') :
    Ok (callN tab (n + 3) 4 [at_ T i] S) Q := by
  refine ok_call t4 rfl ?_
  simp only [df, b4, List.map_cons, List.map_nil, List.replicate, List.cons_append, List.nil_append, List.getElem?_cons_zero, List.getElem?_cons_succ, List.set_cons_zero, List.set_cons_succ, Nat.reduceSub, Nat.reduceAdd, List.length_cons, List.length_nil]
  simp only [el_nil, el_cons, es_pass, es_brk, es_cnt, es_retN, es_ret, es_exp, es_asg, es_par, es_par3, es_aug, es_ite, es_for, es_step, es_whl, ev_var, ev_glb, ev_non, ev_bl, ev_int, ev_str, ev_bin, ev_neg, ev_cmp, ev_not, ev_ife, ev_tup, ev_lst, ev_dct, ev_idx, ev_slc, ev_rev, ev_call, ev_callk, ev_bi, ev_mth, ev_lcp, ev_ssc, ev_and1, ev_and2, ev_or1, ev_or2, ev_nil, ev_cons, ev_pnil, ev_pcons, ev_onone, ev_osome, et_cmp, et_chn, et_not, et_bl, et_var, et_call, et_bi, et_idx, et_and1, et_and2, et_or1, et_or2, ec_none, ec_some, eg_name, eg_sub, eg_tup, eg_nil, eg_cons, ei_val, ei_rng1, ei_rng2, List.map_cons, List.map_nil, List.replicate, List.cons_append, List.nil_append, List.getElem?_cons_zero, List.getElem?_cons_succ, List.set_cons_zero, List.set_cons_succ, Nat.reduceSub, Nat.reduceAdd, List.length_cons, List.length_nil]
  refine ⟨by decide, ?_⟩
  refine whl_ok (fun m η S' => ∃ ks a, η = [some (at_ T i), some (.loc S.length), some (.int (a : Nat))] ∧ S'[S.length]? = some (.lst (chs T ks)) ∧ Seen rows Z i ks a ∧ Inc S S' ∧ m = zs Z (ks.drop a)) ?_ 1000 (z Z i) _ _ (by omega) ⟨[i], 0, rfl, get_new, Seen.start hi, Inc.app _, by simp [zs]⟩
  rintro m η S' ⟨ks, a, rfl, hl, sn, inc, rfl⟩
  simp only [el_nil, el_cons, es_pass, es_brk, es_cnt, es_retN, es_ret, es_exp, es_asg, es_par, es_par3, es_aug, es_ite, es_for, es_step, es_whl, ev_var, ev_glb, ev_non, ev_bl, ev_int, ev_str, ev_bin, ev_neg, ev_cmp, ev_not, ev_ife, ev_tup, ev_lst, ev_dct, ev_idx, ev_slc, ev_rev, ev_call, ev_callk, ev_bi, ev_mth, ev_lcp, ev_ssc, ev_and1, ev_and2, ev_or1, ev_or2, ev_nil, ev_cons, ev_pnil, ev_pcons, ev_onone, ev_osome, et_cmp, et_chn, et_not, et_bl, et_var, et_call, et_bi, et_idx, et_and1, et_and2, et_or1, et_or2, ec_none, ec_some, eg_name, eg_sub, eg_tup, eg_nil, eg_cons, ei_val, ei_rng1, ei_rng2, List.map_cons, List.map_nil, List.replicate, List.cons_append, List.nil_append, List.getElem?_cons_zero, List.getElem?_cons_succ, List.set_cons_zero, List.set_cons_succ, Nat.reduceSub, Nat.reduceAdd, List.length_cons, List.length_nil]
  rw [ok_lenL hl]
  refine if_some cmpLt ?_
  rw [chs_len]
  split
  · rename_i hlt
    have ha : a < ks.length := by simpa using hlt
    have hk : ks[a]? = some ks[a] := List.getElem?_eq_getElem ha
    obtain ⟨r, hr⟩ := lt_row (sn.lt _ (List.getElem_mem ha))
    refine ⟨(recv_lst hl).2.1, ?_⟩
    rw [ok_getL hl (atI_nat (j := a) (a := at_ T ks[a]) (by simp [chs, hk]))]
    rw [L.at hr]
    refine parts_ok L hr ?_
    have hlen := sn.len Zs
    have few := (L.row _ r hr).1.few
    rw [ok_extendT hl (by rw [chs_len, chs_len, List.length_append, sizeLine_eq]; omega)]
    refine ⟨_, _, rfl, rfl, ?_⟩
    rw [ok_addI]
    obtain ⟨sn2, dec⟩ := sn.step L Zs hk hr
    refine ⟨_, dec, ks ++ (r.fs ++ r.ts), a + 1, rfl, ?_, sn2, fun l c h => ?_, rfl⟩
    · rw [get_set hl, ← chs_append]
    · rw [get_set_ne (Nat.ne_of_lt (get_lt h))]
      exact inc l c h
  · rename_i hge
    have ha : a = ks.length := by
      have := sn.le
      simp at hge
      omega
    subst ha
    have e1 : ks.length = z Z i := by have := sn.sum; simpa [zs] using this
    exact hQ _ ks S' inc hl e1 sn.lt fun s => by have := sn.nm s; simpa using this
theorem size_ok (L : Lay rows T) (Zs : Sz rows Z) (hi : i < rows.length) (h60 : z Z i ≤ 60) (hQ : ∀ S', Inc S S' → Q (.int (z Z i)) S') : Ok (callN tab (n + 4) 5 [at_ T i] S) Q := by
  refine ok_call t5 rfl ?_
  simp only [df, b5, List.map_cons, List.map_nil, List.replicate, List.cons_append, List.nil_append, List.getElem?_cons_zero, List.getElem?_cons_succ, List.set_cons_zero, List.set_cons_succ, Nat.reduceSub, Nat.reduceAdd, List.length_cons, List.length_nil]
  simp only [el_nil, el_cons, es_pass, es_brk, es_cnt, es_retN, es_ret, es_exp, es_asg, es_par, es_par3, es_aug, es_ite, es_for, es_step, es_whl, ev_var, ev_glb, ev_non, ev_bl, ev_int, ev_str, ev_bin, ev_neg, ev_cmp, ev_not, ev_ife, ev_tup, ev_lst, ev_dct, ev_idx, ev_slc, ev_rev, ev_call, ev_callk, ev_bi, ev_mth, ev_lcp, ev_ssc, ev_and1, ev_and2, ev_or1, ev_or2, ev_nil, ev_cons, ev_pnil, ev_pcons, ev_onone, ev_osome, et_cmp, et_chn, et_not, et_bl, et_var, et_call, et_bi, et_idx, et_and1, et_and2, et_or1, et_or2, ec_none, ec_some, eg_name, eg_sub, eg_tup, eg_nil, eg_cons, ei_val, ei_rng1, ei_rng2, List.map_cons, List.map_nil, List.replicate, List.cons_append, List.nil_append, List.getElem?_cons_zero, List.getElem?_cons_succ, List.set_cons_zero, List.set_cons_succ, Nat.reduceSub, Nat.reduceAdd, List.length_cons, List.length_nil]
  refine terms_ok L Zs hi h60 fun l ks S' inc hl e _ _ => ?_
  rw [ok_lenL hl, chs_len, e]
  exact hQ S' inc
/-- a term's word, and its second part -/
theorem mkT_head (r : Row) (T : List D) : ∃ rest, mkT r T = .tup (.str r.w :: rest) ∧ (r.w ∈ (["call", "given", "part"] : List Str) → ∃ tl, rest = .str r.nm :: tl) := by
  obtain ⟨w, nm, fs, ts⟩ := r
  unfold mkT
  split
  · rename_i h
    refine ⟨_, rfl, fun h2 => ?_⟩
    exfalso
    dsimp only at h h2
    simp only [List.mem_cons, List.not_mem_nil, or_false] at h h2
    rcases h with rfl | rfl | rfl <;> rcases h2 with h2 | h2 | h2 <;> exact absurd h2 (by decide)
  · split
    · exact ⟨_, rfl, fun _ => ⟨_, rfl⟩⟩
    · split
      · exact ⟨_, rfl, fun _ => ⟨_, rfl⟩⟩
      · split
        · rename_i h
          refine ⟨_, rfl, fun h2 => ?_⟩
          exfalso
          dsimp only at h h2
          subst h
          exact absurd h2 (by decide)
        · split
          · rename_i h
            refine ⟨_, rfl, fun h2 => ?_⟩
            exfalso
            dsimp only at h h2
            subst h
            exact absurd h2 (by decide)
          · exact ⟨_, rfl, fun _ => ⟨_, rfl⟩⟩
end
end Law
namespace Law
open PySem PySem.Spec PyProof.Rows L2 Fw
section
variable {n : Nat} {S : Store} {Q : D → Store → Prop} {rows : List Row} {T : List D} {Z : List Nat} {i : Nat}
theorem own_iff {k : Nat} {r : Row} {s : Str} (hr : rows[k]? = some r) : Own rows k s ↔ r.w ∈ (["call", "given", "part"] : List Str) ∧ r.nm = s := by
  constructor
  · rintro ⟨r', h1, h2, h3⟩
    rw [hr] at h1
    cases h1
    exact ⟨h2, h3⟩
  · rintro ⟨h1, h2⟩
    exact ⟨r, hr, h1, h2⟩
theorem names_ok (L : Lay rows T) (Zs : Sz rows Z) (hi : i < rows.length) (h60 : z Z i ≤ 60)
    (hQ : ∀ ss S', Inc S S' → (∀ s, s ∈ ss ↔ Nin rows i s) → Q (.tup ((sortStr (dedup ss)).map .str)) S') :
    Ok (callN tab (n + 4) 6 [at_ T i] S) Q := by
  refine ok_call t6 rfl ?_
  simp only [df, b6, List.map_cons, List.map_nil, List.replicate, List.cons_append, List.nil_append, List.getElem?_cons_zero, List.getElem?_cons_succ, List.set_cons_zero, List.set_cons_succ, Nat.reduceSub, Nat.reduceAdd, List.length_cons, List.length_nil]
  simp only [el_nil, el_cons, es_pass, es_brk, es_cnt, es_retN, es_ret, es_exp, es_asg, es_par, es_par3, es_aug, es_ite, es_for, es_step, es_whl, ev_var, ev_glb, ev_non, ev_bl, ev_int, ev_str, ev_bin, ev_neg, ev_cmp, ev_not, ev_ife, ev_tup, ev_lst, ev_dct, ev_idx, ev_slc, ev_rev, ev_call, ev_callk, ev_bi, ev_mth, ev_lcp, ev_ssc, ev_and1, ev_and2, ev_or1, ev_or2, ev_nil, ev_cons, ev_pnil, ev_pcons, ev_onone, ev_osome, et_cmp, et_chn, et_not, et_bl, et_var, et_call, et_bi, et_idx, et_and1, et_and2, et_or1, et_or2, ec_none, ec_some, eg_name, eg_sub, eg_tup, eg_nil, eg_cons, ei_val, ei_rng1, ei_rng2, List.map_cons, List.map_nil, List.replicate, List.cons_append, List.nil_append, List.getElem?_cons_zero, List.getElem?_cons_succ, List.set_cons_zero, List.set_cons_succ, Nat.reduceSub, Nat.reduceAdd, List.length_cons, List.length_nil]
  refine terms_ok L Zs hi h60 fun l ks S' inc hl hlen hlt hnm => ?_
  rw [ok_walk hl]
  refine ⟨by rw [chs_len, hlen, sizeLine_eq]; omega, ?_⟩
  dsimp only
  have hw : wipeE [some (at_ T i), none] [1] = [some (at_ T i), none] := rfl
  rw [hw]
  refine comp_ok (fun j acc S2 => S2 = S' ∧ ∃ ss, acc = ss.map D.str ∧ ss.length ≤ j ∧ ∀ s, s ∈ ss ↔ ∃ k ∈ ks.take j, Own rows k s) ⟨rfl, [], rfl, Nat.le_refl _, fun s => by simp⟩ ?_ ?_
  · rintro j x acc S2 hx ⟨rfl, ss, rfl, hle, hss⟩
    refine ⟨gOk_one hl, ?_⟩
    obtain ⟨k, hk, rfl⟩ : ∃ k, ks[j]? = some k ∧ x = at_ T k := by
      unfold chs at hx
      rw [List.getElem?_map] at hx
      obtain ⟨k, h1, h2⟩ := Option.map_eq_some_iff.mp hx
      exact ⟨k, h1, h2.symm⟩
    obtain ⟨r, hr⟩ := lt_row (hlt k (List.mem_of_getElem? hk))
    obtain ⟨rest, hm, hm2⟩ := mkT_head r T
    rw [L.at hr, hm]
    have ht : ks.take (j + 1) = ks.take j ++ [k] := by
      rw [List.take_add_one, hk]; rfl
    simp only [el_nil, el_cons, es_pass, es_brk, es_cnt, es_retN, es_ret, es_exp, es_asg, es_par, es_par3, es_aug, es_ite, es_for, es_step, es_whl, ev_var, ev_glb, ev_non, ev_bl, ev_int, ev_str, ev_bin, ev_neg, ev_cmp, ev_not, ev_ife, ev_tup, ev_lst, ev_dct, ev_idx, ev_slc, ev_rev, ev_call, ev_callk, ev_bi, ev_mth, ev_lcp, ev_ssc, ev_and1, ev_and2, ev_or1, ev_or2, ev_nil, ev_cons, ev_pnil, ev_pcons, ev_onone, ev_osome, et_cmp, et_chn, et_not, et_bl, et_var, et_call, et_bi, et_idx, et_and1, et_and2, et_or1, et_or2, ec_none, ec_some, eg_name, eg_sub, eg_tup, eg_nil, eg_cons, ei_val, ei_rng1, ei_rng2, List.map_cons, List.map_nil, List.replicate, List.cons_append, List.nil_append, List.getElem?_cons_zero, List.getElem?_cons_succ, List.set_cons_zero, List.set_cons_succ, Nat.reduceSub, Nat.reduceAdd, List.length_cons, List.length_nil]
    rw [ok_getT (d := .str r.w) atI0]
    refine ⟨by decide, if_some (cmpIn (in_strs (ws := ["call", "given", "part"]) rfl (L.row k r hr).1.sh.ok (by decide +kernel))) ?_⟩
    split
    · rename_i hb
      have hb := of_decide_eq_true hb
      obtain ⟨tl, rfl⟩ := hm2 hb
      rw [ok_getT (d := .str r.nm) atI1]
      refine ⟨rfl, ss ++ [r.nm], by simp, by simp; omega, fun s => ?_⟩
      rw [ht]
      constructor
      · intro h
        rcases List.mem_append.mp h with h | h
        · obtain ⟨k', h1, h2⟩ := (hss s).mp h
          exact ⟨k', List.mem_append_left _ h1, h2⟩
        · exact ⟨k, List.mem_append_right _ (List.mem_singleton.mpr rfl), (own_iff hr).mpr ⟨hb, (List.mem_singleton.mp h).symm⟩⟩
      · rintro ⟨k', h1, h2⟩
        rcases List.mem_append.mp h1 with h1 | h1
        · exact List.mem_append_left _ ((hss s).mpr ⟨k', h1, h2⟩)
        · rw [List.mem_singleton.mp h1] at h2
          exact List.mem_append_right _ (List.mem_singleton.mpr ((own_iff hr).mp h2).2.symm)
    · rename_i hb
      refine ⟨rfl, ss, rfl, by omega, fun s => ?_⟩
      rw [hss s, ht]
      constructor
      · rintro ⟨k', h1, h2⟩
        exact ⟨k', List.mem_append_left _ h1, h2⟩
      · rintro ⟨k', h1, h2⟩
        rcases List.mem_append.mp h1 with h1 | h1
        · exact ⟨k', h1, h2⟩
        · rw [List.mem_singleton.mp h1] at h2
          exact absurd (decide_eq_true ((own_iff hr).mp h2).1) hb
  · rintro acc S2 ⟨rfl, ss, rfl, hle, hss⟩
    refine ⟨gOk_one hl, ss, allStrs_map ss, ?_, ?_⟩
    · have := dedup_len ss
      rw [chs_len, hlen] at hle
      omega
    · rw [ok_tupleL get_new]
      refine hQ ss _ (inc.trans (Inc.app _)) fun s => ?_
      rw [hss s, hnm s, chs_len, List.take_length]
/-! ### the law's plan in the store -/
def ints_ (l : List Nat) : List D := l.map fun k => D.int (k : Nat)
def RowAt (S : Store) (r : Row) (x : D) : Prop := ∃ lf lt, x = .tup [.str r.w, .str r.nm, .loc lf, .loc lt] ∧ S[lf]? = some (.lst (ints_ r.fs)) ∧ S[lt]? = some (.lst (ints_ r.ts))
structure PlanAt (S : Store) (P : Nat) (rows : List Row) (ds : List D) : Prop where
  pl : S[P]? = some (.lst ds)
  len : ds.length = rows.length
  row : ∀ (i : Nat) (r : Row), rows[i]? = some r → ∃ x, ds[i]? = some x ∧ RowAt S r x
theorem RowAt.keep {S S' : Store} {r : Row} {x : D} (h : RowAt S r x) (i : Inc S S') : RowAt S' r x := by
  obtain ⟨lf, lt, e, h1, h2⟩ := h
  exact ⟨lf, lt, e, i _ _ h1, i _ _ h2⟩
theorem PlanAt.keep {S S' : Store} {P : Nat} {ds : List D} (h : PlanAt S P rows ds) (i : Inc S S') : PlanAt S' P rows ds :=
  ⟨i _ _ h.pl, h.len, fun j r hr => let ⟨x, h1, h2⟩ := h.row j r hr; ⟨x, h1, h2.keep i⟩⟩
theorem ints_append {l m : List Nat} : ints_ (l ++ m) = ints_ l ++ ints_ m := by simp [ints_]
theorem ints_len {l : List Nat} : (ints_ l).length = l.length := by simp [ints_]
theorem ints_int (l : List Nat) : ints_ l = (l.map fun (k : Nat) => (k : Int)).map D.int := by simp [ints_, Function.comp]
theorem t16 : tab.defs[16]? = some (df 16) := rfl
theorem put_true {keys : List Str} {s : Str} : putKey (.inr s) (.bl true) (keys.map fun s => ((.inr s, .bl true) : Key × D)) = (addS keys s).map fun s => ((.inr s, .bl true) : Key × D) := by
  unfold putKey addS
  have e1 : ((keys.map fun s => ((.inr s, .bl true) : Key × D)).any fun kv => decide (kv.1 = .inr s)) = decide (s ∈ keys) := by
    induction keys with
    | nil => rfl
    | cons k ks ih =>
      rw [List.map_cons, List.any_cons, ih]
      by_cases h : k = s
      · subst h; simp
      · have h' : ¬ s = k := fun e => h e.symm
        simp [h, h']
  rw [e1]
  by_cases h : s ∈ keys
  · rw [if_pos (decide_eq_true h), if_pos h, List.map_map]
    apply List.map_congr_left
    intro a _
    simp only [Function.comp]
    split <;> rfl
  · rw [if_neg (by simpa using h), if_neg h, List.map_append]
    rfl
/-- the turns of the law's own search for names -/
def NInv (rows : List Row) (Z : List Nat) (i P wd fd : Nat) (S : Store) (m : Nat) (η : Fw.Env) (S' : Store) : Prop :=
  ∃ (ws : List Nat) (keys : List Str) (e4 e5 e6 e7 : Option D), η = [some (.loc P), some (.int (i : Nat)), some (.loc wd), some (.loc fd), e4, e5, e6, e7] ∧ S'[wd]? = some (.lst (ints_ ws)) ∧ S'[fd]? = some (.dct (keys.map fun s => (.inr s, .bl true))) ∧
    keys.Nodup ∧ (∀ k ∈ ws, k < rows.length) ∧ (∀ s, Nin rows i s ↔ s ∈ keys ∨ ∃ k ∈ ws, Nin rows k s) ∧ keys.length + zs Z ws ≤ z Z i ∧ Inc S S' ∧ m = zs Z ws
theorem namesOf_ok {P : Nat} {ds : List D} (L : Lay rows T) (Zs : Sz rows Z) (hi : i < rows.length) (h60 : z Z i ≤ 60) (hP : PlanAt S P rows ds)
    (hQ : ∀ ks S', Inc S S' → ks.Nodup → ks.length < 64 → (∀ s, s ∈ ks ↔ Nin rows i s) → Q (.tup ((sortStr ks).map .str)) S') :
    Ok (callN tab (n + 1) 16 [.loc P, .int (i : Nat)] S) Q := by
  refine ok_call t16 rfl ?_
  simp only [df, b16, List.map_cons, List.map_nil, List.replicate, List.cons_append, List.nil_append, List.getElem?_cons_zero, List.getElem?_cons_succ, List.set_cons_zero, List.set_cons_succ, Nat.reduceSub, Nat.reduceAdd, List.length_cons, List.length_nil]
  simp only [el_nil, el_cons, es_pass, es_brk, es_cnt, es_retN, es_ret, es_exp, es_asg, es_par, es_par3, es_aug, es_ite, es_for, es_step, es_whl, ev_var, ev_glb, ev_non, ev_bl, ev_int, ev_str, ev_bin, ev_neg, ev_cmp, ev_not, ev_ife, ev_tup, ev_lst, ev_dct, ev_idx, ev_slc, ev_rev, ev_call, ev_callk, ev_bi, ev_mth, ev_lcp, ev_ssc, ev_and1, ev_and2, ev_or1, ev_or2, ev_nil, ev_cons, ev_pnil, ev_pcons, ev_onone, ev_osome, et_cmp, et_chn, et_not, et_bl, et_var, et_call, et_bi, et_idx, et_and1, et_and2, et_or1, et_or2, ec_none, ec_some, eg_name, eg_sub, eg_tup, eg_nil, eg_cons, ei_val, ei_rng1, ei_rng2, List.map_cons, List.map_nil, List.replicate, List.cons_append, List.nil_append, List.getElem?_cons_zero, List.getElem?_cons_succ, List.set_cons_zero, List.set_cons_succ, Nat.reduceSub, Nat.reduceAdd, List.length_cons, List.length_nil]
  refine ⟨by decide, by decide, ?_⟩
  have hw0 : (S ++ [Cell.lst [D.int (i : Nat)]] ++ [Cell.dct (mergeD [] [])])[S.length]? = some (.lst (ints_ [i])) := get_app get_new
  have hf0 : (S ++ [Cell.lst [D.int (i : Nat)]] ++ [Cell.dct (mergeD [] [])])[(S ++ [Cell.lst [D.int (i : Nat)]]).length]? = some (.dct []) := get_new
  have hi0 : Inc S (S ++ [Cell.lst [D.int (i : Nat)]] ++ [Cell.dct (mergeD [] [])]) := (Inc.app _).trans (Inc.app _)
  have hne0 : S.length ≠ (S ++ [Cell.lst [D.int (i : Nat)]]).length := by simp
  have hb1 : ∀ (l : Nat) (c : Cell), S[l]? = some c → l ≠ S.length ∧ l ≠ (S ++ [Cell.lst [D.int (i : Nat)]]).length := fun l c h => by
    have := get_lt h
    simp
    omega
  generalize hS1 : S ++ [Cell.lst [D.int (i : Nat)]] ++ [Cell.dct (mergeD [] [])] = S1 at hw0 hf0 hi0 ⊢
  generalize (S ++ [Cell.lst [D.int (i : Nat)]]).length = fd at hf0 hne0 hb1 ⊢
  generalize S.length = wd at hw0 hne0 hb1 ⊢
  refine whl_ok (NInv rows Z i P wd fd S) ?_ 1000 (z Z i) _ _ (by omega)
    ⟨[i], [], _, _, _, _, rfl, hw0, hf0, List.nodup_nil, by simpa using hi, fun s => by simp, by simp [zs], hi0, by simp [zs]⟩
  rintro m η S' ⟨ws, keys, e4, e5, e6, e7, rfl, hw, hf, nd, hlt, hnm, hz, inc, rfl⟩
  simp only [el_nil, el_cons, es_pass, es_brk, es_cnt, es_retN, es_ret, es_exp, es_asg, es_par, es_par3, es_aug, es_ite, es_for, es_step, es_whl, ev_var, ev_glb, ev_non, ev_bl, ev_int, ev_str, ev_bin, ev_neg, ev_cmp, ev_not, ev_ife, ev_tup, ev_lst, ev_dct, ev_idx, ev_slc, ev_rev, ev_call, ev_callk, ev_bi, ev_mth, ev_lcp, ev_ssc, ev_and1, ev_and2, ev_or1, ev_or2, ev_nil, ev_cons, ev_pnil, ev_pcons, ev_onone, ev_osome, et_cmp, et_chn, et_not, et_bl, et_var, et_call, et_bi, et_idx, et_and1, et_and2, et_or1, et_or2, ec_none, ec_some, eg_name, eg_sub, eg_tup, eg_nil, eg_cons, ei_val, ei_rng1, ei_rng2, List.map_cons, List.map_nil, List.replicate, List.cons_append, List.nil_append, List.getElem?_cons_zero, List.getElem?_cons_succ, List.set_cons_zero, List.set_cons_succ, Nat.reduceSub, Nat.reduceAdd, List.length_cons, List.length_nil]
  refine ⟨by decide, ?_⟩
  have hw2 : (S' ++ [Cell.lst []])[wd]? = some (.lst (ints_ ws)) := get_app hw
  have hf2 : (S' ++ [Cell.lst []])[fd]? = some (.dct (keys.map fun s => (.inr s, .bl true))) := get_app hf
  have inc2 : Inc S (S' ++ [Cell.lst []]) := inc.trans (Inc.app _)
  rw [ints_int] at hw2
  refine if_some (cmpNe (eq_nil_ints hw2 get_new)) ?_
  rw [← ints_int] at hw2
  generalize S' ++ [Cell.lst []] = S2 at hw2 hf2 inc2 ⊢
  cases hx : ws.isEmpty with
  | true =>
    have : ws = [] := List.isEmpty_iff.mp hx
    subst this
    simp only [List.map_nil, List.isEmpty_nil, Bool.not_true, Bool.false_eq_true, if_false]
    have hk64 : keys.length < 64 := by omega
    rw [ok_sortedD hf2 (strKeys_map _ keys) hk64, ok_tupleL get_new]
    exact hQ keys _ (inc2.trans (Inc.app _)) nd hk64 fun s => by have := hnm s; simpa using this.symm
  | false =>
    obtain ⟨ws', k, rfl⟩ := snoc_of hx
    have e0 : ((ws' ++ [k]).map fun (k : Nat) => (k : Int)).isEmpty = false := by simp
    rw [e0]
    simp only [Bool.not_false, if_true]
    refine ⟨(recv_lst hw2).2.2, ?_⟩
    rw [ints_append] at hw2
    rw [ok_pop (d := .int (k : Nat)) hw2]
    have hklt : k < rows.length := hlt k (by simp)
    obtain ⟨r, hr⟩ := lt_row hklt
    have hP3 : PlanAt (S2.set wd (.lst (ints_ ws'))) P rows ds := hP.keep fun l c h => by rw [get_set_ne (hb1 l c h).1]; exact inc2 l c h
    have hw3 : (S2.set wd (.lst (ints_ ws')))[wd]? = some (.lst (ints_ ws')) := get_set hw2
    have hf3 : (S2.set wd (.lst (ints_ ws')))[fd]? = some (.dct (keys.map fun s => (.inr s, .bl true))) := by rw [get_set_ne hne0.symm]; exact hf2
    have inc3 : Inc S (S2.set wd (.lst (ints_ ws'))) := fun l c h => by rw [get_set_ne (hb1 l c h).1]; exact inc2 l c h
    generalize S2.set wd (.lst (ints_ ws')) = S3 at hP3 hw3 hf3 inc3 ⊢
    obtain ⟨x, hx1, lf, lt, rfl, hlf, hlt2⟩ := hP3.row k r hr
    have few := (L.row k r hr).1.few
    have hz' := Zs.at hr
    rw [zs_append, zs_cons, show zs Z [] = 0 from rfl, hz'] at hz
    rw [ok_getL hP3.pl (Fw.atI_nat hx1)]
    simp only [el_nil, el_cons, es_pass, es_brk, es_cnt, es_retN, es_ret, es_exp, es_asg, es_par, es_par3, es_aug, es_ite, es_for, es_step, es_whl, ev_var, ev_glb, ev_non, ev_bl, ev_int, ev_str, ev_bin, ev_neg, ev_cmp, ev_not, ev_ife, ev_tup, ev_lst, ev_dct, ev_idx, ev_slc, ev_rev, ev_call, ev_callk, ev_bi, ev_mth, ev_lcp, ev_ssc, ev_and1, ev_and2, ev_or1, ev_or2, ev_nil, ev_cons, ev_pnil, ev_pcons, ev_onone, ev_osome, et_cmp, et_chn, et_not, et_bl, et_var, et_call, et_bi, et_idx, et_and1, et_and2, et_or1, et_or2, ec_none, ec_some, eg_name, eg_sub, eg_tup, eg_nil, eg_cons, ei_val, ei_rng1, ei_rng2, List.map_cons, List.map_nil, List.replicate, List.cons_append, List.nil_append, List.getElem?_cons_zero, List.getElem?_cons_succ, List.set_cons_zero, List.set_cons_succ, Nat.reduceSub, Nat.reduceAdd, List.length_cons, List.length_nil]
    refine ⟨by simp [GL.len], by decide, if_some (cmpIn (in_strs (ws := ["call", "part", "given"]) rfl (L.row k r hr).1.sh.ok (by decide +kernel))) ?_⟩
    have hwl : ∀ j ∈ ws' ++ (r.fs ++ r.ts), j < rows.length := fun j hj => by
      rcases List.mem_append.mp hj with hj | hj
      · exact hlt j (List.mem_append_left _ hj)
      · have := (L.row k r hr).1.lt j hj
        omega
    -- the rest of the turn
    have rest : ∀ (keys' : List Str) (S4 : Store), S4[wd]? = some (.lst (ints_ ws')) → S4[fd]? = some (.dct (keys'.map fun s => (.inr s, .bl true))) → S4[lf]? = some (.lst (ints_ r.fs)) → S4[lt]? = some (.lst (ints_ r.ts)) → Inc S S4 → keys'.Nodup → keys'.length ≤ keys.length + 1 →
        (∀ s, Nin rows i s ↔ s ∈ keys' ∨ ∃ j ∈ ws' ++ (r.fs ++ r.ts), Nin rows j s) →
        Ok (binop .Add (.loc lf) (.loc lt) S4) fun x S1 => Ok (mtcall .extend (.loc wd) [x] S1) fun d S1 => ∃ m', m' < zs Z (ws' ++ [k]) ∧ NInv rows Z i P wd fd S m' [some (.loc P), some (.int (i : Nat)), some (.loc wd), some (.loc fd), some (D.str r.w), some (D.str r.nm), some (D.loc lf), some (D.loc lt)] S1 := by
      intro keys' S4 h1 h2 h3 h4 h5 h6 h7 h8
      rw [ok_addL h3 h4 (by rw [ints_len, ints_len, sizeLine_eq]; omega), ok_extendL (get_app h1) get_new (by
        rw [List.length_append, ints_len, ints_len, ints_len, sizeLine_eq]
        have : ws'.length ≤ zs Z ws' := by
          have : ∀ l : List Nat, (∀ k ∈ l, k < rows.length) → l.length ≤ zs Z l := by
            intro l
            induction l with
            | nil => intro _; simp
            | cons k l ih =>
              intro hl
              obtain ⟨r, hr⟩ := lt_row (hl k (List.mem_cons_self ..))
              have := ih fun j hj => hl j (List.mem_cons_of_mem _ hj)
              rw [zs_cons, Zs.at hr, List.length_cons]
              omega
          exact this ws' fun j hj => hlt j (List.mem_append_left _ hj)
        omega)]
      refine ⟨_, ?_, ws' ++ (r.fs ++ r.ts), keys', _, _, _, _, rfl, ?_, ?_, h6, hwl, h8, ?_, fun l c h => ?_, rfl⟩
      · have q1 : zs Z (ws' ++ [k]) = zs Z ws' + (1 + zs Z (r.fs ++ r.ts) + 0) := by rw [zs_append, zs_cons, hz']; rfl
        rw [zs_append, q1]
        omega
      · rw [get_set (get_app h1), ints_append, ints_append]
      · rw [get_set_ne hne0.symm]; exact get_app h2
      · rw [zs_append]; omega
      · rw [get_set_ne (hb1 l c h).1]; exact get_app (h5 l c h)
    have mem : ∀ s, Nin rows i s ↔ s ∈ keys ∨ Own rows k s ∨ ∃ j ∈ ws' ++ (r.fs ++ r.ts), Nin rows j s := fun s => by
      rw [hnm s]
      constructor
      · rintro (h | ⟨j, hj, h⟩)
        · exact .inl h
        · rcases List.mem_append.mp hj with hj | hj
          · exact .inr (.inr ⟨j, List.mem_append_left _ hj, h⟩)
          · rw [List.mem_singleton.mp hj] at h
            rcases (nin_iff hr).mp h with h | ⟨c, hc, h⟩
            · exact .inr (.inl h)
            · exact .inr (.inr ⟨c, List.mem_append_right _ hc, h⟩)
      · rintro (h | h | ⟨j, hj, h⟩)
        · exact .inl h
        · exact .inr ⟨k, by simp, .own h⟩
        · rcases List.mem_append.mp hj with hj | hj
          · exact .inr ⟨j, List.mem_append_left _ hj, h⟩
          · exact .inr ⟨k, by simp, .sub hr hj h⟩
    have mem3 : r.w ∈ (["call", "part", "given"] : List Str) ↔ r.w ∈ (["call", "given", "part"] : List Str) := by
      simp only [List.mem_cons, List.not_mem_nil, or_false]
      constructor <;> rintro (h | h | h) <;> simp [h]
    split
    · rename_i hb
      have hb := mem3.mp (of_decide_eq_true hb)
      rw [ok_setD hf3 rfl (by rw [List.length_map, sizeLine_eq]; omega), put_true]
      refine ⟨(recv_lst (by rw [get_set_ne hne0]; exact hw3)).2.1, ?_⟩
      have hne : ∀ l c, S3[l]? = some (.lst c) → l ≠ fd := fun l c h e => by subst e; rw [hf3] at h; cases h
      refine rest (addS keys r.nm) _ (by rw [get_set_ne hne0]; exact hw3) (get_set hf3) (by rw [get_set_ne (hne _ _ hlf)]; exact hlf) (by rw [get_set_ne (hne _ _ hlt2)]; exact hlt2) (fun l c h => by rw [get_set_ne (hb1 l c h).2]; exact inc3 l c h) (nodup_addS nd) (by unfold addS; split <;> simp) fun s => ?_
      rw [mem s, mem_addS, own_iff hr]
      constructor
      · rintro (h | ⟨_, h⟩ | h)
        · exact .inl (.inl h)
        · exact .inl (.inr h.symm)
        · exact .inr h
      · rintro ((h | h) | h)
        · exact .inl h
        · exact .inr (.inl ⟨hb, h.symm⟩)
        · exact .inr (.inr h)
    · rename_i hb
      refine ⟨(recv_lst hw3).2.1, rest keys _ hw3 hf3 hlf hlt2 inc3 nd (by omega) fun s => ?_⟩
      rw [mem s, own_iff hr]
      constructor
      · rintro (h | ⟨h, _⟩ | h)
        · exact .inl h
        · exact absurd (decide_eq_true (mem3.mpr h)) hb
        · exact .inr h
      · rintro (h | h)
        · exact .inl h
        · exact .inr (.inr h)
end
end Law
namespace Law
open PySem PySem.Spec PyProof.Rows L2 Fw
def kids (r : Row) : List Nat := r.fs ++ r.ts
def stepTo (rows : List Row) (o : Option Nat) (w : Int) : Option Nat := match o with
  | none => none
  | some k => match rows[k]? with
    | none => none
    | some r => if 0 ≤ w ∧ w < ((kids r).length : Int) then (kids r)[w.toNat]? else none
def walk (rows : List Row) (i : Nat) (ws : List Int) : Option Nat := ws.foldl (stepTo rows) (some i)
theorem foldl_none {rows : List Row} : ∀ ws : List Int, ws.foldl (stepTo rows) none = none
  | [] => rfl
  | w :: ws => foldl_none ws
theorem walk_none {rows : List Row} {ws : List Int} {j : Nat} {o : Option Nat} (h : (ws.take j).foldl (stepTo rows) o = none) : ws.foldl (stepTo rows) o = none := by
  rw [← List.take_append_drop j ws, List.foldl_append, h]
  exact foldl_none _
theorem walk_succ {rows : List Row} {ws : List Int} {j : Nat} {w : Int} {o : Option Nat} (h : ws[j]? = some w) : (ws.take (j + 1)).foldl (stepTo rows) o = stepTo rows ((ws.take j).foldl (stepTo rows) o) w := by
  rw [List.take_add_one, h, List.foldl_append]; rfl
theorem atI_int {α : Type} {xs : List α} {w : Int} {a : α} (h0 : 0 ≤ w) (h : xs[w.toNat]? = some a) : L2.atI xs w = some a := by
  have : ((w.toNat : Nat) : Int) = w := Int.toNat_of_nonneg h0
  have q := Fw.atI_nat (j := w.toNat) h
  rwa [this] at q
theorem t3 : tab.defs[3]? = some (df 3) := rfl
theorem t15 : tab.defs[15]? = some (df 15) := rfl
def optT (T : List D) : Option Nat → D
  | none => .non
  | some k => at_ T k
def optI : Option Nat → D
  | none => .non
  | some k => .int (k : Nat)
section
variable {n : Nat} {S : Store} {Q : D → Store → Prop} {rows : List Row} {T : List D} {Z : List Nat} {i : Nat}
theorem step_some {k : Nat} {r : Row} {w : Int} (hr : rows[k]? = some r) (hw : 0 ≤ w ∧ w < ((kids r).length : Int)) : ∃ c, (kids r)[w.toNat]? = some c ∧ stepTo rows (some k) w = some c ∧ c ∈ kids r := by
  have : w.toNat < (kids r).length := by omega
  refine ⟨(kids r)[w.toNat], List.getElem?_eq_getElem this, ?_, List.getElem_mem this⟩
  simp only [stepTo, hr]
  rw [if_pos hw, List.getElem?_eq_getElem this]
theorem step_none {k : Nat} {r : Row} {w : Int} (hr : rows[k]? = some r) (hw : ¬ (0 ≤ w ∧ w < ((kids r).length : Int))) : stepTo rows (some k) w = none := by
  simp only [stepTo, hr]
  rw [if_neg hw]
theorem part_ok (L : Lay rows T) (hi : i < rows.length) (ws : List Int) (hQ : Q (optT T (walk rows i ws)) S) :
    Ok (callN tab (n + 3) 3 [at_ T i, .tup (ws.map .int)] S) Q := by
  refine ok_call t3 rfl ?_
  simp only [df, b3, List.map_cons, List.map_nil, List.replicate, List.cons_append, List.nil_append, List.getElem?_cons_zero, List.getElem?_cons_succ, List.set_cons_zero, List.set_cons_succ, Nat.reduceSub, Nat.reduceAdd, List.length_cons, List.length_nil]
  simp only [el_nil, el_cons, es_pass, es_brk, es_cnt, es_retN, es_ret, es_exp, es_asg, es_par, es_par3, es_aug, es_ite, es_for, es_step, es_whl, ev_var, ev_glb, ev_non, ev_bl, ev_int, ev_str, ev_bin, ev_neg, ev_cmp, ev_not, ev_ife, ev_tup, ev_lst, ev_dct, ev_idx, ev_slc, ev_rev, ev_call, ev_callk, ev_bi, ev_mth, ev_lcp, ev_ssc, ev_and1, ev_and2, ev_or1, ev_or2, ev_nil, ev_cons, ev_pnil, ev_pcons, ev_onone, ev_osome, et_cmp, et_chn, et_not, et_bl, et_var, et_call, et_bi, et_idx, et_and1, et_and2, et_or1, et_or2, ec_none, ec_some, eg_name, eg_sub, eg_tup, eg_nil, eg_cons, ei_val, ei_rng1, ei_rng2, List.map_cons, List.map_nil, List.replicate, List.cons_append, List.nil_append, List.getElem?_cons_zero, List.getElem?_cons_succ, List.set_cons_zero, List.set_cons_succ, Nat.reduceSub, Nat.reduceAdd, List.length_cons, List.length_nil]
  rw [ok_walk_tup]
  refine for_ok (fun j η S' => S' = S ∧ ∃ k e2 e3, (ws.take j).foldl (stepTo rows) (some i) = some k ∧ k < rows.length ∧ η = [some (at_ T k), some (.tup (ws.map .int)), e2, e3]) ⟨rfl, i, _, _, rfl, hi, rfl⟩ ?_ ?_
  · rintro j x η S' hx ⟨rfl, k, e2, e3, hk, hkl, rfl⟩
    refine ⟨rfl, ?_⟩
    rw [List.getElem?_map] at hx
    obtain ⟨w, hw, rfl⟩ := Option.map_eq_some_iff.mp hx
    obtain ⟨r, hr⟩ := lt_row hkl
    rw [es_step]
    simp only [el_nil, el_cons, es_pass, es_brk, es_cnt, es_retN, es_ret, es_exp, es_asg, es_par, es_par3, es_aug, es_ite, es_for, es_step, es_whl, ev_var, ev_glb, ev_non, ev_bl, ev_int, ev_str, ev_bin, ev_neg, ev_cmp, ev_not, ev_ife, ev_tup, ev_lst, ev_dct, ev_idx, ev_slc, ev_rev, ev_call, ev_callk, ev_bi, ev_mth, ev_lcp, ev_ssc, ev_and1, ev_and2, ev_or1, ev_or2, ev_nil, ev_cons, ev_pnil, ev_pcons, ev_onone, ev_osome, et_cmp, et_chn, et_not, et_bl, et_var, et_call, et_bi, et_idx, et_and1, et_and2, et_or1, et_or2, ec_none, ec_some, eg_name, eg_sub, eg_tup, eg_nil, eg_cons, ei_val, ei_rng1, ei_rng2, List.map_cons, List.map_nil, List.replicate, List.cons_append, List.nil_append, List.getElem?_cons_zero, List.getElem?_cons_succ, List.set_cons_zero, List.set_cons_succ, Nat.reduceSub, Nat.reduceAdd, List.length_cons, List.length_nil]
    rw [L.at hr]
    refine parts_ok L hr ?_
    have hs := walk_succ (rows := rows) (o := some i) hw
    rw [hk] at hs
    refine if_some cmpLe ?_
    by_cases h0 : 0 ≤ w
    · rw [decide_eq_true h0]
      simp only [if_true]
      rw [ok_lenT, chs_len]
      refine if_some cmpLt ?_
      by_cases h1 : w < ((r.fs ++ r.ts).length : Int)
      · rw [decide_eq_true h1]
        simp only [Bool.not_true, Bool.false_eq_true, if_false]
        obtain ⟨c, hc, hc2, hc3⟩ := step_some hr ⟨h0, h1⟩
        rw [ok_getT (atI_int h0 (a := at_ T c) (by show (chs T (kids r))[w.toNat]? = _; unfold chs; rw [List.getElem?_map, hc]; rfl))]
        refine ⟨rfl, c, _, _, by rw [hs, hc2], ?_, rfl⟩
        have := (L.row k r hr).1.lt c hc3
        omega
      · rw [decide_eq_false h1]
        simp only [Bool.not_false, if_true]
        have : walk rows i ws = none := walk_none (j := j + 1) (by rw [hs, step_none hr fun q => h1 q.2])
        rw [this] at hQ
        exact hQ
    · rw [decide_eq_false h0]
      simp only [Bool.false_eq_true, if_false, Bool.not_false, if_true]
      have : walk rows i ws = none := walk_none (j := j + 1) (by rw [hs, step_none hr fun q => h0 q.1])
      rw [this] at hQ
      exact hQ
  · rintro η S' ⟨rfl, k, e2, e3, hk, hkl, rfl⟩
    refine ⟨rfl, ?_⟩
    simp only [el_nil, el_cons, es_pass, es_brk, es_cnt, es_retN, es_ret, es_exp, es_asg, es_par, es_par3, es_aug, es_ite, es_for, es_step, es_whl, ev_var, ev_glb, ev_non, ev_bl, ev_int, ev_str, ev_bin, ev_neg, ev_cmp, ev_not, ev_ife, ev_tup, ev_lst, ev_dct, ev_idx, ev_slc, ev_rev, ev_call, ev_callk, ev_bi, ev_mth, ev_lcp, ev_ssc, ev_and1, ev_and2, ev_or1, ev_or2, ev_nil, ev_cons, ev_pnil, ev_pcons, ev_onone, ev_osome, et_cmp, et_chn, et_not, et_bl, et_var, et_call, et_bi, et_idx, et_and1, et_and2, et_or1, et_or2, ec_none, ec_some, eg_name, eg_sub, eg_tup, eg_nil, eg_cons, ei_val, ei_rng1, ei_rng2, List.map_cons, List.map_nil, List.replicate, List.cons_append, List.nil_append, List.getElem?_cons_zero, List.getElem?_cons_succ, List.set_cons_zero, List.set_cons_succ, Nat.reduceSub, Nat.reduceAdd, List.length_cons, List.length_nil]
    rw [List.length_map, List.take_length] at hk
    have : walk rows i ws = some k := hk
    rw [this] at hQ
    exact hQ
theorem walked_ok {P : Nat} {ds : List D} (L : Lay rows T) (hi : i < rows.length) (hP : PlanAt S P rows ds) (ws : List Int)
    (hQ : ∀ S', Inc S S' → Q (optI (walk rows i ws)) S') :
    Ok (callN tab (n + 1) 15 [.loc P, .int (i : Nat), .tup (ws.map .int)] S) Q := by
  refine ok_call t15 rfl ?_
  simp only [df, b15, List.map_cons, List.map_nil, List.replicate, List.cons_append, List.nil_append, List.getElem?_cons_zero, List.getElem?_cons_succ, List.set_cons_zero, List.set_cons_succ, Nat.reduceSub, Nat.reduceAdd, List.length_cons, List.length_nil]
  simp only [el_nil, el_cons, es_pass, es_brk, es_cnt, es_retN, es_ret, es_exp, es_asg, es_par, es_par3, es_aug, es_ite, es_for, es_step, es_whl, ev_var, ev_glb, ev_non, ev_bl, ev_int, ev_str, ev_bin, ev_neg, ev_cmp, ev_not, ev_ife, ev_tup, ev_lst, ev_dct, ev_idx, ev_slc, ev_rev, ev_call, ev_callk, ev_bi, ev_mth, ev_lcp, ev_ssc, ev_and1, ev_and2, ev_or1, ev_or2, ev_nil, ev_cons, ev_pnil, ev_pcons, ev_onone, ev_osome, et_cmp, et_chn, et_not, et_bl, et_var, et_call, et_bi, et_idx, et_and1, et_and2, et_or1, et_or2, ec_none, ec_some, eg_name, eg_sub, eg_tup, eg_nil, eg_cons, ei_val, ei_rng1, ei_rng2, List.map_cons, List.map_nil, List.replicate, List.cons_append, List.nil_append, List.getElem?_cons_zero, List.getElem?_cons_succ, List.set_cons_zero, List.set_cons_succ, Nat.reduceSub, Nat.reduceAdd, List.length_cons, List.length_nil]
  rw [ok_walk_tup]
  refine for_ok (fun j η S' => Inc S S' ∧ ∃ ko e2 e3, (ws.take j).foldl (stepTo rows) (some i) = ko ∧ (∀ k, ko = some k → k < rows.length) ∧ η = [some (.loc P), some (optI ko), some (.tup (ws.map .int)), e2, e3]) ⟨Inc.refl, some i, _, _, rfl, fun k e => by cases e; exact hi, rfl⟩ ?_ ?_
  · rintro j x η S' hx ⟨inc, ko, e2, e3, hk, hkl, rfl⟩
    refine ⟨rfl, ?_⟩
    rw [List.getElem?_map] at hx
    obtain ⟨w, hw, rfl⟩ := Option.map_eq_some_iff.mp hx
    have hs := walk_succ (rows := rows) (o := some i) hw
    rw [hk] at hs
    rw [es_step]
    simp only [el_nil, el_cons, es_pass, es_brk, es_cnt, es_retN, es_ret, es_exp, es_asg, es_par, es_par3, es_aug, es_ite, es_for, es_step, es_whl, ev_var, ev_glb, ev_non, ev_bl, ev_int, ev_str, ev_bin, ev_neg, ev_cmp, ev_not, ev_ife, ev_tup, ev_lst, ev_dct, ev_idx, ev_slc, ev_rev, ev_call, ev_callk, ev_bi, ev_mth, ev_lcp, ev_ssc, ev_and1, ev_and2, ev_or1, ev_or2, ev_nil, ev_cons, ev_pnil, ev_pcons, ev_onone, ev_osome, et_cmp, et_chn, et_not, et_bl, et_var, et_call, et_bi, et_idx, et_and1, et_and2, et_or1, et_or2, ec_none, ec_some, eg_name, eg_sub, eg_tup, eg_nil, eg_cons, ei_val, ei_rng1, ei_rng2, List.map_cons, List.map_nil, List.replicate, List.cons_append, List.nil_append, List.getElem?_cons_zero, List.getElem?_cons_succ, List.set_cons_zero, List.set_cons_succ, Nat.reduceSub, Nat.reduceAdd, List.length_cons, List.length_nil]
    cases ko with
    | none =>
      refine ⟨false, rfl, ?_⟩
      simp only [Bool.false_eq_true, if_false]
      exact ⟨inc, none, _, _, hs, (fun k e => by cases e), rfl⟩
    | some k =>
      obtain ⟨r, hr⟩ := lt_row (hkl k rfl)
      refine ⟨true, rfl, ?_⟩
      simp only [if_true]
      have hP' := hP.keep inc
      obtain ⟨x, hx1, lf, lt, rfl, hlf, hlt2⟩ := hP'.row k r hr
      have few := (L.row k r hr).1.few
      unfold optI
      rw [ok_getL hP'.pl (Fw.atI_nat hx1), ok_getT atI2, ok_getL hP'.pl (Fw.atI_nat hx1), ok_getT atI3, ok_addL hlf hlt2 (by rw [ints_len, ints_len, sizeLine_eq]; omega)]
      have inc2 : Inc S (S' ++ [Cell.lst (ints_ r.fs ++ ints_ r.ts)]) := inc.trans (Inc.app _)
      have hl : (S' ++ [Cell.lst (ints_ r.fs ++ ints_ r.ts)])[S'.length]? = some (.lst (ints_ (kids r))) := by rw [get_new]; unfold kids; rw [ints_append]
      generalize S' ++ [Cell.lst (ints_ r.fs ++ ints_ r.ts)] = S2 at inc2 hl ⊢
      refine if_some cmpLe ?_
      by_cases h0 : 0 ≤ w
      · rw [decide_eq_true h0]
        simp only [if_true]
        rw [ok_lenL hl, ints_len]
        refine if_some cmpLt ?_
        by_cases h1 : w < ((kids r).length : Int)
        · rw [decide_eq_true h1]
          simp only [if_true]
          obtain ⟨c, hc, hc2, hc3⟩ := step_some hr ⟨h0, h1⟩
          rw [ok_getL hl (atI_int h0 (a := .int (c : Nat)) (by unfold ints_; rw [List.getElem?_map, hc]; rfl))]
          refine ⟨inc2, some c, _, _, by rw [hs, hc2], fun k' e => ?_, rfl⟩
          cases e
          have := (L.row k r hr).1.lt c hc3
          have := hkl k rfl
          omega
        · rw [decide_eq_false h1]
          simp only [Bool.false_eq_true, if_false]
          exact ⟨inc2, none, _, _, by rw [hs, step_none hr fun q => h1 q.2], (fun k e => by cases e), rfl⟩
      · rw [decide_eq_false h0]
        simp only [Bool.false_eq_true, if_false]
        exact ⟨inc2, none, _, _, by rw [hs, step_none hr fun q => h0 q.1], (fun k e => by cases e), rfl⟩
  · rintro η S' ⟨inc, ko, e2, e3, hk, hkl, rfl⟩
    refine ⟨rfl, ?_⟩
    simp only [el_nil, el_cons, es_pass, es_brk, es_cnt, es_retN, es_ret, es_exp, es_asg, es_par, es_par3, es_aug, es_ite, es_for, es_step, es_whl, ev_var, ev_glb, ev_non, ev_bl, ev_int, ev_str, ev_bin, ev_neg, ev_cmp, ev_not, ev_ife, ev_tup, ev_lst, ev_dct, ev_idx, ev_slc, ev_rev, ev_call, ev_callk, ev_bi, ev_mth, ev_lcp, ev_ssc, ev_and1, ev_and2, ev_or1, ev_or2, ev_nil, ev_cons, ev_pnil, ev_pcons, ev_onone, ev_osome, et_cmp, et_chn, et_not, et_bl, et_var, et_call, et_bi, et_idx, et_and1, et_and2, et_or1, et_or2, ec_none, ec_some, eg_name, eg_sub, eg_tup, eg_nil, eg_cons, ei_val, ei_rng1, ei_rng2, List.map_cons, List.map_nil, List.replicate, List.cons_append, List.nil_append, List.getElem?_cons_zero, List.getElem?_cons_succ, List.set_cons_zero, List.set_cons_succ, Nat.reduceSub, Nat.reduceAdd, List.length_cons, List.length_nil]
    rw [List.length_map, List.take_length] at hk
    have : walk rows i ws = ko := hk
    subst this
    exact hQ S' inc
end
end Law
namespace Law
open PySem PySem.Spec PyProof.Rows L2 Fw
theorem t9 : tab.defs[9]? = some (df 9) := rfl
theorem t10 : tab.defs[10]? = some (df 10) := rfl
theorem t11 : tab.defs[11]? = some (df 11) := rfl
theorem Deck.lt {d t N : Nat} {S : Store} (h : Deck d t N S) : d < S.length ∧ t < S.length := by
  obtain ⟨_, _, h1, _⟩ := h.dk
  obtain ⟨_, h2, _⟩ := h.tl
  exact ⟨get_lt h1, get_lt h2⟩
section
variable {d t N n : Nat} {S : Store} {Q : D → Store → Prop}
theorem drawQ {m : Int} (hm : 1 ≤ m) (hm2 : m < 1000000) (hN : N < CAP) (D0 : Deck d t N S) (hQ : ∀ (k : Nat) S', (k : Int) < m → Deck d t (N + 1) S' → Frm d t S S' → Q (.int (k : Nat)) S') : Ok (callN tab (n + 1) 8 [.loc d, .int m] S) Q :=
  (draw_ok hm hm2 hN D0).mono fun r S' ⟨⟨k, e, hk⟩, h1, h2⟩ => by subst e; exact hQ k S' hk h1 h2
theorem one_ok {l : Nat} {xs : List D} (hN : N < CAP) (D0 : Deck d t N S) (hl : S[l]? = some (.lst xs)) (hd : l ≠ d) (ht : l ≠ t) (h0 : xs ≠ []) (hx : xs.length < 1000000)
    (hQ : ∀ v S', v ∈ xs → Deck d t (N + 1) S' → Frm d t S S' → Q v S') : Ok (callN tab (n + 2) 9 [.loc d, .loc l] S) Q := by
  refine ok_call t9 rfl ?_
  simp only [df, b9, List.map_cons, List.map_nil, List.replicate, List.cons_append, List.nil_append, List.getElem?_cons_zero, List.getElem?_cons_succ, List.set_cons_zero, List.set_cons_succ, Nat.reduceSub, Nat.reduceAdd, List.length_cons, List.length_nil]
  simp only [el_nil, el_cons, es_pass, es_brk, es_cnt, es_retN, es_ret, es_exp, es_asg, es_par, es_par3, es_aug, es_ite, es_for, es_step, es_whl, ev_var, ev_glb, ev_non, ev_bl, ev_int, ev_str, ev_bin, ev_neg, ev_cmp, ev_not, ev_ife, ev_tup, ev_lst, ev_dct, ev_idx, ev_slc, ev_rev, ev_call, ev_callk, ev_bi, ev_mth, ev_lcp, ev_ssc, ev_and1, ev_and2, ev_or1, ev_or2, ev_nil, ev_cons, ev_pnil, ev_pcons, ev_onone, ev_osome, et_cmp, et_chn, et_not, et_bl, et_var, et_call, et_bi, et_idx, et_and1, et_and2, et_or1, et_or2, ec_none, ec_some, eg_name, eg_sub, eg_tup, eg_nil, eg_cons, ei_val, ei_rng1, ei_rng2, List.map_cons, List.map_nil, List.replicate, List.cons_append, List.nil_append, List.getElem?_cons_zero, List.getElem?_cons_succ, List.set_cons_zero, List.set_cons_succ, Nat.reduceSub, Nat.reduceAdd, List.length_cons, List.length_nil]
  rw [ok_lenL hl]
  have hp : 0 < xs.length := List.length_pos_iff.mpr h0
  refine drawQ (by omega) (by omega) hN D0 fun k S' hk h1 h2 => ?_
  have hk' : k < xs.length := by omega
  obtain ⟨v, hv, hm⟩ := get_lit hk'
  rw [ok_getL (h2 l _ hl hd ht) (Fw.atI_nat hv)]
  exact hQ v S' hm h1 h2
/-- one of a new list of texts -/
theorem one_lit {xs : List D} (hN : N < CAP) (D0 : Deck d t N S) (h0 : xs ≠ []) (hx : xs.length < 1000000)
    (hQ : ∀ v S', v ∈ xs → Deck d t (N + 1) S' → Frm d t S S' → Q v S') : Ok (callN tab (n + 2) 9 [.loc d, .loc S.length] (S ++ [.lst xs])) Q := by
  obtain ⟨h1, h2⟩ := D0.lt
  exact one_ok hN (D0.keep (Inc.app _)) get_new (by omega) (by omega) h0 hx fun v S' hv hd hf => hQ v S' hv hd ((Inc.app _).frm.trans hf)
abbrev alpha : Str := "abcdefghijklmnopqrstuvwxyz"
theorem alpha_len : alpha.cps.toList.length = 26 := by decide +kernel
theorem alpha_fit : alpha.length ≤ sizeLine := by rw [sizeLine_eq]; exact Nat.le_trans (show alpha.length ≤ 26 by decide +kernel) (by decide)
theorem alpha_ok : ∀ c ∈ alpha.cps.toList, c < 0x110000 := by decide +kernel
theorem one_sign {c : Nat} (h : c < 0x110000) : PyData.strOk ⟨#[c]⟩ = true ∧ (⟨#[c]⟩ : Str).length = 1 := by
  refine ⟨?_, rfl⟩
  unfold PyData.strOk
  simp [h]
theorem sum_ones {ss : List Str} (h : ∀ s ∈ ss, s.length = 1) : (ss.map (·.length)).sum = ss.length := by
  induction ss with
  | nil => rfl
  | cons s ss ih =>
    rw [List.map_cons, List.sum_cons, h s (List.mem_cons_self ..), ih fun x hx => h x (List.mem_cons_of_mem _ hx), List.length_cons]
    omega
theorem name_ok (hN : N + 20 < CAP) (D0 : Deck d t N S) (hQ : ∀ s S', nameOk s → Deck d t (N + 11) S' → Frm d t S S' → Q (.str s) S') : Ok (callN tab (n + 3) 10 [.loc d] S) Q := by
  have hN' : N + 20 < 4611686018427387904 := hN
  have cap : ∀ k, k < 20 → N + k < CAP := fun k hk => by show N + k < 4611686018427387904; omega
  refine ok_call t10 rfl ?_
  simp only [df, b10, List.map_cons, List.map_nil, List.replicate, List.cons_append, List.nil_append, List.getElem?_cons_zero, List.getElem?_cons_succ, List.set_cons_zero, List.set_cons_succ, Nat.reduceSub, Nat.reduceAdd, List.length_cons, List.length_nil]
  simp only [el_nil, el_cons, es_pass, es_brk, es_cnt, es_retN, es_ret, es_exp, es_asg, es_par, es_par3, es_aug, es_ite, es_for, es_step, es_whl, ev_var, ev_glb, ev_non, ev_bl, ev_int, ev_str, ev_bin, ev_neg, ev_cmp, ev_not, ev_ife, ev_tup, ev_lst, ev_dct, ev_idx, ev_slc, ev_rev, ev_call, ev_callk, ev_bi, ev_mth, ev_lcp, ev_ssc, ev_and1, ev_and2, ev_or1, ev_or2, ev_nil, ev_cons, ev_pnil, ev_pcons, ev_onone, ev_osome, et_cmp, et_chn, et_not, et_bl, et_var, et_call, et_bi, et_idx, et_and1, et_and2, et_or1, et_or2, ec_none, ec_some, eg_name, eg_sub, eg_tup, eg_nil, eg_cons, ei_val, ei_rng1, ei_rng2, List.map_cons, List.map_nil, List.replicate, List.cons_append, List.nil_append, List.getElem?_cons_zero, List.getElem?_cons_succ, List.set_cons_zero, List.set_cons_succ, Nat.reduceSub, Nat.reduceAdd, List.length_cons, List.length_nil]
  refine drawQ (n := n + 1) (by decide) (by decide) (cap 0 (by omega)) D0 fun k S1 hk D1 f1 => ?_
  refine if_some (cmpEq eq_int) ?_
  split
  · refine ⟨by decide, one_lit (n := n) (cap 1 (by omega)) D1 (by simp) (by decide) fun v S2 hv D2 f2 => ?_⟩
    have : ∃ s, v = .str s ∧ nameOk s := by
      simp only [List.mem_cons, List.not_mem_nil, or_false] at hv
      rcases hv with rfl | rfl | rfl | rfl | rfl | rfl <;> exact ⟨_, rfl, by decide +kernel, by decide +kernel⟩
    obtain ⟨s, rfl, hs⟩ := this
    exact hQ s S2 hs (D2.more (by omega)) (f1.trans f2)
  · refine ⟨recv_str, drawQ (n := n + 1) (by decide) (by decide) (cap 1 (by omega)) D1 fun m S2 hm D2 f2 => ?_⟩
    rw [ok_addI]
    have hm' : m < 8 := by omega
    refine ⟨_, rfl, ?_, ?_, ?_⟩
    · rw [show (1 : Int) + (m : Int) = ((1 + m : Nat) : Int) by omega]
      exact bd62_nat (by omega)
    · rw [rngD_len, sizeLine_eq]; omega
    · have e1 : ((1 : Int) + (m : Int)).toNat = 1 + m := by omega
      rw [e1]
      refine comp_ok (fun j acc S' => Deck d t (N + 2 + j) S' ∧ Frm d t S S' ∧ ∃ ss : List Str, acc = ss.map D.str ∧ ss.length = j ∧ ∀ s ∈ ss, PyData.strOk s = true ∧ s.length = 1) ⟨D2, f1.trans f2, [], rfl, rfl, fun s hs => by cases hs⟩ ?_ ?_
      · rintro j x acc S3 hx ⟨D3, f3, ss, rfl, hl, hss⟩
        obtain ⟨rfl, hj⟩ := rngD_get hx
        refine ⟨rfl, ?_⟩
        simp only [wipeE, el_nil, el_cons, es_pass, es_brk, es_cnt, es_retN, es_ret, es_exp, es_asg, es_par, es_par3, es_aug, es_ite, es_for, es_step, es_whl, ev_var, ev_glb, ev_non, ev_bl, ev_int, ev_str, ev_bin, ev_neg, ev_cmp, ev_not, ev_ife, ev_tup, ev_lst, ev_dct, ev_idx, ev_slc, ev_rev, ev_call, ev_callk, ev_bi, ev_mth, ev_lcp, ev_ssc, ev_and1, ev_and2, ev_or1, ev_or2, ev_nil, ev_cons, ev_pnil, ev_pcons, ev_onone, ev_osome, et_cmp, et_chn, et_not, et_bl, et_var, et_call, et_bi, et_idx, et_and1, et_and2, et_or1, et_or2, ec_none, ec_some, eg_name, eg_sub, eg_tup, eg_nil, eg_cons, ei_val, ei_rng1, ei_rng2, List.map_cons, List.map_nil, List.replicate, List.cons_append, List.nil_append, List.getElem?_cons_zero, List.getElem?_cons_succ, List.set_cons_zero, List.set_cons_succ, Nat.reduceSub, Nat.reduceAdd, List.length_cons, List.length_nil]
        simp only [if_true]
        refine drawQ (n := n + 1) (by decide) (by decide) (by show _ < 4611686018427387904; omega) D3 fun c S4 hc D4 f4 => ?_
        have hc' : c < alpha.cps.toList.length := by rw [alpha_len]; omega
        obtain ⟨a, ha, hm⟩ := get_lit hc'
        rw [ok_getS (s := alpha) alpha_fit (Fw.atI_nat ha)]
        refine ⟨D4, f3.trans f4, ss ++ [⟨#[a]⟩], by simp, by simp [hl], fun s hs => ?_⟩
        rcases List.mem_append.mp hs with hs | hs
        · exact hss s hs
        · rw [List.mem_singleton.mp hs]
          exact one_sign (alpha_ok a hm)
      · rintro acc S3 ⟨D3, f3, ss, rfl, hl, hss⟩
        refine ⟨rfl, ?_⟩
        rw [rngD_len] at hl D3
        have hs := sum_ones fun s hs => (hss s hs).2
        rw [ok_join get_new (by rw [hs, hl, show (Str.ofString "").length = 0 by decide +kernel]; omega)]
        obtain ⟨j1, j2⟩ := join1 ss hss
        exact hQ _ _ ⟨j1, by rw [j2, hl]; omega⟩ ((D3.more (by omega)).keep (Inc.app _)) (f3.trans (Frm.app _))
theorem new_ok {P m : Nat} {ds : List D} {w nm f g : D} (hP : S[P]? = some (.lst ds)) (hm : ds.length = m) (hd : m < 1000) (hQ : Q (.int (m : Nat)) (S.set P (.lst (ds ++ [.tup [w, nm, f, g]])))) :
    Ok (callN tab (n + 1) 11 [.loc P, w, nm, f, g] S) Q := by
  refine ok_call t11 rfl ?_
  simp only [df, b11, List.map_cons, List.map_nil, List.replicate, List.cons_append, List.nil_append, List.getElem?_cons_zero, List.getElem?_cons_succ, List.set_cons_zero, List.set_cons_succ, Nat.reduceSub, Nat.reduceAdd, List.length_cons, List.length_nil]
  simp only [el_nil, el_cons, es_pass, es_brk, es_cnt, es_retN, es_ret, es_exp, es_asg, es_par, es_par3, es_aug, es_ite, es_for, es_step, es_whl, ev_var, ev_glb, ev_non, ev_bl, ev_int, ev_str, ev_bin, ev_neg, ev_cmp, ev_not, ev_ife, ev_tup, ev_lst, ev_dct, ev_idx, ev_slc, ev_rev, ev_call, ev_callk, ev_bi, ev_mth, ev_lcp, ev_ssc, ev_and1, ev_and2, ev_or1, ev_or2, ev_nil, ev_cons, ev_pnil, ev_pcons, ev_onone, ev_osome, et_cmp, et_chn, et_not, et_bl, et_var, et_call, et_bi, et_idx, et_and1, et_and2, et_or1, et_or2, ec_none, ec_some, eg_name, eg_sub, eg_tup, eg_nil, eg_cons, ei_val, ei_rng1, ei_rng2, List.map_cons, List.map_nil, List.replicate, List.cons_append, List.nil_append, List.getElem?_cons_zero, List.getElem?_cons_succ, List.set_cons_zero, List.set_cons_succ, Nat.reduceSub, Nat.reduceAdd, List.length_cons, List.length_nil]
  refine ⟨(recv_lst hP).1, ?_, ?_⟩
  · rw [sizeLine_eq]; decide
  · rw [ok_append hP (by rw [sizeLine_eq]; omega), ok_lenL (get_set hP), ok_subI]
    have e : (((ds ++ [D.tup [w, nm, f, g]]).length : Nat) : Int) - 1 = (m : Nat) := by simp [hm]
    rw [e]
    exact hQ
end
end Law
namespace Law
open PySem PySem.Spec PyProof.Rows L2 Fw
section
variable {d t N n : Nat} {S : Store}
theorem picks {Q : List D → Store → Prop} {η : Fw.Env} {jj a b l m : Nat} {xs : List Nat} (ha : ∀ v, (η.set jj v)[a]? = some (some (.loc d))) (hb : ∀ v, (η.set jj v)[b]? = some (some (.loc l)))
    (hN : N + m < CAP) (D0 : Deck d t N S) (hl : S[l]? = some (.lst (ints_ xs))) (hd : l ≠ d) (ht : l ≠ t) (h0 : xs ≠ []) (hx : xs.length < 1000000)
    (hQ : ∀ ks S', ks.length = m → (∀ k ∈ ks, k ∈ xs) → Deck d t (N + m) S' → Frm d t S S' → Q (ints_ ks) S') :
    Ok (comp [] (asG (tab.fn (callN tab (n + 2))) (.name jj)) (evC (tab.fn (callN tab (n + 2))) .none) (evE (tab.fn (callN tab (n + 2))) (.call 9 (.cons (.var a) (.cons (.var b) .nil)))) η (rngD 0 m) S) Q := by
  have hN' : N + m < 4611686018427387904 := hN
  refine comp_ok (fun j acc S' => Deck d t (N + j) S' ∧ Frm d t S S' ∧ ∃ ks : List Nat, acc = ints_ ks ∧ ks.length = j ∧ ∀ k ∈ ks, k ∈ xs) ⟨D0, Frm.refl, [], rfl, rfl, fun k hk => by cases hk⟩ ?_ ?_
  · rintro j x acc S3 hx' ⟨D3, f3, ks, rfl, hlen, hks⟩
    obtain ⟨rfl, hj⟩ := rngD_get hx'
    refine ⟨rfl, ?_⟩
    simp only [eg_name, ec_none, ev_call, ev_cons, ev_nil, ev_var, ha, hb, if_true]
    refine one_ok (n := n) (by show _ < 4611686018427387904; omega) D3 (f3 l _ hl hd ht) hd ht (by simpa [ints_] using h0) (by rw [ints_len]; exact hx) fun v S4 hv D4 f4 => ?_
    obtain ⟨k, hk, rfl⟩ := List.mem_map.mp hv
    refine ⟨D4, f3.trans f4, ks ++ [k], by rw [ints_append]; rfl, by simp [hlen], fun k' hk' => ?_⟩
    rcases List.mem_append.mp hk' with h | h
    · exact hks k' h
    · rw [List.mem_singleton.mp h]; exact hk
  · rintro acc S3 ⟨D3, f3, ks, rfl, hlen, hks⟩
    rw [rngD_len] at hlen D3
    exact ⟨rfl, hQ ks S3 hlen hks D3 f3⟩
end
/-- the plan while it is made -/
structure PSt (d t P Fl Tl N : Nat) (S : Store) (rows : List Row) (ds : List D) (fl tl : List Nat) : Prop where
  dk : Deck d t N S
  pl : S[P]? = some (.lst ds)
  len : ds.length = rows.length
  row : ∀ (i : Nat) (r : Row), rows[i]? = some r → RowOk i r ∧ ∃ lf lt, ds[i]? = some (.tup [.str r.w, .str r.nm, .loc lf, .loc lt]) ∧ S[lf]? = some (.lst (ints_ r.fs)) ∧ S[lt]? = some (.lst (ints_ r.ts)) ∧ lf ∉ [d, t, P, Fl, Tl] ∧ lt ∉ [d, t, P, Fl, Tl]
  f : S[Fl]? = some (.lst (ints_ fl))
  g : S[Tl]? = some (.lst (ints_ tl))
  flt : ∀ k ∈ fl, k < rows.length
  tlt : ∀ k ∈ tl, k < rows.length
  cnt : fl.length + tl.length ≤ rows.length
  nd : [d, t, P, Fl, Tl].Nodup
section
variable {d t P Fl Tl N N' : Nat} {S S' : Store} {rows : List Row} {ds : List D} {fl tl : List Nat}
theorem PSt.step (h : PSt d t P Fl Tl N S rows ds fl tl) (D' : Deck d t N' S') (f : Frm d t S S') : PSt d t P Fl Tl N' S' rows ds fl tl := by
  have nd := h.nd
  simp only [List.nodup_cons, List.mem_cons, List.not_mem_nil, or_false, not_or, List.nodup_nil, not_false_eq_true, and_true] at nd
  refine ⟨D', f _ _ h.pl (by omega) (by omega), h.len, fun i r hr => ?_, f _ _ h.f (by omega) (by omega), f _ _ h.g (by omega) (by omega), h.flt, h.tlt, h.cnt, h.nd⟩
  obtain ⟨ok, lf, lt, h1, h2, h3, h4, h5⟩ := h.row i r hr
  have q4 := h4
  have q5 := h5
  simp only [List.mem_cons, List.not_mem_nil, or_false, not_or] at q4 q5
  exact ⟨ok, lf, lt, h1, f _ _ h2 q4.1 q4.2.1, f _ _ h3 q5.1 q5.2.1, h4, h5⟩
theorem PSt.inc (h : PSt d t P Fl Tl N S rows ds fl tl) (i : Inc S S') : PSt d t P Fl Tl N S' rows ds fl tl := h.step (h.dk.keep i) i.frm
theorem PSt.more (h : PSt d t P Fl Tl N S rows ds fl tl) (hn : N ≤ N') : PSt d t P Fl Tl N' S rows ds fl tl := h.step (h.dk.more hn) Frm.refl
theorem PSt.lt (h : PSt d t P Fl Tl N S rows ds fl tl) {l : Nat} (hl : S.length ≤ l) : l ∉ [d, t, P, Fl, Tl] := by
  obtain ⟨h1, h2⟩ := h.dk.lt
  have h3 := get_lt h.pl
  have h4 := get_lt h.f
  have h5 := get_lt h.g
  simp only [List.mem_cons, List.not_mem_nil, or_false, not_or]
  omega
theorem PSt.add (h : PSt d t P Fl Tl N S rows ds fl tl) {r : Row} (hr : RowOk rows.length r) {lf lt : Nat} (h1 : S[lf]? = some (.lst (ints_ r.fs))) (h2 : S[lt]? = some (.lst (ints_ r.ts))) (h3 : lf ∉ [d, t, P, Fl, Tl]) (h4 : lt ∉ [d, t, P, Fl, Tl]) :
    PSt d t P Fl Tl N (S.set P (.lst (ds ++ [.tup [.str r.w, .str r.nm, .loc lf, .loc lt]]))) (rows ++ [r]) (ds ++ [.tup [.str r.w, .str r.nm, .loc lf, .loc lt]]) fl tl := by
  have nd := h.nd
  simp only [List.nodup_cons, List.mem_cons, List.not_mem_nil, or_false, not_or, List.nodup_nil, not_false_eq_true, and_true] at nd
  have st : ∀ {l : Nat} {c c' : Cell}, S[l]? = some c → l ≠ P → (S.set P c')[l]? = some c := fun h n => by rw [get_set_ne n]; exact h
  obtain ⟨b, c, k1, k2⟩ := h.dk.dk
  obtain ⟨xs, k3, k4⟩ := h.dk.tl
  refine ⟨⟨⟨b, c, st k1 (by omega), k2⟩, ⟨xs, st k3 (by omega), k4⟩, h.dk.ne⟩, get_set h.pl, by simp [h.len], fun i q hq => ?_, st h.f (by omega), st h.g (by omega), fun k hk => ?_, fun k hk => ?_, ?_, h.nd⟩
  · have mm : ∀ l, l ∉ [d, t, P, Fl, Tl] → l ≠ P := fun l hl e => hl (by subst e; simp)
    rcases Nat.lt_or_ge i rows.length with hi | hi
    · rw [List.getElem?_append_left hi] at hq
      obtain ⟨ok, lf', lt', g1, g2, g3, g4, g5⟩ := h.row i q hq
      exact ⟨ok, lf', lt', by rw [List.getElem?_append_left (by rw [h.len]; exact hi)]; exact g1, st g2 (mm _ g4), st g3 (mm _ g5), g4, g5⟩
    · have hi2 : i = rows.length := by
        have := (List.getElem?_eq_some_iff.mp hq).1
        simp at this
        omega
      subst hi2
      simp at hq
      subst hq
      exact ⟨hr, lf, lt, by rw [← h.len]; simp, st h1 (mm _ h3), st h2 (mm _ h4), h3, h4⟩
  · have := h.flt k hk; simp; omega
  · have := h.tlt k hk; simp; omega
  · have := h.cnt; simp; omega
theorem PSt.addF (h : PSt d t P Fl Tl N S rows ds fl tl) {k : Nat} (hk : k < rows.length) (hc : fl.length + tl.length < rows.length) : PSt d t P Fl Tl N (S.set Fl (.lst (ints_ fl ++ [.int (k : Nat)]))) rows ds (fl ++ [k]) tl := by
  have nd := h.nd
  simp only [List.nodup_cons, List.mem_cons, List.not_mem_nil, or_false, not_or, List.nodup_nil, not_false_eq_true, and_true] at nd
  have st : ∀ {l : Nat} {c c' : Cell}, S[l]? = some c → l ≠ Fl → (S.set Fl c')[l]? = some c := fun h n => by rw [get_set_ne n]; exact h
  obtain ⟨b, c, k1, k2⟩ := h.dk.dk
  obtain ⟨xs, k3, k4⟩ := h.dk.tl
  have mm : ∀ l, l ∉ [d, t, P, Fl, Tl] → l ≠ Fl := fun l hl e => hl (by subst e; simp)
  refine ⟨⟨⟨b, c, st k1 (by omega), k2⟩, ⟨xs, st k3 (by omega), k4⟩, h.dk.ne⟩, st h.pl (by omega), h.len, fun i q hq => ?_, ?_, st h.g (by omega), fun j hj => ?_, h.tlt, by simp; omega, h.nd⟩
  · obtain ⟨ok, lf', lt', g1, g2, g3, g4, g5⟩ := h.row i q hq
    exact ⟨ok, lf', lt', g1, st g2 (mm _ g4), st g3 (mm _ g5), g4, g5⟩
  · rw [get_set h.f, ints_append]; rfl
  · rcases List.mem_append.mp hj with hj | hj
    · exact h.flt j hj
    · rw [List.mem_singleton.mp hj]; exact hk
theorem PSt.addT (h : PSt d t P Fl Tl N S rows ds fl tl) {k : Nat} (hk : k < rows.length) (hc : fl.length + tl.length < rows.length) : PSt d t P Fl Tl N (S.set Tl (.lst (ints_ tl ++ [.int (k : Nat)]))) rows ds fl (tl ++ [k]) := by
  have nd := h.nd
  simp only [List.nodup_cons, List.mem_cons, List.not_mem_nil, or_false, not_or, List.nodup_nil, not_false_eq_true, and_true] at nd
  have st : ∀ {l : Nat} {c c' : Cell}, S[l]? = some c → l ≠ Tl → (S.set Tl c')[l]? = some c := fun h n => by rw [get_set_ne n]; exact h
  obtain ⟨b, c, k1, k2⟩ := h.dk.dk
  obtain ⟨xs, k3, k4⟩ := h.dk.tl
  have mm : ∀ l, l ∉ [d, t, P, Fl, Tl] → l ≠ Tl := fun l hl e => hl (by subst e; simp)
  refine ⟨⟨⟨b, c, st k1 (by omega), k2⟩, ⟨xs, st k3 (by omega), k4⟩, h.dk.ne⟩, st h.pl (by omega), h.len, fun i q hq => ?_, st h.f (by omega), ?_, h.flt, fun j hj => ?_, by simp; omega, h.nd⟩
  · obtain ⟨ok, lf', lt', g1, g2, g3, g4, g5⟩ := h.row i q hq
    exact ⟨ok, lf', lt', g1, st g2 (mm _ g4), st g3 (mm _ g5), g4, g5⟩
  · rw [get_set h.g, ints_append]; rfl
  · rcases List.mem_append.mp hj with hj | hj
    · exact h.tlt j hj
    · rw [List.mem_singleton.mp hj]; exact hk
end
theorem t12 : tab.defs[12]? = some (df 12) := rfl
end Law
namespace Law
open PySem PySem.Spec PyProof.Rows L2 Fw
section
variable {d t N n : Nat} {S : Store} {Q : D → Store → Prop}
theorem nameE : nameOk "" := ⟨by decide +kernel, by decide +kernel⟩
def b12tail : Sb := (.cons (.asg (.name 9) (.lcp (.call 9 (.cons (.var 0) (.cons (.var 3) .nil))) (.name 7) (.rng1 (.var 8)) .none [7])) (.cons (.asg (.name 10) (.call 11 (.cons (.var 1) (.cons (.var 5) (.cons (.call 10 (.cons (.var 0) .nil)) (.cons (.var 6) (.cons (.var 9) .nil))))))) (.cons (.ite (.cmp .In (.var 5) (.tup (.cons (.str "part") (.cons (.str "given") .nil)))) (.cons (.exp (.mth .append (.var 2) (.cons (.var 10) .nil))) .nil) (.cons (.exp (.mth .append (.var 3) (.cons (.var 10) .nil))) .nil)) .nil)))
theorem tail_ok {P Fl Tl j m lf : Nat} {S3 : Store} {rows : List Row} {ds : List D} {fl tl fs : List Nat} {w : Str} {mi : Int} {e7 e9 e10 : Option D} (hmi : mi = (m : Nat)) (hN' : N + 400 < 4611686018427387904) (hj : j < 11)
    (setX : ∀ {S' : Store} {l : Nat} {c : Cell}, Frm d t S S' → (∀ (k : Nat) (c : Cell), S[k]? = some c → k ≠ l) → Frm d t S (S'.set l c)) (low : ∀ (l : Nat) (c : Cell), S[l]? = some c → l ≠ P ∧ l ≠ Fl ∧ l ≠ Tl)
    (hlen : rows.length = 2 + j) (hfl : fl ≠ []) (htl : tl ≠ []) (hw : w ∈ (["do", "go", "test", "pick", "call", "part", "given"] : List Str)) (hwo : PyData.strOk w = true)
    (hfs : decide (w ∈ (["call", "part"] : List Str)) = false → fs = []) (hfl2 : fs.length ≤ 2) (hflt : ∀ k ∈ fs, k < rows.length) (hlx : lf ∉ [d, t, P, Fl, Tl])
    (hm4 : m ≤ 4) (m1 : w = "do" → m = 1) (m2 : w = "go" → m = 0) (m3 : w = "given" → m = 0) (m4 : w = "test" → m = 2)
    (hp3 : PSt d t P Fl Tl (N + 20 + 25 * j + 5) S3 rows ds fl tl) (hf3 : Frm d t S S3) (hlf3 : S3[lf]? = some (.lst (ints_ fs))) :
    OkS (exL (tab.fn (callN tab (n + 3))) b12tail [some (.loc d), some (.loc P), some (.loc Fl), some (.loc Tl), some (.int (0 + (j : Nat))), some (.str w), some (.loc lf), e7, some (.int mi), e9, e10] S3) (fun f η' S' => f = .nx ∧ ∃ rows ds fl tl e4 e5 e6 e7 e8 e9 e10, η' = [some (.loc d), some (.loc P), some (.loc Fl), some (.loc Tl), e4, e5, e6, e7, e8, e9, e10] ∧ PSt d t P Fl Tl (N + 20 + 25 * (j + 1)) S' rows ds fl tl ∧ Frm d t S S' ∧ rows.length = 2 + (j + 1) ∧ fl ≠ [] ∧ tl ≠ []) := by
  have cap2 : ∀ k, k ≤ N + 20 + 25 * j + 25 → k < CAP := fun k hk => by show k < 4611686018427387904; omega
  unfold b12tail
  -- the tasks
  refine seq_nx (P := fun η' S' => ∃ (lt : Nat) (ts : List Nat), ts.length = m ∧ (∀ k ∈ ts, k < rows.length) ∧ η' = [some (.loc d), some (.loc P), some (.loc Fl), some (.loc Tl), some (.int (0 + (j : Nat))), some (.str w), some (.loc lf), e7, some (.int mi), some (.loc lt), e10] ∧ PSt d t P Fl Tl (N + 20 + 25 * j + 9) S' rows ds fl tl ∧ Frm d t S S' ∧ S'[lf]? = some (.lst (ints_ fs)) ∧ S'[lt]? = some (.lst (ints_ ts)) ∧ lt ∉ [d, t, P, Fl, Tl]) ?_ ?_
  · simp only [el_nil, el_cons, es_pass, es_brk, es_cnt, es_retN, es_ret, es_exp, es_asg, es_par, es_par3, es_aug, es_ite, es_for, es_step, es_whl, ev_var, ev_glb, ev_non, ev_bl, ev_int, ev_str, ev_bin, ev_neg, ev_cmp, ev_not, ev_ife, ev_tup, ev_lst, ev_dct, ev_idx, ev_slc, ev_rev, ev_call, ev_callk, ev_bi, ev_mth, ev_lcp, ev_ssc, ev_and1, ev_and2, ev_or1, ev_or2, ev_nil, ev_cons, ev_pnil, ev_pcons, ev_onone, ev_osome, et_cmp, et_chn, et_not, et_bl, et_var, et_call, et_bi, et_idx, et_and1, et_and2, et_or1, et_or2, ec_none, ec_some, eg_name, eg_sub, eg_tup, eg_nil, eg_cons, ei_val, ei_rng1, ei_rng2, List.map_cons, List.map_nil, List.replicate, List.cons_append, List.nil_append, List.getElem?_cons_zero, List.getElem?_cons_succ, List.set_cons_zero, List.set_cons_succ, Nat.reduceSub, Nat.reduceAdd, List.length_cons, List.length_nil]
    refine ⟨_, rfl, by rw [hmi]; exact bd62_nat (by omega), by rw [rngD_len, sizeLine_eq]; omega, ?_⟩
    have e2 : mi.toNat = m := by omega
    rw [e2]
    have nd := hp3.nd
    simp only [List.nodup_cons, List.mem_cons, List.not_mem_nil, or_false, not_or, List.nodup_nil, not_false_eq_true, and_true] at nd
    refine picks (n := n + 1) (xs := tl) (l := Tl) (fun v => rfl) (fun v => rfl) (cap2 _ (by omega)) hp3.dk hp3.g (by omega) (by omega) htl (by have := hp3.cnt; omega) fun ks S4 hl4 hm4' D4 f4 => ?_
    have hp4 := hp3.step D4 f4
    exact ⟨trivial, S4.length, ks, hl4, fun q hq => hp4.tlt q (hm4' q hq), rfl, (hp4.inc (Inc.app _)).more (by omega), (hf3.trans f4).trans (Frm.app _), get_app (f4 lf _ hlf3 (fun e => hlx (by rw [e]; simp)) (fun e => hlx (by rw [e]; simp))), get_new, hp4.lt (Nat.le_refl _)⟩
  rintro η4 S4 ⟨lt, ts, hts, htlt, rfl, hp4, hf4, hlf4, hlt4, hltx⟩
  -- the row
  refine seq_nx (P := fun η' S' => ∃ (r : Row) (ds' : List D), r.w = w ∧ η' = [some (.loc d), some (.loc P), some (.loc Fl), some (.loc Tl), some (.int (0 + (j : Nat))), some (.str w), some (.loc lf), e7, some (.int mi), some (.loc lt), some (.int (rows.length : Nat))] ∧ PSt d t P Fl Tl (N + 20 + 25 * j + 20) S' (rows ++ [r]) ds' fl tl ∧ Frm d t S S') ?_ ?_
  · simp only [el_nil, el_cons, es_pass, es_brk, es_cnt, es_retN, es_ret, es_exp, es_asg, es_par, es_par3, es_aug, es_ite, es_for, es_step, es_whl, ev_var, ev_glb, ev_non, ev_bl, ev_int, ev_str, ev_bin, ev_neg, ev_cmp, ev_not, ev_ife, ev_tup, ev_lst, ev_dct, ev_idx, ev_slc, ev_rev, ev_call, ev_callk, ev_bi, ev_mth, ev_lcp, ev_ssc, ev_and1, ev_and2, ev_or1, ev_or2, ev_nil, ev_cons, ev_pnil, ev_pcons, ev_onone, ev_osome, et_cmp, et_chn, et_not, et_bl, et_var, et_call, et_bi, et_idx, et_and1, et_and2, et_or1, et_or2, ec_none, ec_some, eg_name, eg_sub, eg_tup, eg_nil, eg_cons, ei_val, ei_rng1, ei_rng2, List.map_cons, List.map_nil, List.replicate, List.cons_append, List.nil_append, List.getElem?_cons_zero, List.getElem?_cons_succ, List.set_cons_zero, List.set_cons_succ, Nat.reduceSub, Nat.reduceAdd, List.length_cons, List.length_nil]
    refine name_ok (n := n) (by show _ < 4611686018427387904; omega) hp4.dk fun nm S5 hnm D5 f5 => ?_
    have hp5 := hp4.step D5 f5
    have hlf5 := f5 lf _ hlf4 (fun e => hlx (by rw [e]; simp)) (fun e => hlx (by rw [e]; simp))
    have hlt5 := f5 lt _ hlt4 (fun e => hltx (by rw [e]; simp)) (fun e => hltx (by rw [e]; simp))
    refine new_ok (n := n + 2) (m := rows.length) hp5.pl hp5.len (by omega) ?_
    have sh : Shape w fs ts := by
      simp only [List.mem_cons, List.not_mem_nil, or_false] at hw
      rcases hw with rfl | rfl | rfl | rfl | rfl | rfl | rfl
      · rw [hfs rfl]
        obtain ⟨a, rfl⟩ := List.length_eq_one_iff.mp (hts.trans (m1 rfl))
        exact .w_do a
      · rw [hfs rfl]
        rw [List.length_eq_zero_iff.mp (hts.trans (m2 rfl))]
        exact .w_go
      · rw [hfs rfl]
        obtain ⟨a, b, rfl⟩ : ∃ a b, ts = [a, b] := by
          match ts, hts.trans (m4 rfl) with
          | [a, b], _ => exact ⟨a, b, rfl⟩
        exact .w_test a b
      · rw [hfs rfl]
        exact .w_pick ts
      · exact .w_call fs ts
      · exact .w_part fs ts
      · rw [hfs rfl]
        rw [List.length_eq_zero_iff.mp (hts.trans (m3 rfl))]
        exact .w_given
    have hp6 := hp5.add (r := ⟨w, nm, fs, ts⟩) ⟨sh, fun k hk => by
      rcases List.mem_append.mp hk with hk | hk
      · exact hflt k hk
      · exact htlt k hk, hnm, by dsimp only; omega⟩ hlf5 hlt5 hlx hltx
    exact ⟨trivial, _, _, rfl, rfl, hp6.more (by omega), setX (hf4.trans f5) fun l c h => (low l c h).1⟩
  rintro η5 S5 ⟨r, ds5, rfl, rfl, hp5, hf5⟩
  simp only [el_nil, el_cons, es_pass, es_brk, es_cnt, es_retN, es_ret, es_exp, es_asg, es_par, es_par3, es_aug, es_ite, es_for, es_step, es_whl, ev_var, ev_glb, ev_non, ev_bl, ev_int, ev_str, ev_bin, ev_neg, ev_cmp, ev_not, ev_ife, ev_tup, ev_lst, ev_dct, ev_idx, ev_slc, ev_rev, ev_call, ev_callk, ev_bi, ev_mth, ev_lcp, ev_ssc, ev_and1, ev_and2, ev_or1, ev_or2, ev_nil, ev_cons, ev_pnil, ev_pcons, ev_onone, ev_osome, et_cmp, et_chn, et_not, et_bl, et_var, et_call, et_bi, et_idx, et_and1, et_and2, et_or1, et_or2, ec_none, ec_some, eg_name, eg_sub, eg_tup, eg_nil, eg_cons, ei_val, ei_rng1, ei_rng2, List.map_cons, List.map_nil, List.replicate, List.cons_append, List.nil_append, List.getElem?_cons_zero, List.getElem?_cons_succ, List.set_cons_zero, List.set_cons_succ, Nat.reduceSub, Nat.reduceAdd, List.length_cons, List.length_nil]
  have hc5 : fl.length + tl.length < (rows ++ [r]).length := by have := hp4.cnt; simp; omega
  refine ⟨by decide, if_some (cmpIn (in_strs (ws := ["part", "given"]) rfl hwo (by decide +kernel))) ?_⟩
  split
  · refine ⟨(recv_lst hp5.f).1, ?_⟩
    rw [ok_append hp5.f (by rw [ints_len, sizeLine_eq]; simp at hc5; omega)]
    exact ⟨trivial, rows ++ [r], ds5, fl ++ [rows.length], tl, _, _, _, _, _, _, _, rfl, (hp5.addF (by simp) hc5).more (by omega), setX hf5 fun l c h => (low l c h).2.1, by simp [hlen]; omega, by simp, htl⟩
  · refine ⟨(recv_lst hp5.g).1, ?_⟩
    rw [ok_append hp5.g (by rw [ints_len, sizeLine_eq]; simp at hc5; omega)]
    exact ⟨trivial, rows ++ [r], ds5, fl, tl ++ [rows.length], _, _, _, _, _, _, _, rfl, (hp5.addT (by simp) hc5).more (by omega), setX hf5 fun l c h => (low l c h).2.2, by simp [hlen]; omega, hfl, by simp⟩
def b12body : Sb := (.cons (.asg (.name 5) (.call 9 (.cons (.var 0) (.cons (.lst (.cons (.str "do") (.cons (.str "go") (.cons (.str "test") (.cons (.str "pick") (.cons (.str "call") (.cons (.str "call") (.cons (.str "part") (.cons (.str "part") (.cons (.str "given") .nil)))))))))) .nil)))) (.cons (.asg (.name 6) (.ife (.cmp .In (.var 5) (.tup (.cons (.str "call") (.cons (.str "part") .nil)))) (.lcp (.call 9 (.cons (.var 0) (.cons (.var 2) .nil))) (.name 7) (.rng1 (.call 8 (.cons (.var 0) (.cons (.int 3) .nil)))) .none [7]) (.lst .nil))) (.cons (.asg (.name 8) (.mth .get (.dct (.cons (.str "do") (.int 1) (.cons (.str "go") (.int 0) (.cons (.str "given") (.int 0) (.cons (.str "test") (.int 2) .nil))))) (.cons (.var 5) (.cons (.bin .Add (.call 8 (.cons (.var 0) (.cons (.int 4) .nil))) (.bi .int (.cons (.cmp .Eq (.var 5) (.str "pick")) .nil))) .nil)))) (.cons (.asg (.name 9) (.lcp (.call 9 (.cons (.var 0) (.cons (.var 3) .nil))) (.name 7) (.rng1 (.var 8)) .none [7])) (.cons (.asg (.name 10) (.call 11 (.cons (.var 1) (.cons (.var 5) (.cons (.call 10 (.cons (.var 0) .nil)) (.cons (.var 6) (.cons (.var 9) .nil))))))) (.cons (.ite (.cmp .In (.var 5) (.tup (.cons (.str "part") (.cons (.str "given") .nil)))) (.cons (.exp (.mth .append (.var 2) (.cons (.var 10) .nil))) .nil) (.cons (.exp (.mth .append (.var 3) (.cons (.var 10) .nil))) .nil)) .nil))))))
theorem turn_ok {P Fl Tl j : Nat} {S' : Store} {rows : List Row} {ds : List D} {fl tl : List Nat} {e4 e5 e6 e7 e8 e9 e10 : Option D} (hN' : N + 400 < 4611686018427387904) (hj : j < 11)
    (setX : ∀ {S' : Store} {l : Nat} {c : Cell}, Frm d t S S' → (∀ (k : Nat) (c : Cell), S[k]? = some c → k ≠ l) → Frm d t S (S'.set l c)) (low : ∀ (l : Nat) (c : Cell), S[l]? = some c → l ≠ P ∧ l ≠ Fl ∧ l ≠ Tl)
    (hp : PSt d t P Fl Tl (N + 20 + 25 * j) S' rows ds fl tl) (hf : Frm d t S S') (hlen : rows.length = 2 + j) (hfl : fl ≠ []) (htl : tl ≠ []) :
    OkS (exL (tab.fn (callN tab (n + 3))) b12body [some (.loc d), some (.loc P), some (.loc Fl), some (.loc Tl), some (.int (0 + (j : Nat))), e5, e6, e7, e8, e9, e10] S') (fun f η' S' => f = .nx ∧ ∃ rows ds fl tl e4 e5 e6 e7 e8 e9 e10, η' = [some (.loc d), some (.loc P), some (.loc Fl), some (.loc Tl), e4, e5, e6, e7, e8, e9, e10] ∧ PSt d t P Fl Tl (N + 20 + 25 * (j + 1)) S' rows ds fl tl ∧ Frm d t S S' ∧ rows.length = 2 + (j + 1) ∧ fl ≠ [] ∧ tl ≠ []) := by
  unfold b12body
  have cap2 : ∀ k, k ≤ N + 20 + 25 * j + 25 → k < CAP := fun k hk => by show k < 4611686018427387904; omega
  -- the word
  refine seq_nx (P := fun η' S' => ∃ w, w ∈ (["do", "go", "test", "pick", "call", "part", "given"] : List Str) ∧ η' = [some (.loc d), some (.loc P), some (.loc Fl), some (.loc Tl), some (.int (0 + (j : Nat))), some (.str w), e6, e7, e8, e9, e10] ∧ PSt d t P Fl Tl (N + 20 + 25 * j + 1) S' rows ds fl tl ∧ Frm d t S S') ?_ ?_
  · simp only [el_nil, el_cons, es_pass, es_brk, es_cnt, es_retN, es_ret, es_exp, es_asg, es_par, es_par3, es_aug, es_ite, es_for, es_step, es_whl, ev_var, ev_glb, ev_non, ev_bl, ev_int, ev_str, ev_bin, ev_neg, ev_cmp, ev_not, ev_ife, ev_tup, ev_lst, ev_dct, ev_idx, ev_slc, ev_rev, ev_call, ev_callk, ev_bi, ev_mth, ev_lcp, ev_ssc, ev_and1, ev_and2, ev_or1, ev_or2, ev_nil, ev_cons, ev_pnil, ev_pcons, ev_onone, ev_osome, et_cmp, et_chn, et_not, et_bl, et_var, et_call, et_bi, et_idx, et_and1, et_and2, et_or1, et_or2, ec_none, ec_some, eg_name, eg_sub, eg_tup, eg_nil, eg_cons, ei_val, ei_rng1, ei_rng2, List.map_cons, List.map_nil, List.replicate, List.cons_append, List.nil_append, List.getElem?_cons_zero, List.getElem?_cons_succ, List.set_cons_zero, List.set_cons_succ, Nat.reduceSub, Nat.reduceAdd, List.length_cons, List.length_nil]
    refine ⟨by decide, one_lit (n := n + 1) (cap2 _ (by omega)) hp.dk (by simp) (by decide) fun v S2 hv D2 f2 => ?_⟩
    have : ∃ w, v = .str w ∧ w ∈ (["do", "go", "test", "pick", "call", "part", "given"] : List Str) := by
      simp only [List.mem_cons, List.not_mem_nil, or_false] at hv
      rcases hv with rfl | rfl | rfl | rfl | rfl | rfl | rfl | rfl | rfl <;> exact ⟨_, rfl, by simp⟩
    obtain ⟨w, rfl, hw⟩ := this
    exact ⟨trivial, w, hw, rfl, hp.step D2 f2, hf.trans f2⟩
  rintro η1 S1 ⟨w, hw, rfl, hp1, hf1⟩
  have hwo : PyData.strOk w = true := by
    simp only [List.mem_cons, List.not_mem_nil, or_false] at hw
    rcases hw with rfl | rfl | rfl | rfl | rfl | rfl | rfl <;> decide +kernel
  -- the functions
  refine seq_nx (P := fun η' S' => ∃ (lf : Nat) (fs : List Nat), (decide (w ∈ (["call", "part"] : List Str)) = false → fs = []) ∧ fs.length ≤ 2 ∧ (∀ k ∈ fs, k < rows.length) ∧ η' = [some (.loc d), some (.loc P), some (.loc Fl), some (.loc Tl), some (.int (0 + (j : Nat))), some (.str w), some (.loc lf), e7, e8, e9, e10] ∧ PSt d t P Fl Tl (N + 20 + 25 * j + 4) S' rows ds fl tl ∧ Frm d t S S' ∧ S'[lf]? = some (.lst (ints_ fs)) ∧ lf ∉ [d, t, P, Fl, Tl]) ?_ ?_
  · simp only [el_nil, el_cons, es_pass, es_brk, es_cnt, es_retN, es_ret, es_exp, es_asg, es_par, es_par3, es_aug, es_ite, es_for, es_step, es_whl, ev_var, ev_glb, ev_non, ev_bl, ev_int, ev_str, ev_bin, ev_neg, ev_cmp, ev_not, ev_ife, ev_tup, ev_lst, ev_dct, ev_idx, ev_slc, ev_rev, ev_call, ev_callk, ev_bi, ev_mth, ev_lcp, ev_ssc, ev_and1, ev_and2, ev_or1, ev_or2, ev_nil, ev_cons, ev_pnil, ev_pcons, ev_onone, ev_osome, et_cmp, et_chn, et_not, et_bl, et_var, et_call, et_bi, et_idx, et_and1, et_and2, et_or1, et_or2, ec_none, ec_some, eg_name, eg_sub, eg_tup, eg_nil, eg_cons, ei_val, ei_rng1, ei_rng2, List.map_cons, List.map_nil, List.replicate, List.cons_append, List.nil_append, List.getElem?_cons_zero, List.getElem?_cons_succ, List.set_cons_zero, List.set_cons_succ, Nat.reduceSub, Nat.reduceAdd, List.length_cons, List.length_nil]
    refine ⟨by decide, if_some (cmpIn (in_strs (ws := ["call", "part"]) rfl hwo (by decide +kernel))) ?_⟩
    split
    · rename_i hb
      refine drawQ (n := n + 2) (N := N + 20 + 25 * j + 1) (by decide) (by decide) (cap2 _ (by omega)) hp1.dk fun k S2 hk D2 f2 => ?_
      have hp2 := hp1.step D2 f2
      refine ⟨_, rfl, bd62_nat (by omega), by rw [rngD_len, sizeLine_eq]; omega, ?_⟩
      have e2 : ((k : Nat) : Int).toNat = k := by omega
      rw [e2]
      have nd := hp2.nd
      simp only [List.nodup_cons, List.mem_cons, List.not_mem_nil, or_false, not_or, List.nodup_nil, not_false_eq_true, and_true] at nd
      refine picks (n := n + 1) (xs := fl) (l := Fl) (fun v => rfl) (fun v => rfl) (cap2 _ (by omega)) D2 hp2.f (by omega) (by omega) hfl (by have := hp2.cnt; omega) fun ks S3 hl3 hm3 D3 f3 => ?_
      have hp3 := hp2.step D3 f3
      exact ⟨trivial, S3.length, ks, (fun h => by rw [hb] at h; cases h), by omega, fun q hq => hp3.flt q (hm3 q hq), rfl, (hp3.inc (Inc.app _)).more (by omega), (hf1.trans (f2.trans f3)).trans (Frm.app _), get_new, hp3.lt (Nat.le_refl _)⟩
    · exact ⟨by decide, trivial, S1.length, [], fun _ => rfl, by simp, by simp, rfl, (hp1.inc (Inc.app _)).more (by omega), hf1.trans (Frm.app _), get_new, hp1.lt (Nat.le_refl _)⟩
  rintro η2 S2 ⟨lf, fs, hfs, hfl2, hflt, rfl, hp2, hf2, hlf, hlx⟩
  -- how many tasks
  refine seq_nx (P := fun η' S' => ∃ (m : Nat) (mi : Int), mi = (m : Nat) ∧ m ≤ 4 ∧ (w = "do" → m = 1) ∧ (w = "go" → m = 0) ∧ (w = "given" → m = 0) ∧ (w = "test" → m = 2) ∧ η' = [some (.loc d), some (.loc P), some (.loc Fl), some (.loc Tl), some (.int (0 + (j : Nat))), some (.str w), some (.loc lf), e7, some (.int mi), e9, e10] ∧ PSt d t P Fl Tl (N + 20 + 25 * j + 5) S' rows ds fl tl ∧ Frm d t S S' ∧ S'[lf]? = some (.lst (ints_ fs))) ?_ ?_
  · simp only [el_nil, el_cons, es_pass, es_brk, es_cnt, es_retN, es_ret, es_exp, es_asg, es_par, es_par3, es_aug, es_ite, es_for, es_step, es_whl, ev_var, ev_glb, ev_non, ev_bl, ev_int, ev_str, ev_bin, ev_neg, ev_cmp, ev_not, ev_ife, ev_tup, ev_lst, ev_dct, ev_idx, ev_slc, ev_rev, ev_call, ev_callk, ev_bi, ev_mth, ev_lcp, ev_ssc, ev_and1, ev_and2, ev_or1, ev_or2, ev_nil, ev_cons, ev_pnil, ev_pcons, ev_onone, ev_osome, et_cmp, et_chn, et_not, et_bl, et_var, et_call, et_bi, et_idx, et_and1, et_and2, et_or1, et_or2, ec_none, ec_some, eg_name, eg_sub, eg_tup, eg_nil, eg_cons, ei_val, ei_rng1, ei_rng2, List.map_cons, List.map_nil, List.replicate, List.cons_append, List.nil_append, List.getElem?_cons_zero, List.getElem?_cons_succ, List.set_cons_zero, List.set_cons_succ, Nat.reduceSub, Nat.reduceAdd, List.length_cons, List.length_nil]
    have h11 : S2.length ∉ [d, t, P, Fl, Tl] := hp2.lt (Nat.le_refl _)
    refine ⟨_, rfl, _, rfl, _, rfl, _, rfl, by decide, recv_dct get_new, ?_⟩
    have hp3 := hp2.inc (Inc.app [Cell.dct (mergeD [] [(Sum.inr (Str.ofString "do"), D.int 1), (Sum.inr (Str.ofString "go"), D.int 0), (Sum.inr (Str.ofString "given"), D.int 0), (Sum.inr (Str.ofString "test"), D.int 2)])])
    refine drawQ (n := n + 2) (N := N + 20 + 25 * j + 4) (by decide) (by decide) (cap2 _ (by omega)) hp3.dk fun k S3 hk D3 f3 => ?_
    have hd3 := f3 S2.length _ get_new (fun e => h11 (by rw [e]; simp)) (fun e => h11 (by rw [e]; simp))
    have hlf3 := f3 lf _ (get_app hlf) (fun e => hlx (by rw [e]; simp)) (fun e => hlx (by rw [e]; simp))
    have hp4 := hp3.step D3 f3
    refine if_some (cmpEq (eq_str hwo (by decide +kernel))) ?_
    rw [ok_intB, ok_addI, ok_get2 hd3 rfl]
    have hk4 : k < 4 := by omega
    have fin : ∀ m : Nat, m ≤ 4 → (w = "do" → m = 1) → (w = "go" → m = 0) → (w = "given" → m = 0) → (w = "test" → m = 2) → True ∧ ∃ (m' : Nat) (mi : Int), mi = (m' : Nat) ∧ m' ≤ 4 ∧ (w = "do" → m' = 1) ∧ (w = "go" → m' = 0) ∧ (w = "given" → m' = 0) ∧ (w = "test" → m' = 2) ∧ [some (D.loc d), some (.loc P), some (.loc Fl), some (.loc Tl), some (.int (0 + (j : Nat))), some (.str w), some (.loc lf), e7, some (.int (m : Nat)), e9, e10] = [some (.loc d), some (.loc P), some (.loc Fl), some (.loc Tl), some (.int (0 + (j : Nat))), some (.str w), some (.loc lf), e7, some (.int mi), e9, e10] ∧ PSt d t P Fl Tl (N + 20 + 25 * j + 5) S3 rows ds fl tl ∧ Frm d t S S3 ∧ S3[lf]? = some (.lst (ints_ fs)) := fun m a1 a2 a3 a4 a5 => ⟨trivial, m, _, rfl, a1, a2, a3, a4, a5, rfl, hp4.more (by omega), hf2.trans ((Frm.app _).trans f3), hlf3⟩
    have no : ∀ {a b : Str} {p : Prop}, (a == b) = false → a = b → p := fun h e => absurd e (by simpa using h)
    simp only [List.mem_cons, List.not_mem_nil, or_false] at hw
    rcases hw with rfl | rfl | rfl | rfl | rfl | rfl | rfl
    · exact fin 1 (by omega) (fun _ => rfl) (no (by decide)) (no (by decide)) (no (by decide))
    · exact fin 0 (by omega) (no (by decide)) (fun _ => rfl) (no (by decide)) (no (by decide))
    · exact fin 2 (by omega) (no (by decide)) (no (by decide)) (no (by decide)) (fun _ => rfl)
    · have := fin (k + 1) (by omega) (no (by decide)) (no (by decide)) (no (by decide)) (no (by decide))
      exact this
    · have e0 : (k : Int) + Fw.b2i (Str.ofString "call" == Str.ofString "pick") = (k : Int) := by rw [show Fw.b2i (Str.ofString "call" == Str.ofString "pick") = 0 from rfl, Int.add_zero]
      rw [e0]
      exact fin k (by omega) (no (by decide)) (no (by decide)) (no (by decide)) (no (by decide))
    · have e0 : (k : Int) + Fw.b2i (Str.ofString "part" == Str.ofString "pick") = (k : Int) := by rw [show Fw.b2i (Str.ofString "part" == Str.ofString "pick") = 0 from rfl, Int.add_zero]
      rw [e0]
      exact fin k (by omega) (no (by decide)) (no (by decide)) (no (by decide)) (no (by decide))
    · have e0 : (valD (mergeD [] [(Sum.inr (Str.ofString "do"), D.int 1), (Sum.inr (Str.ofString "go"), D.int 0), (Sum.inr (Str.ofString "given"), D.int 0), (Sum.inr (Str.ofString "test"), D.int 2)]) (Sum.inr (Str.ofString "given"))) = some (D.int ((0 : Nat) : Int)) := rfl
      rw [e0]
      have q1 : ("given" : Str) = "do" → 0 = 1 := no (by decide)
      have q2 : ("given" : Str) = "go" → 0 = 0 := fun _ => rfl
      have q3 : ("given" : Str) = "test" → 0 = 2 := no (by decide)
      have q := fin 0 (Nat.zero_le 4) q1 q2 (fun _ => rfl) q3
      exact q
  rintro η3 S3 ⟨m, mi, hmi, hm4, m1, m2, m3, m4, rfl, hp3, hf3, hlf3⟩
  exact tail_ok (n := n) hmi hN' hj setX low hlen hfl htl hw hwo hfs hfl2 hflt hlx hm4 m1 m2 m3 m4 hp3 hf3 hlf3
theorem plan_ok (hN : N + 400 < CAP) (D0 : Deck d t N S)
    (hQ : ∀ P Fl Tl rows ds fl tl S', PSt d t P Fl Tl (N + 400) S' rows ds fl tl → rows.length ≤ 12 → Frm d t S S' → Q (.loc P) S') :
    Ok (callN tab (n + 4) 12 [.loc d] S) Q := by
  have hN' : N + 400 < 4611686018427387904 := hN
  have cap : ∀ k, k ≤ N + 400 → k < CAP := fun k hk => by show k < 4611686018427387904; omega
  refine ok_call t12 rfl ?_
  simp only [df, b12, List.map_cons, List.map_nil, List.replicate, List.cons_append, List.nil_append, List.getElem?_cons_zero, List.getElem?_cons_succ, List.set_cons_zero, List.set_cons_succ, Nat.reduceSub, Nat.reduceAdd, List.length_cons, List.length_nil]
  simp only [el_nil, el_cons, es_pass, es_brk, es_cnt, es_retN, es_ret, es_exp, es_asg, es_par, es_par3, es_aug, es_ite, es_for, es_step, es_whl, ev_var, ev_glb, ev_non, ev_bl, ev_int, ev_str, ev_bin, ev_neg, ev_cmp, ev_not, ev_ife, ev_tup, ev_lst, ev_dct, ev_idx, ev_slc, ev_rev, ev_call, ev_callk, ev_bi, ev_mth, ev_lcp, ev_ssc, ev_and1, ev_and2, ev_or1, ev_or2, ev_nil, ev_cons, ev_pnil, ev_pcons, ev_onone, ev_osome, et_cmp, et_chn, et_not, et_bl, et_var, et_call, et_bi, et_idx, et_and1, et_and2, et_or1, et_or2, ec_none, ec_some, eg_name, eg_sub, eg_tup, eg_nil, eg_cons, ei_val, ei_rng1, ei_rng2, List.map_cons, List.map_nil, List.replicate, List.cons_append, List.nil_append, List.getElem?_cons_zero, List.getElem?_cons_succ, List.set_cons_zero, List.set_cons_succ, Nat.reduceSub, Nat.reduceAdd, List.length_cons, List.length_nil]
  refine ⟨by decide, by decide, by decide, by decide, rfl, ?_⟩
  have hP : PSt d t S.length (S ++ [Cell.lst []]).length (S ++ [Cell.lst []] ++ [Cell.lst []]).length N (S ++ [Cell.lst []] ++ [Cell.lst []] ++ [Cell.lst []]) [] [] [] [] := by
    obtain ⟨h1, h2⟩ := D0.lt
    have hne := D0.ne
    refine ⟨D0.keep ((Inc.app _).trans ((Inc.app _).trans (Inc.app _))), get_app (get_app get_new), rfl, fun i r hr => by simp at hr, get_app get_new, get_new, by simp, by simp, by simp, ?_⟩
    simp only [List.nodup_cons, List.mem_cons, List.not_mem_nil, or_false, not_or, List.nodup_nil, not_false_eq_true, and_true, List.length_append, List.length_cons, List.length_nil]
    omega
  have low : ∀ (l : Nat) (c : Cell), S[l]? = some c → l ≠ S.length ∧ l ≠ (S ++ [Cell.lst []]).length ∧ l ≠ (S ++ [Cell.lst []] ++ [Cell.lst []]).length := fun l c h => by
    have := get_lt h
    simp
    omega
  have setX : ∀ {S' : Store} {l : Nat} {c : Cell}, Frm d t S S' → (∀ (k : Nat) (c : Cell), S[k]? = some c → k ≠ l) → Frm d t S (S'.set l c) := fun {S' l c} h hl k c' q n m => by
    rw [get_set_ne (hl k c' q)]
    exact h k c' q n m
  have hF : Frm d t S (S ++ [Cell.lst []] ++ [Cell.lst []] ++ [Cell.lst []]) := (Frm.app _).trans ((Frm.app _).trans (Frm.app _))
  generalize S ++ [Cell.lst []] ++ [Cell.lst []] ++ [Cell.lst []] = S1 at hP hF ⊢
  generalize (S ++ [Cell.lst []] ++ [Cell.lst []]).length = Tl at hP low ⊢
  generalize (S ++ [Cell.lst []]).length = Fl at hP low ⊢
  generalize S.length = P at hP low ⊢
  refine ⟨(recv_lst hP.g).1, by decide, ?_⟩
  refine one_lit (n := n + 1) (cap _ (by omega)) hP.dk (by simp) (by decide) fun v S2 hv D2 f2 => ?_
  have hP2 := hP.step D2 f2
  have hF2 := hF.trans f2
  obtain ⟨w, rfl, hw⟩ : ∃ w, v = .str w ∧ Shape w [] [] := by
    simp only [List.mem_cons, List.not_mem_nil, or_false] at hv
    rcases hv with rfl | rfl | rfl
    · exact ⟨_, rfl, .w_end⟩
    · exact ⟨_, rfl, .w_wait⟩
    · exact ⟨_, rfl, .w_fail⟩
  have l1 : (S2 ++ [Cell.lst []] ++ [Cell.lst []])[S2.length]? = some (.lst (ints_ [])) := get_app get_new
  have l2 : (S2 ++ [Cell.lst []] ++ [Cell.lst []])[(S2 ++ [Cell.lst []]).length]? = some (.lst (ints_ [])) := get_new
  have hP3 := hP2.inc ((Inc.app [Cell.lst []]).trans (Inc.app [Cell.lst []]))
  have hF3 : Frm d t S (S2 ++ [Cell.lst []] ++ [Cell.lst []]) := hF2.trans ((Frm.app _).trans (Frm.app _))
  refine ⟨by decide, by decide, new_ok (n := n + 2) (m := 0) hP3.pl rfl (by decide) ?_⟩
  have hP4 := hP3.add (r := ⟨w, "", [], []⟩) ⟨hw, fun k hk => by simp at hk, nameE, by simp⟩ l1 l2 (hP2.lt (Nat.le_refl _)) (hP2.lt (by simp))
  have hF4 := setX (c := .lst ([] ++ [.tup [.str w, .str "", .loc S2.length, .loc (S2 ++ [Cell.lst []]).length]])) hF3 fun l c h => (low l c h).1
  generalize (S2 ++ [Cell.lst []] ++ [Cell.lst []]).set P _ = S4 at hP4 hF4 ⊢
  rw [ok_append hP4.g (by rw [sizeLine_eq]; decide)]
  have hP5 := hP4.addT (k := 0) (by simp) (by simp)
  have hF5 := setX (c := .lst (ints_ [] ++ [.int (0 : Nat)])) hF4 fun l c h => (low l c h).2.2
  generalize S4.set Tl _ = S5 at hP5 hF5 ⊢
  refine ⟨(recv_lst hP5.f).1, ?_⟩
  refine name_ok (n := n) (by show _ < 4611686018427387904; omega) hP5.dk fun nm S6 hnm D6 f6 => ?_
  have hP6 := hP5.step D6 f6
  have hF6 := hF5.trans f6
  have l3 : (S6 ++ [Cell.lst []] ++ [Cell.lst []])[S6.length]? = some (.lst (ints_ [])) := get_app get_new
  have l4 : (S6 ++ [Cell.lst []] ++ [Cell.lst []])[(S6 ++ [Cell.lst []]).length]? = some (.lst (ints_ [])) := get_new
  have hP7 := hP6.inc ((Inc.app [Cell.lst []]).trans (Inc.app [Cell.lst []]))
  have hF7 : Frm d t S (S6 ++ [Cell.lst []] ++ [Cell.lst []]) := hF6.trans ((Frm.app _).trans (Frm.app _))
  refine ⟨by decide, by decide, new_ok (n := n + 2) (m := 1) hP7.pl rfl (by decide) ?_⟩
  have hP8 := hP7.add (r := ⟨"given", nm, [], []⟩) ⟨.w_given, fun k hk => by simp at hk, hnm, by simp⟩ l3 l4 (hP6.lt (Nat.le_refl _)) (hP6.lt (by simp))
  have hF8 := setX (c := .lst ([] ++ [.tup [.str w, .str "", .loc S2.length, .loc (S2 ++ [Cell.lst []]).length]] ++ [.tup [.str "given", .str nm, .loc S6.length, .loc (S6 ++ [Cell.lst []]).length]])) hF7 fun l c h => (low l c h).1
  generalize (S6 ++ [Cell.lst []] ++ [Cell.lst []]).set P _ = S8 at hP8 hF8 ⊢
  rw [ok_append hP8.f (by rw [sizeLine_eq]; decide)]
  have hP9 := hP8.addF (k := 1) (by simp) (by simp)
  have hF9 := setX (c := .lst (ints_ [] ++ [.int (1 : Nat)])) hF8 fun l c h => (low l c h).2.1
  generalize S8.set Fl _ = S9 at hP9 hF9 ⊢
  generalize ([] ++ [D.tup [.str w, .str "", .loc S2.length, .loc (S2 ++ [Cell.lst []]).length]] ++ [.tup [.str "given", .str nm, .loc S6.length, .loc (S6 ++ [Cell.lst []]).length]]) = ds9 at hP9
  refine drawQ (n := n + 2) (N := N + 1 + 11) (by decide) (by decide) (cap _ (by omega)) hP9.dk fun y S10 hy D10 f10 => ?_
  have hP10 := hP9.step D10 f10
  have hF10 := hF9.trans f10
  rw [ok_addI]
  have hy' : y < 9 := by omega
  refine ⟨_, rfl, ?_, ?_⟩
  · rw [show (2 : Int) + (y : Int) = ((2 + y : Nat) : Int) by omega]
    exact bd62_nat (by omega)
  have e1 : ((2 : Int) + (y : Int)).toNat = 2 + y := by omega
  rw [e1]
  refine for_ok (fun j η S' => ∃ rows ds fl tl e4 e5 e6 e7 e8 e9 e10, η = [some (.loc d), some (.loc P), some (.loc Fl), some (.loc Tl), e4, e5, e6, e7, e8, e9, e10] ∧ PSt d t P Fl Tl (N + 20 + 25 * j) S' rows ds fl tl ∧ Frm d t S S' ∧ rows.length = 2 + j ∧ fl ≠ [] ∧ tl ≠ [])
    ⟨_, _, _, _, _, _, _, _, _, _, _, rfl, hP10.more (by omega), hF10, rfl, by simp, by simp⟩ ?_ ?_
  · rintro j x η S' hx ⟨rows, ds, fl, tl, e4, e5, e6, e7, e8, e9, e10, rfl, hp, hf, hlen, hfl, htl⟩
    obtain ⟨rfl, hj⟩ := rngD_get hx
    refine ⟨rfl, ?_⟩
    rw [es_step, eg_name]
    simp only [List.map_cons, List.map_nil, List.replicate, List.cons_append, List.nil_append, List.getElem?_cons_zero, List.getElem?_cons_succ, List.set_cons_zero, List.set_cons_succ, Nat.reduceSub, Nat.reduceAdd, List.length_cons, List.length_nil]
    refine (turn_ok (n := n) (e4 := none) hN' (by omega) setX low hp hf hlen hfl htl).mono fun f η' S2 h => ?_
    obtain ⟨rfl, h⟩ := h
    exact h
  · rintro η S' ⟨rows, ds, fl, tl, e4, e5, e6, e7, e8, e9, e10, rfl, hp, hf, hlen, hfl, htl⟩
    refine ⟨rfl, ?_⟩
    rw [rngD_len] at hp hlen
    simp only [el_nil, el_cons, es_pass, es_brk, es_cnt, es_retN, es_ret, es_exp, es_asg, es_par, es_par3, es_aug, es_ite, es_for, es_step, es_whl, ev_var, ev_glb, ev_non, ev_bl, ev_int, ev_str, ev_bin, ev_neg, ev_cmp, ev_not, ev_ife, ev_tup, ev_lst, ev_dct, ev_idx, ev_slc, ev_rev, ev_call, ev_callk, ev_bi, ev_mth, ev_lcp, ev_ssc, ev_and1, ev_and2, ev_or1, ev_or2, ev_nil, ev_cons, ev_pnil, ev_pcons, ev_onone, ev_osome, et_cmp, et_chn, et_not, et_bl, et_var, et_call, et_bi, et_idx, et_and1, et_and2, et_or1, et_or2, ec_none, ec_some, eg_name, eg_sub, eg_tup, eg_nil, eg_cons, ei_val, ei_rng1, ei_rng2, List.map_cons, List.map_nil, List.replicate, List.cons_append, List.nil_append, List.getElem?_cons_zero, List.getElem?_cons_succ, List.set_cons_zero, List.set_cons_succ, Nat.reduceSub, Nat.reduceAdd, List.length_cons, List.length_nil]
    exact hQ P Fl Tl rows ds fl tl S' (hp.more (by omega)) (by omega) hf
end
end Law
namespace Law
open PySem PySem.Spec PyProof.Rows L2 Fw
theorem t7 : tab.defs[7]? = some (df 7) := rfl
section
variable {n : Nat} {S : Store} {Q : D → Store → Prop}
theorem cut63 (ns : List Int) : Fw.cutD (ns.map D.int) none (some 63) = (ns.take (min 63 ns.length)).map D.int := by
  unfold Fw.cutD
  have h1 : HT.sIx (ns.map D.int).length (ns.map D.int).length (some 63) = min 63 (ns.map D.int).length := by
    show HT.sIx _ _ (some ((63 : Nat) : Int)) = _
    rw [HT.sIx_nat]
  rw [h1, HT.sIx_none]
  simp
theorem well_ok (ns : List Int) (hQ : ∀ d t S', Deck d t 0 S' → Inc S S' → Q (.loc d) S') : Ok (callN tab (n + 1) 7 [.fzl (ns.map .int)] S) Q := by
  refine ok_call t7 rfl ?_
  simp only [df, b7, List.map_cons, List.map_nil, List.replicate, List.cons_append, List.nil_append, List.getElem?_cons_zero, List.getElem?_cons_succ, List.set_cons_zero, List.set_cons_succ, Nat.reduceSub, Nat.reduceAdd, List.length_cons, List.length_nil]
  simp only [el_nil, el_cons, es_pass, es_brk, es_cnt, es_retN, es_ret, es_exp, es_asg, es_par, es_par3, es_aug, es_ite, es_for, es_step, es_whl, ev_var, ev_glb, ev_non, ev_bl, ev_int, ev_str, ev_bin, ev_neg, ev_cmp, ev_not, ev_ife, ev_tup, ev_lst, ev_dct, ev_idx, ev_slc, ev_rev, ev_call, ev_callk, ev_bi, ev_mth, ev_lcp, ev_ssc, ev_and1, ev_and2, ev_or1, ev_or2, ev_nil, ev_cons, ev_pnil, ev_pcons, ev_onone, ev_osome, et_cmp, et_chn, et_not, et_bl, et_var, et_call, et_bi, et_idx, et_and1, et_and2, et_or1, et_or2, ec_none, ec_some, eg_name, eg_sub, eg_tup, eg_nil, eg_cons, ei_val, ei_rng1, ei_rng2, List.map_cons, List.map_nil, List.replicate, List.cons_append, List.nil_append, List.getElem?_cons_zero, List.getElem?_cons_succ, List.set_cons_zero, List.set_cons_succ, Nat.reduceSub, Nat.reduceAdd, List.length_cons, List.length_nil]
  refine ⟨63, rfl, ?_⟩
  rw [ok_sliceF, cut63]
  generalize hm : ns.take (min 63 ns.length) = ms
  have hms : ms.length ≤ 63 := by rw [← hm, List.length_take]; omega
  rw [ok_list (xs := ms.map .int) (by unfold seqOf; dsimp only; rw [get_new])]
  have hl : (S ++ [Cell.lst (ms.map .int)] ++ [Cell.lst (ms.map .int)])[(S ++ [Cell.lst (ms.map .int)]).length]? = some (.lst (ms.map .int)) := get_new
  have hi : Inc S (S ++ [Cell.lst (ms.map .int)] ++ [Cell.lst (ms.map .int)]) := (Inc.app _).trans (Inc.app _)
  generalize S ++ [Cell.lst (ms.map .int)] ++ [Cell.lst (ms.map .int)] = S1 at hl hi ⊢
  generalize (S ++ [Cell.lst (ms.map .int)]).length = l at hl ⊢
  rw [ok_walk hl]
  refine for_ok (fun j η S' => S' = S1 ∧ ∃ b e3, η = [some (.fzl (ns.map .int)), some (.loc l), some (.int b), e3]) ⟨rfl, _, _, rfl⟩ ?_ ?_
  · rintro j x η S' hx ⟨rfl, b, e3, rfl⟩
    refine ⟨gOk_one hl, ?_⟩
    rw [List.getElem?_map] at hx
    obtain ⟨y, hy, rfl⟩ := Option.map_eq_some_iff.mp hx
    rw [es_step]
    simp only [el_nil, el_cons, es_pass, es_brk, es_cnt, es_retN, es_ret, es_exp, es_asg, es_par, es_par3, es_aug, es_ite, es_for, es_step, es_whl, ev_var, ev_glb, ev_non, ev_bl, ev_int, ev_str, ev_bin, ev_neg, ev_cmp, ev_not, ev_ife, ev_tup, ev_lst, ev_dct, ev_idx, ev_slc, ev_rev, ev_call, ev_callk, ev_bi, ev_mth, ev_lcp, ev_ssc, ev_and1, ev_and2, ev_or1, ev_or2, ev_nil, ev_cons, ev_pnil, ev_pcons, ev_onone, ev_osome, et_cmp, et_chn, et_not, et_bl, et_var, et_call, et_bi, et_idx, et_and1, et_and2, et_or1, et_or2, ec_none, ec_some, eg_name, eg_sub, eg_tup, eg_nil, eg_cons, ei_val, ei_rng1, ei_rng2, List.map_cons, List.map_nil, List.replicate, List.cons_append, List.nil_append, List.getElem?_cons_zero, List.getElem?_cons_succ, List.set_cons_zero, List.set_cons_succ, Nat.reduceSub, Nat.reduceAdd, List.length_cons, List.length_nil]
    rw [ok_mulI (mulOk_r (by decide) (by decide)), ok_intI, ok_modI (by decide), ok_addI, ok_addI, ok_intI, ok_modI (by decide)]
    exact ⟨rfl, _, _, rfl⟩
  · rintro η S' ⟨rfl, b, e3, rfl⟩
    refine ⟨gOk_one hl, ?_⟩
    simp only [el_nil, el_cons, es_pass, es_brk, es_cnt, es_retN, es_ret, es_exp, es_asg, es_par, es_par3, es_aug, es_ite, es_for, es_step, es_whl, ev_var, ev_glb, ev_non, ev_bl, ev_int, ev_str, ev_bin, ev_neg, ev_cmp, ev_not, ev_ife, ev_tup, ev_lst, ev_dct, ev_idx, ev_slc, ev_rev, ev_call, ev_callk, ev_bi, ev_mth, ev_lcp, ev_ssc, ev_and1, ev_and2, ev_or1, ev_or2, ev_nil, ev_cons, ev_pnil, ev_pcons, ev_onone, ev_osome, et_cmp, et_chn, et_not, et_bl, et_var, et_call, et_bi, et_idx, et_and1, et_and2, et_or1, et_or2, ec_none, ec_some, eg_name, eg_sub, eg_tup, eg_nil, eg_cons, ei_val, ei_rng1, ei_rng2, List.map_cons, List.map_nil, List.replicate, List.cons_append, List.nil_append, List.getElem?_cons_zero, List.getElem?_cons_succ, List.set_cons_zero, List.set_cons_succ, Nat.reduceSub, Nat.reduceAdd, List.length_cons, List.length_nil]
    rw [ok_reversed hl]
    refine ⟨_, rfl, _, rfl, _, rfl, by decide, ?_⟩
    have hlt := get_lt hl
    refine hQ _ S'.length _ ⟨⟨b, 0, get_new, by decide, by decide⟩, ⟨ms.reverse, ?_, by simp; omega⟩, by simp⟩ (hi.trans ((Inc.app _).trans (Inc.app _)))
    rw [get_app get_new, List.map_reverse]
end
end Law
namespace Law
open PySem PySem.Spec PyProof.Rows L2 Fw
theorem t14 : tab.defs[14]? = some (df 14) := rfl
theorem t13 : tab.defs[13]? = some (df 13) := rfl
/-- the rows of the plan are in order -/
def RowsOk (rows : List Row) : Prop := ∀ (i : Nat) (r : Row), rows[i]? = some r → RowOk i r
theorem at_app {T T' : List D} {k : Nat} (h : k < T.length) : at_ (T ++ T') k = at_ T k := by
  unfold at_
  rw [List.getD_eq_getElem?_getD, List.getD_eq_getElem?_getD, List.getElem?_append_left h]
theorem chs_ext {T T' : List D} {l : List Nat} (h : ∀ k ∈ l, at_ T k = at_ T' k) : chs T l = chs T' l := List.map_congr_left h
theorem mkT_ext {r : Row} {T T' : List D} (h : ∀ k ∈ r.fs ++ r.ts, at_ T k = at_ T' k) : mkT r T = mkT r T' := by
  have h1 : chs T r.fs = chs T' r.fs := chs_ext fun k hk => h k (List.mem_append_left _ hk)
  have h2 : chs T r.ts = chs T' r.ts := chs_ext fun k hk => h k (List.mem_append_right _ hk)
  unfold mkT
  rw [h1, h2]
/-- the first rows' terms -/
structure Bld (rows : List Row) (i : Nat) (T : List D) : Prop where
  len : T.length = i
  row : ∀ (k : Nat) (r : Row), k < i → rows[k]? = some r → T[k]? = some (mkT r T)
theorem Bld.step {rows : List Row} {i : Nat} {T : List D} {r : Row} (ok : RowsOk rows) (h : Bld rows i T) (hr : rows[i]? = some r) : Bld rows (i + 1) (T ++ [mkT r T]) := by
  have ext : ∀ (k : Nat) (q : Row), k ≤ i → rows[k]? = some q → mkT q (T ++ [mkT r T]) = mkT q T := fun k q hk hq => mkT_ext fun j hj => at_app (by
    have := (ok k q hq).lt j hj
    rw [h.len]; omega)
  refine ⟨by simp [h.len], fun k q hk hq => ?_⟩
  rw [ext k q (by omega) hq]
  rcases Nat.lt_or_ge k i with h1 | h1
  · rw [List.getElem?_append_left (by rw [h.len]; exact h1)]
    exact h.row k q h1 hq
  · have : k = i := by omega
    subst this
    rw [hr] at hq
    cases hq
    rw [← h.len]
    simp
theorem Bld.lay {rows : List Row} {T : List D} (ok : RowsOk rows) (h : Bld rows rows.length T) : Lay rows T :=
  ⟨h.len, fun i r hr => ⟨ok i r hr, h.row i r (List.getElem?_eq_some_iff.mp hr).1 hr⟩⟩
section
variable {n : Nat} {S : Store} {Q : D → Store → Prop} {rows : List Row}
theorem found_ok {F : Fn} {QL : List D → Store → Prop} {η : Fw.Env} {a jj l L : Nat} {ks : List Nat} {T : List D} (ha : ∀ v, (η.set jj v)[a]? = some (some (.loc L))) (hj : ∀ v, (η.set jj (some v))[jj]? = some (some v)) (hl : S[l]? = some (.lst (ints_ ks))) (hL : S[L]? = some (.lst T)) (hk : ∀ k ∈ ks, k < T.length)
    (hQ : QL (chs T ks) S) : Ok (comp [(l, ints_ ks)] (asG F (.name jj)) (evC F .none) (evE F (.idx (.var a) (.var jj))) η (ints_ ks) S) QL := by
  refine comp_ok (fun j acc S' => S' = S ∧ acc = chs T (ks.take j)) ⟨rfl, rfl⟩ ?_ ?_
  · rintro j x acc S' hx ⟨rfl, rfl⟩
    refine ⟨gOk_one hl, ?_⟩
    unfold ints_ at hx
    rw [List.getElem?_map] at hx
    obtain ⟨k, hk', rfl⟩ := Option.map_eq_some_iff.mp hx
    simp only [eg_name, ec_none, ev_idx, ev_var, ha, hj, if_true]
    have hlt := hk k (List.mem_of_getElem? hk')
    rw [ok_getL hL (Fw.atI_nat (a := at_ T k) (by unfold at_; rw [List.getD_eq_getElem?_getD, List.getElem?_eq_getElem hlt]; rfl))]
    refine ⟨rfl, ?_⟩
    rw [List.take_add_one, hk', chs_append]
    rfl
  · rintro acc S' ⟨rfl, rfl⟩
    refine ⟨gOk_one hl, ?_⟩
    rw [ints_len, List.take_length]
    exact hQ
theorem mk_terms {P : Nat} {ds : List D} (ok : RowsOk rows) (hP : PlanAt S P rows ds) (hn : rows.length ≤ 12)
    (hQ : ∀ l T S', Inc S S' → S'[l]? = some (.lst T) → Lay rows T → S.length ≤ l → Q (.loc l) S') : Ok (callN tab (n + 1) 14 [.loc P] S) Q := by
  refine ok_call t14 rfl ?_
  simp only [df, b14, List.map_cons, List.map_nil, List.replicate, List.cons_append, List.nil_append, List.getElem?_cons_zero, List.getElem?_cons_succ, List.set_cons_zero, List.set_cons_succ, Nat.reduceSub, Nat.reduceAdd, List.length_cons, List.length_nil]
  simp only [el_nil, el_cons, es_pass, es_brk, es_cnt, es_retN, es_ret, es_exp, es_asg, es_par, es_par3, es_aug, es_ite, es_for, es_step, es_whl, ev_var, ev_glb, ev_non, ev_bl, ev_int, ev_str, ev_bin, ev_neg, ev_cmp, ev_not, ev_ife, ev_tup, ev_lst, ev_dct, ev_idx, ev_slc, ev_rev, ev_call, ev_callk, ev_bi, ev_mth, ev_lcp, ev_ssc, ev_and1, ev_and2, ev_or1, ev_or2, ev_nil, ev_cons, ev_pnil, ev_pcons, ev_onone, ev_osome, et_cmp, et_chn, et_not, et_bl, et_var, et_call, et_bi, et_idx, et_and1, et_and2, et_or1, et_or2, ec_none, ec_some, eg_name, eg_sub, eg_tup, eg_nil, eg_cons, ei_val, ei_rng1, ei_rng2, List.map_cons, List.map_nil, List.replicate, List.cons_append, List.nil_append, List.getElem?_cons_zero, List.getElem?_cons_succ, List.set_cons_zero, List.set_cons_succ, Nat.reduceSub, Nat.reduceAdd, List.length_cons, List.length_nil]
  refine ⟨by decide, ?_⟩
  rw [ok_walk (get_app hP.pl)]
  have low : ∀ (l : Nat) (c : Cell), S[l]? = some c → l ≠ S.length := fun l c h => Nat.ne_of_lt (get_lt h)
  have hi0 : Inc S (S ++ [Cell.lst []]) := Inc.app _
  have hl0 : (S ++ [Cell.lst []])[S.length]? = some (.lst []) := get_new
  have hLL : S.length ≤ S.length := Nat.le_refl _
  generalize S ++ [Cell.lst []] = S0 at hi0 hl0 ⊢
  refine for_ok (fun j η S' => ∃ T e2 e3 e4 e5 e6 e7 e8, η = [some (.loc P), some (.loc S.length), e2, e3, e4, e5, e6, e7, e8] ∧ Inc S S' ∧ S'[S.length]? = some (.lst T) ∧ Bld rows j T) ⟨[], _, _, _, _, _, _, _, rfl, hi0, hl0, rfl, fun k r hk _ => absurd hk (Nat.not_lt_zero _)⟩ ?_ ?_
  · rintro j x η S' hx ⟨T, e2, e3, e4, e5, e6, e7, e8, rfl, inc, hT, B⟩
    have hP' := hP.keep inc
    refine ⟨gOk_one hP'.pl, ?_⟩
    have hj : j < rows.length := by rw [← hP.len]; exact (List.getElem?_eq_some_iff.mp hx).1
    obtain ⟨r, hr⟩ := lt_row hj
    obtain ⟨x', hx', lf, lt, rfl, hlf, hlt⟩ := hP'.row j r hr
    rw [hx'] at hx
    cases hx
    have rok := ok j r hr
    rw [es_step]
    simp only [el_nil, el_cons, es_pass, es_brk, es_cnt, es_retN, es_ret, es_exp, es_asg, es_par, es_par3, es_aug, es_ite, es_for, es_step, es_whl, ev_var, ev_glb, ev_non, ev_bl, ev_int, ev_str, ev_bin, ev_neg, ev_cmp, ev_not, ev_ife, ev_tup, ev_lst, ev_dct, ev_idx, ev_slc, ev_rev, ev_call, ev_callk, ev_bi, ev_mth, ev_lcp, ev_ssc, ev_and1, ev_and2, ev_or1, ev_or2, ev_nil, ev_cons, ev_pnil, ev_pcons, ev_onone, ev_osome, et_cmp, et_chn, et_not, et_bl, et_var, et_call, et_bi, et_idx, et_and1, et_and2, et_or1, et_or2, ec_none, ec_some, eg_name, eg_sub, eg_tup, eg_nil, eg_cons, ei_val, ei_rng1, ei_rng2, List.map_cons, List.map_nil, List.replicate, List.cons_append, List.nil_append, List.getElem?_cons_zero, List.getElem?_cons_succ, List.set_cons_zero, List.set_cons_succ, Nat.reduceSub, Nat.reduceAdd, List.length_cons, List.length_nil]
    refine ⟨by simp [GL.len], ?_⟩
    rw [ok_walk hlf]
    refine ⟨by rw [ints_len, sizeLine_eq]; have := rok.few; omega, ?_⟩
    simp only [wipeE, List.map_cons, List.map_nil, List.replicate, List.cons_append, List.nil_append, List.getElem?_cons_zero, List.getElem?_cons_succ, List.set_cons_zero, List.set_cons_succ, Nat.reduceSub, Nat.reduceAdd, List.length_cons, List.length_nil]
    refine found_ok (fun v => rfl) (fun v => rfl) hlf hT (fun k hk => by rw [B.len]; exact rok.lt k (List.mem_append_left _ hk)) ?_
    rw [ok_tupleL get_new]
    have i1 : Inc S' (S' ++ [Cell.lst (chs T r.fs)]) := Inc.app _
    generalize S' ++ [Cell.lst (chs T r.fs)] = S1 at i1 ⊢
    rw [ok_walk (i1 _ _ hlt)]
    refine ⟨by rw [ints_len, sizeLine_eq]; have := rok.few; omega, ?_⟩
    refine found_ok (fun v => rfl) (fun v => rfl) (i1 _ _ hlt) (i1 _ _ hT) (fun k hk => by rw [B.len]; exact rok.lt k (List.mem_append_right _ hk)) ?_
    rw [ok_tupleL get_new]
    have i2 : Inc S' (S1 ++ [Cell.lst (chs T r.ts)]) := i1.trans (Inc.app _)
    generalize S1 ++ [Cell.lst (chs T r.ts)] = S2 at i2 ⊢
    have hT2 := i2 _ _ hT
    have B2 := B.step ok hr
    have few := rok.few
    have sl : ∀ m : Nat, m ≤ 30 → m ≤ sizeLine := fun m h => by rw [sizeLine_eq]; omega
    have app : ∀ {QQ : D → Store → Prop} (v : D), v = mkT r T → (∀ S1 : Store, Inc S S1 → S1[S.length]? = some (.lst (T ++ [mkT r T])) → QQ .non S1) → Ok (mtcall .append (.loc S.length) [v] S2) QQ := fun {QQ} v hv h => by
      subst hv
      rw [ok_append hT2 (by rw [B.len, sizeLine_eq]; omega)]
      exact h _ (fun l c h => by rw [get_set_ne (low l c h)]; exact i2 _ _ (inc l c h)) (get_set hT2)
    have rc := (recv_lst hT2).1
    have wo := rok.sh.ok
    have nd : ∀ {p : Prop} [Decidable p], ¬ decide p = true → ¬ p := fun h q => h (decide_eq_true q)
    have ad : ∀ a b : List D, a.length ≤ 2 → b.length ≤ 10 → a.length + b.length ≤ sizeLine := fun a b h1 h2 => by rw [sizeLine_eq]; omega
    have cl : (chs T r.ts).length ≤ 10 := by rw [chs_len]; exact few.2
    refine ⟨by decide, if_some (cmpIn (in_strs (ws := ["end", "wait", "fail"]) rfl wo (by decide +kernel))) ?_⟩
    split
    · rename_i c1
      exact ⟨rc, by decide, app _ (by unfold mkT; rw [if_pos (of_decide_eq_true c1)]) fun S1 h1 h2 => ⟨_, _, _, _, _, _, _, _, rfl, h1, h2, B2⟩⟩
    · rename_i c1
      have c1 := nd c1
      refine ⟨by decide, if_some (cmpIn (in_strs (ws := ["go", "given"]) rfl wo (by decide +kernel))) ?_⟩
      split
      · rename_i c2
        exact ⟨rc, by decide, app _ (by unfold mkT; rw [if_neg c1, if_pos (of_decide_eq_true c2)]) fun S1 h1 h2 => ⟨_, _, _, _, _, _, _, _, rfl, h1, h2, B2⟩⟩
      · rename_i c2
        have c2 := nd c2
        refine if_some (cmpEq (eq_str wo (by decide +kernel))) ?_
        split
        · rename_i c3
          refine ⟨rc, by decide, ?_⟩
          rw [ok_addT (ad _ _ (by simp) cl)]
          exact app _ (by unfold mkT; rw [if_neg c1, if_neg c2, if_pos (eq_of_beq c3)]) fun S1 h1 h2 => ⟨_, _, _, _, _, _, _, _, rfl, h1, h2, B2⟩
        · rename_i c3
          have c3 : ¬ r.w = "do" := fun e => c3 (by rw [e]; rfl)
          refine if_some (cmpEq (eq_str wo (by decide +kernel))) ?_
          split
          · rename_i c4
            refine ⟨rc, by decide, by decide, ?_⟩
            rw [ok_addT (ad _ _ (by simp) cl)]
            exact app _ (by unfold mkT; rw [if_neg c1, if_neg c2, if_neg c3, if_pos (eq_of_beq c4)]) fun S1 h1 h2 => ⟨_, _, _, _, _, _, _, _, rfl, h1, h2, B2⟩
          · rename_i c4
            have c4 : ¬ r.w = "test" := fun e => c4 (by rw [e]; rfl)
            refine if_some (cmpEq (eq_str wo (by decide +kernel))) ?_
            split
            · rename_i c5
              refine ⟨rc, by decide, ?_⟩
              rw [ok_addT (ad _ _ (by simp) cl)]
              exact app _ (by unfold mkT; rw [if_neg c1, if_neg c2, if_neg c3, if_neg c4, if_pos (eq_of_beq c5)]) fun S1 h1 h2 => ⟨_, _, _, _, _, _, _, _, rfl, h1, h2, B2⟩
            · rename_i c5
              have c5 : ¬ r.w = "pick" := fun e => c5 (by rw [e]; rfl)
              exact ⟨rc, by decide, app _ (by unfold mkT; rw [if_neg c1, if_neg c2, if_neg c3, if_neg c4, if_neg c5]) fun S1 h1 h2 => ⟨_, _, _, _, _, _, _, _, rfl, h1, h2, B2⟩⟩
  · rintro η S' ⟨T, e2, e3, e4, e5, e6, e7, e8, rfl, inc, hT, B⟩
    refine ⟨gOk_one (inc _ _ hP.pl), ?_⟩
    simp only [el_nil, el_cons, es_pass, es_brk, es_cnt, es_retN, es_ret, es_exp, es_asg, es_par, es_par3, es_aug, es_ite, es_for, es_step, es_whl, ev_var, ev_glb, ev_non, ev_bl, ev_int, ev_str, ev_bin, ev_neg, ev_cmp, ev_not, ev_ife, ev_tup, ev_lst, ev_dct, ev_idx, ev_slc, ev_rev, ev_call, ev_callk, ev_bi, ev_mth, ev_lcp, ev_ssc, ev_and1, ev_and2, ev_or1, ev_or2, ev_nil, ev_cons, ev_pnil, ev_pcons, ev_onone, ev_osome, et_cmp, et_chn, et_not, et_bl, et_var, et_call, et_bi, et_idx, et_and1, et_and2, et_or1, et_or2, ec_none, ec_some, eg_name, eg_sub, eg_tup, eg_nil, eg_cons, ei_val, ei_rng1, ei_rng2, List.map_cons, List.map_nil, List.replicate, List.cons_append, List.nil_append, List.getElem?_cons_zero, List.getElem?_cons_succ, List.set_cons_zero, List.set_cons_succ, Nat.reduceSub, Nat.reduceAdd, List.length_cons, List.length_nil]
    rw [hP.len] at B
    exact hQ _ T S' inc hT (B.lay ok) hLL
end
end Law
namespace Law
open PySem PySem.Spec PyProof.Rows L2 Fw
def fx (p : Nat × Nat) : D := .tup [.int (p.1 : Nat), .int (p.2 : Nat)]
def pk (ps : List (Nat × Nat)) (k : Nat) : Nat × Nat := ps.getD k (0, 0)
def row2 (ps : List (Nat × Nat)) (r : Row) : Nat × Nat := (1 + ((kids r).map fun k => (pk ps k).1).foldl max 0, 1 + ((kids r).map fun k => (pk ps k).2).sum)
structure Dq (rows : List Row) (i : Nat) (ps : List (Nat × Nat)) : Prop where
  len : ps.length = i
  row : ∀ (k : Nat) (r : Row), k < i → rows[k]? = some r → ps[k]? = some (row2 ps r)
theorem pk_app {ps qs : List (Nat × Nat)} {k : Nat} (h : k < ps.length) : pk (ps ++ qs) k = pk ps k := by
  unfold pk
  rw [List.getD_eq_getElem?_getD, List.getD_eq_getElem?_getD, List.getElem?_append_left h]
theorem row2_ext {ps qs : List (Nat × Nat)} {r : Row} (h : ∀ k ∈ kids r, pk ps k = pk qs k) : row2 ps r = row2 qs r := by
  unfold row2
  rw [List.map_congr_left (fun k hk => by rw [h k hk] : ∀ k ∈ kids r, (pk ps k).1 = (pk qs k).1), List.map_congr_left (fun k hk => by rw [h k hk] : ∀ k ∈ kids r, (pk ps k).2 = (pk qs k).2)]
theorem Dq.step {rows : List Row} {i : Nat} {ps : List (Nat × Nat)} {r : Row} (ok : RowsOk rows) (h : Dq rows i ps) (hr : rows[i]? = some r) : Dq rows (i + 1) (ps ++ [row2 ps r]) := by
  have ext : ∀ (k : Nat) (q : Row), k ≤ i → rows[k]? = some q → row2 (ps ++ [row2 ps r]) q = row2 ps q := fun k q hk hq => row2_ext fun j hj => pk_app (by
    have := (ok k q hq).lt j hj
    rw [h.len]; omega)
  refine ⟨by simp [h.len], fun k q hk hq => ?_⟩
  rw [ext k q (by omega) hq]
  rcases Nat.lt_or_ge k i with h1 | h1
  · rw [List.getElem?_append_left (by rw [h.len]; exact h1)]
    exact h.row k q h1 hq
  · have : k = i := by omega
    subst this
    rw [hr] at hq
    cases hq
    rw [← h.len]
    simp
theorem maxI_nat : ∀ (l : List Nat) (m : Nat), maxI (m : Int) (l.map fun (k : Nat) => (k : Int)) = ((l.foldl max m : Nat) : Int)
  | [], m => rfl
  | x :: l, m => by
    rw [List.map_cons, List.foldl_cons, ← maxI_nat l (max m x)]
    show maxI (if (x : Int) > m then (x : Int) else m) _ = _
    by_cases h : (x : Int) > (m : Int)
    · rw [if_pos h, show max m x = x by omega]
    · rw [if_neg h, show max m x = m by omega]
theorem allInts_map : ∀ is : List Int, allInts (is.map D.int) = some is
  | [] => rfl
  | i :: is => by simp [allInts, allInts_map is]
theorem ok_max {S : Store} {Q : D → Store → Prop} {l : Nat} {xs : List D} {i : Int} {is : List Int} (h : S[l]? = some (.lst xs)) (hs : allInts xs = some (i :: is)) : Ok (bicall .max [.loc l] S) Q = Q (.int (maxI i is)) S := by
  unfold bicall
  dsimp only
  unfold maxC
  dsimp only
  rw [h]
  dsimp only
  rw [hs]
  rfl
theorem ok_sum {S : Store} {Q : D → Store → Prop} {l : Nat} {xs : List D} {is : List Int} (h : S[l]? = some (.lst xs)) (hs : allInts xs = some is) : Ok (bicall .sum [.loc l] S) Q = Q (.int is.sum) S := by
  unfold bicall
  dsimp only
  unfold sumC
  dsimp only
  rw [h]
  dsimp only
  rw [hs]
  rfl
theorem sum_nat : ∀ l : List Nat, (l.map fun (k : Nat) => (k : Int)).sum = ((l.sum : Nat) : Int)
  | [] => rfl
  | x :: l => by rw [List.map_cons, List.sum_cons, List.sum_cons, sum_nat l]; omega
section
variable {n : Nat} {S : Store} {Q : D → Store → Prop} {rows : List Row}
theorem first_ok {F : Fn} {QL : List D → Store → Prop} {η : Fw.Env} {l : Nat} {qs : List (Nat × Nat)} (hj : ∀ v w, ((η.set 8 (some v)).set 9 (some w))[8]? = some (some v)) (hl : S[l]? = some (.lst (qs.map fx)))
    (hQ : QL ((qs.map fun q => (q.1 : Int)).map D.int) S) : Ok (comp [(l, qs.map fx)] (asG F (.tup (.cons (.name 8) (.cons (.name 9) .nil)))) (evC F .none) (evE F (.var 8)) η (qs.map fx) S) QL := by
  refine comp_ok (fun j acc S' => S' = S ∧ acc = ((qs.take j).map fun q => (q.1 : Int)).map D.int) ⟨rfl, rfl⟩ ?_ ?_
  · rintro j x acc S' hx ⟨rfl, rfl⟩
    refine ⟨gOk_one hl, ?_⟩
    rw [List.getElem?_map] at hx
    obtain ⟨q, hq, rfl⟩ := Option.map_eq_some_iff.mp hx
    simp only [fx, eg_tup, eg_cons, eg_nil, eg_name, ec_none, ev_var, hj, if_true]
    refine ⟨by simp [GL.len], trivial, ?_⟩
    rw [List.take_add_one, hq]
    simp
  · rintro acc S' ⟨rfl, rfl⟩
    refine ⟨gOk_one hl, ?_⟩
    rw [List.length_map, List.take_length]
    exact hQ
theorem second_ok {F : Fn} {QL : List D → Store → Prop} {η : Fw.Env} {l : Nat} {qs : List (Nat × Nat)} (hj : ∀ v w, ((η.set 8 (some v)).set 9 (some w))[9]? = some (some w)) (hl : S[l]? = some (.lst (qs.map fx)))
    (hQ : QL ((qs.map fun q => (q.2 : Int)).map D.int) S) : Ok (comp [(l, qs.map fx)] (asG F (.tup (.cons (.name 8) (.cons (.name 9) .nil)))) (evC F .none) (evE F (.var 9)) η (qs.map fx) S) QL := by
  refine comp_ok (fun j acc S' => S' = S ∧ acc = ((qs.take j).map fun q => (q.2 : Int)).map D.int) ⟨rfl, rfl⟩ ?_ ?_
  · rintro j x acc S' hx ⟨rfl, rfl⟩
    refine ⟨gOk_one hl, ?_⟩
    rw [List.getElem?_map] at hx
    obtain ⟨q, hq, rfl⟩ := Option.map_eq_some_iff.mp hx
    simp only [fx, eg_tup, eg_cons, eg_nil, eg_name, ec_none, ev_var, hj, if_true]
    refine ⟨by simp [GL.len], trivial, ?_⟩
    rw [List.take_add_one, hq]
    simp
  · rintro acc S' ⟨rfl, rfl⟩
    refine ⟨gOk_one hl, ?_⟩
    rw [List.length_map, List.take_length]
    exact hQ
theorem chs_fx {ps : List (Nat × Nat)} {l : List Nat} (h : ∀ k ∈ l, k < ps.length) : chs (ps.map fx) l = (l.map (pk ps)).map fx := by
  unfold chs
  rw [List.map_map]
  refine List.map_congr_left fun k hk => ?_
  unfold at_ pk
  have := h k hk
  rw [List.getD_eq_getElem?_getD, List.getElem?_map]
  show _ = fx (ps.getD k (0, 0))
  rw [List.getD_eq_getElem?_getD, List.getElem?_eq_getElem this]
  rfl
theorem mk_deep {P : Nat} {ds : List D} (ok : RowsOk rows) (hP : PlanAt S P rows ds) (hn : rows.length ≤ 12)
    (hQ : ∀ l ps S', Inc S S' → S'[l]? = some (.lst (ps.map fx)) → Dq rows rows.length ps → S.length ≤ l → Q (.loc l) S') : Ok (callN tab (n + 1) 13 [.loc P] S) Q := by
  refine ok_call t13 rfl ?_
  simp only [df, b13, List.map_cons, List.map_nil, List.replicate, List.cons_append, List.nil_append, List.getElem?_cons_zero, List.getElem?_cons_succ, List.set_cons_zero, List.set_cons_succ, Nat.reduceSub, Nat.reduceAdd, List.length_cons, List.length_nil]
  simp only [el_nil, el_cons, es_pass, es_brk, es_cnt, es_retN, es_ret, es_exp, es_asg, es_par, es_par3, es_aug, es_ite, es_for, es_step, es_whl, ev_var, ev_glb, ev_non, ev_bl, ev_int, ev_str, ev_bin, ev_neg, ev_cmp, ev_not, ev_ife, ev_tup, ev_lst, ev_dct, ev_idx, ev_slc, ev_rev, ev_call, ev_callk, ev_bi, ev_mth, ev_lcp, ev_ssc, ev_and1, ev_and2, ev_or1, ev_or2, ev_nil, ev_cons, ev_pnil, ev_pcons, ev_onone, ev_osome, et_cmp, et_chn, et_not, et_bl, et_var, et_call, et_bi, et_idx, et_and1, et_and2, et_or1, et_or2, ec_none, ec_some, eg_name, eg_sub, eg_tup, eg_nil, eg_cons, ei_val, ei_rng1, ei_rng2, List.map_cons, List.map_nil, List.replicate, List.cons_append, List.nil_append, List.getElem?_cons_zero, List.getElem?_cons_succ, List.set_cons_zero, List.set_cons_succ, Nat.reduceSub, Nat.reduceAdd, List.length_cons, List.length_nil]
  refine ⟨by decide, ?_⟩
  rw [ok_walk (get_app hP.pl)]
  have low : ∀ (l : Nat) (c : Cell), S[l]? = some c → l ≠ S.length := fun l c h => Nat.ne_of_lt (get_lt h)
  have hi0 : Inc S (S ++ [Cell.lst []]) := Inc.app _
  have hl0 : (S ++ [Cell.lst []])[S.length]? = some (.lst []) := get_new
  have hLL : S.length ≤ S.length := Nat.le_refl _
  generalize S ++ [Cell.lst []] = S0 at hi0 hl0 ⊢
  refine for_ok (fun j η S' => ∃ ps e2 e3 e4 e5 e6 e7 e8 e9, η = [some (.loc P), some (.loc S.length), e2, e3, e4, e5, e6, e7, e8, e9] ∧ Inc S S' ∧ S'[S.length]? = some (.lst (ps.map fx)) ∧ Dq rows j ps) ⟨[], _, _, _, _, _, _, _, _, rfl, hi0, hl0, rfl, fun k r hk _ => absurd hk (Nat.not_lt_zero _)⟩ ?_ ?_
  · rintro j x η S' hx ⟨ps, e2, e3, e4, e5, e6, e7, e8, e9, rfl, inc, hT, B⟩
    have hP' := hP.keep inc
    refine ⟨gOk_one hP'.pl, ?_⟩
    have hj : j < rows.length := by rw [← hP.len]; exact (List.getElem?_eq_some_iff.mp hx).1
    obtain ⟨r, hr⟩ := lt_row hj
    obtain ⟨x', hx', lf, lt, rfl, hlf, hlt⟩ := hP'.row j r hr
    rw [hx'] at hx
    cases hx
    have rok := ok j r hr
    have few := rok.few
    rw [es_step]
    simp only [el_nil, el_cons, es_pass, es_brk, es_cnt, es_retN, es_ret, es_exp, es_asg, es_par, es_par3, es_aug, es_ite, es_for, es_step, es_whl, ev_var, ev_glb, ev_non, ev_bl, ev_int, ev_str, ev_bin, ev_neg, ev_cmp, ev_not, ev_ife, ev_tup, ev_lst, ev_dct, ev_idx, ev_slc, ev_rev, ev_call, ev_callk, ev_bi, ev_mth, ev_lcp, ev_ssc, ev_and1, ev_and2, ev_or1, ev_or2, ev_nil, ev_cons, ev_pnil, ev_pcons, ev_onone, ev_osome, et_cmp, et_chn, et_not, et_bl, et_var, et_call, et_bi, et_idx, et_and1, et_and2, et_or1, et_or2, ec_none, ec_some, eg_name, eg_sub, eg_tup, eg_nil, eg_cons, ei_val, ei_rng1, ei_rng2, List.map_cons, List.map_nil, List.replicate, List.cons_append, List.nil_append, List.getElem?_cons_zero, List.getElem?_cons_succ, List.set_cons_zero, List.set_cons_succ, Nat.reduceSub, Nat.reduceAdd, List.length_cons, List.length_nil]
    refine ⟨by simp [GL.len], ?_⟩
    rw [ok_addL hlf hlt (by rw [ints_len, ints_len, sizeLine_eq]; omega), ok_walk get_new]
    refine ⟨by rw [List.length_append, ints_len, ints_len, sizeLine_eq]; omega, ?_⟩
    simp only [wipeE, List.map_cons, List.map_nil, List.replicate, List.cons_append, List.nil_append, List.getElem?_cons_zero, List.getElem?_cons_succ, List.set_cons_zero, List.set_cons_succ, Nat.reduceSub, Nat.reduceAdd, List.length_cons, List.length_nil]
    rw [← ints_append]
    have hkl : ∀ k ∈ r.fs ++ r.ts, k < ps.length := fun k hk => by rw [B.len]; exact rok.lt k hk
    refine found_ok (fun v => rfl) (fun v => rfl) (by rw [get_new]) (get_app hT) (fun k hk => by rw [List.length_map]; exact hkl k hk) ?_
    rw [chs_fx hkl]
    have i1 : Inc S' (S' ++ [Cell.lst (ints_ (r.fs ++ r.ts))] ++ [Cell.lst (((r.fs ++ r.ts).map (pk ps)).map fx)]) := (Inc.app _).trans (Inc.app _)
    have hin : (S' ++ [Cell.lst (ints_ (r.fs ++ r.ts))] ++ [Cell.lst (((r.fs ++ r.ts).map (pk ps)).map fx)])[(S' ++ [Cell.lst (ints_ (r.fs ++ r.ts))]).length]? = some (.lst (((r.fs ++ r.ts).map (pk ps)).map fx)) := get_new
    generalize S' ++ [Cell.lst (ints_ (r.fs ++ r.ts))] ++ [Cell.lst (((r.fs ++ r.ts).map (pk ps)).map fx)] = S1 at i1 hin ⊢
    generalize (S' ++ [Cell.lst (ints_ (r.fs ++ r.ts))]).length = li at hin ⊢
    have hk20 : ((r.fs ++ r.ts).map (pk ps)).length ≤ 20 := by simp; omega
    generalize hqs : (r.fs ++ r.ts).map (pk ps) = qs at hin hk20 ⊢
    refine ⟨(recv_lst (i1 _ _ hT)).1, by decide, ?_⟩
    rw [ok_walk (get_app hin)]
    refine ⟨by rw [List.length_map, sizeLine_eq]; omega, ?_⟩
    simp only [wipeE, List.map_cons, List.map_nil, List.replicate, List.cons_append, List.nil_append, List.getElem?_cons_zero, List.getElem?_cons_succ, List.set_cons_zero, List.set_cons_succ, Nat.reduceSub, Nat.reduceAdd, List.length_cons, List.length_nil]
    refine first_ok (fun v w => rfl) (get_app hin) ?_
    rw [ok_addL (get_app get_new) get_new (by rw [List.length_map, List.length_map, sizeLine_eq]; simp; omega), ok_max get_new (i := 0) (is := qs.map fun q => (q.1 : Int)) (by
      have := allInts_map (0 :: qs.map fun q => (q.1 : Int))
      exact this), ok_addI]
    have e1 : maxI 0 (qs.map fun q => (q.1 : Int)) = (((qs.map (·.1)).foldl max 0 : Nat) : Int) := by
      rw [← maxI_nat, List.map_map]; rfl
    have i2 := i1.trans ((Inc.app [Cell.lst [D.int 0]]).trans ((Inc.app [Cell.lst ((qs.map fun q => (q.1 : Int)).map D.int)]).trans (Inc.app [Cell.lst ([D.int 0] ++ (qs.map fun q => (q.1 : Int)).map D.int)])))
    have hin2 := (((Inc.app [Cell.lst [D.int 0]]).trans ((Inc.app [Cell.lst ((qs.map fun q => (q.1 : Int)).map D.int)]).trans (Inc.app [Cell.lst ([D.int 0] ++ (qs.map fun q => (q.1 : Int)).map D.int)]))) li _ hin)
    generalize S1 ++ [Cell.lst [D.int 0]] ++ [Cell.lst ((qs.map fun q => (q.1 : Int)).map D.int)] ++ [Cell.lst ([D.int 0] ++ (qs.map fun q => (q.1 : Int)).map D.int)] = S2 at i2 hin2 ⊢
    rw [ok_walk hin2]
    refine ⟨by rw [List.length_map, sizeLine_eq]; omega, ?_⟩
    refine second_ok (fun v w => rfl) hin2 ?_
    rw [ok_sum get_new (allInts_map _), ok_addI]
    have e2' : (qs.map fun q => (q.2 : Int)).sum = (((qs.map (·.2)).sum : Nat) : Int) := by
      rw [← sum_nat, List.map_map]; rfl
    have i3 := i2.trans (Inc.app [Cell.lst ((qs.map fun q => (q.2 : Int)).map D.int)])
    generalize S2 ++ [Cell.lst ((qs.map fun q => (q.2 : Int)).map D.int)] = S3 at i3 ⊢
    refine ⟨by decide, ?_⟩
    have hT3 := i3 _ _ hT
    rw [ok_append hT3 (by rw [List.length_map, B.len, sizeLine_eq]; omega), e1, e2']
    refine ⟨ps ++ [row2 ps r], _, _, _, _, _, _, _, _, rfl, fun l c h => by rw [get_set_ne (low l c h)]; exact i3 _ _ (inc l c h), ?_, B.step ok hr⟩
    rw [get_set hT3, List.map_append]
    subst hqs
    congr 4
    simp only [List.map_cons, List.map_nil, fx, row2, kids, List.map_map]
    congr 4 <;> (congr 1 <;> omega)
  · rintro η S' ⟨ps, e2, e3, e4, e5, e6, e7, e8, e9, rfl, inc, hT, B⟩
    refine ⟨gOk_one (inc _ _ hP.pl), ?_⟩
    simp only [el_nil, el_cons, es_pass, es_brk, es_cnt, es_retN, es_ret, es_exp, es_asg, es_par, es_par3, es_aug, es_ite, es_for, es_step, es_whl, ev_var, ev_glb, ev_non, ev_bl, ev_int, ev_str, ev_bin, ev_neg, ev_cmp, ev_not, ev_ife, ev_tup, ev_lst, ev_dct, ev_idx, ev_slc, ev_rev, ev_call, ev_callk, ev_bi, ev_mth, ev_lcp, ev_ssc, ev_and1, ev_and2, ev_or1, ev_or2, ev_nil, ev_cons, ev_pnil, ev_pcons, ev_onone, ev_osome, et_cmp, et_chn, et_not, et_bl, et_var, et_call, et_bi, et_idx, et_and1, et_and2, et_or1, et_or2, ec_none, ec_some, eg_name, eg_sub, eg_tup, eg_nil, eg_cons, ei_val, ei_rng1, ei_rng2, List.map_cons, List.map_nil, List.replicate, List.cons_append, List.nil_append, List.getElem?_cons_zero, List.getElem?_cons_succ, List.set_cons_zero, List.set_cons_succ, Nat.reduceSub, Nat.reduceAdd, List.length_cons, List.length_nil]
    rw [hP.len] at B
    exact hQ _ ps S' inc hT B hLL
end
end Law
namespace Law
open PySem PySem.Spec PyProof.Rows L2 Fw
/-- the plan, away from the deck -/
structure PlanF (d t : Nat) (S : Store) (P : Nat) (rows : List Row) (ds : List D) : Prop where
  pl : S[P]? = some (.lst ds)
  pd : P ≠ d ∧ P ≠ t
  len : ds.length = rows.length
  row : ∀ (i : Nat) (r : Row), rows[i]? = some r → ∃ lf lt, ds[i]? = some (.tup [.str r.w, .str r.nm, .loc lf, .loc lt]) ∧ S[lf]? = some (.lst (ints_ r.fs)) ∧ S[lt]? = some (.lst (ints_ r.ts)) ∧ lf ≠ d ∧ lf ≠ t ∧ lt ≠ d ∧ lt ≠ t
theorem PlanF.step {d t P : Nat} {S S' : Store} {rows : List Row} {ds : List D} (h : PlanF d t S P rows ds) (f : Frm d t S S') : PlanF d t S' P rows ds :=
  ⟨f _ _ h.pl h.pd.1 h.pd.2, h.pd, h.len, fun i r hr => let ⟨lf, lt, h1, h2, h3, h4, h5, h6, h7⟩ := h.row i r hr; ⟨lf, lt, h1, f _ _ h2 h4 h5, f _ _ h3 h6 h7, h4, h5, h6, h7⟩⟩
theorem PlanF.at {d t P : Nat} {S : Store} {rows : List Row} {ds : List D} (h : PlanF d t S P rows ds) : PlanAt S P rows ds :=
  ⟨h.pl, h.len, fun i r hr => let ⟨lf, lt, h1, h2, h3, _⟩ := h.row i r hr; ⟨_, h1, lf, lt, rfl, h2, h3⟩⟩
theorem PSt.planF {d t P Fl Tl N : Nat} {S : Store} {rows : List Row} {ds : List D} {fl tl : List Nat} (h : PSt d t P Fl Tl N S rows ds fl tl) : PlanF d t S P rows ds := by
  have nd := h.nd
  simp only [List.nodup_cons, List.mem_cons, List.not_mem_nil, or_false, not_or, List.nodup_nil, not_false_eq_true, and_true] at nd
  refine ⟨h.pl, by omega, h.len, fun i r hr => ?_⟩
  obtain ⟨_, lf, lt, h1, h2, h3, h4, h5⟩ := h.row i r hr
  simp only [List.mem_cons, List.not_mem_nil, or_false, not_or] at h4 h5
  exact ⟨lf, lt, h1, h2, h3, h4.1, h4.2.1, h5.1, h5.2.1⟩
theorem PSt.rowsOk {d t P Fl Tl N : Nat} {S : Store} {rows : List Row} {ds : List D} {fl tl : List Nat} (h : PSt d t P Fl Tl N S rows ds fl tl) : RowsOk rows := fun i r hr => (h.row i r hr).1
theorem t17 : tab.defs[17]? = some (df 17) := rfl
section
variable {d t N n : Nat} {S : Store} {Q : D → Store → Prop} {rows : List Row}
theorem way_ok {P i : Nat} {ds : List D} (hN : N + 100 < CAP) (D0 : Deck d t N S) (hP : PlanF d t S P rows ds) (ok : RowsOk rows) (hi : i < rows.length) (hn : rows.length ≤ 12)
    (hQ : ∀ (ws : List Int) S', Deck d t (N + 40) S' → Frm d t S S' → Q (.tup (ws.map .int)) S') : Ok (callN tab (n + 3) 17 [.loc d, .loc P, .int (i : Nat)] S) Q := by
  have hN' : N + 100 < 4611686018427387904 := hN
  have cap : ∀ k, k ≤ N + 100 → k < CAP := fun k hk => by show k < 4611686018427387904; omega
  refine ok_call t17 rfl ?_
  simp only [df, b17, List.map_cons, List.map_nil, List.replicate, List.cons_append, List.nil_append, List.getElem?_cons_zero, List.getElem?_cons_succ, List.set_cons_zero, List.set_cons_succ, Nat.reduceSub, Nat.reduceAdd, List.length_cons, List.length_nil]
  have hl0 : (S ++ [Cell.lst []])[S.length]? = some (.lst (([] : List Int).map D.int)) := get_new
  have hlt := D0.lt
  have D1 := D0.keep (Inc.app [Cell.lst []])
  have f1 : Frm d t S (S ++ [Cell.lst []]) := Frm.app _
  refine seq_nx (P := fun η' S' => η' = [some (.loc d), some (.loc P), some (.int (i : Nat)), some (.loc S.length), none, none] ∧ S' = S ++ [Cell.lst []]) ?_ ?_
  · simp only [el_nil, el_cons, es_pass, es_brk, es_cnt, es_retN, es_ret, es_exp, es_asg, es_par, es_par3, es_aug, es_ite, es_for, es_step, es_whl, ev_var, ev_glb, ev_non, ev_bl, ev_int, ev_str, ev_bin, ev_neg, ev_cmp, ev_not, ev_ife, ev_tup, ev_lst, ev_dct, ev_idx, ev_slc, ev_rev, ev_call, ev_callk, ev_bi, ev_mth, ev_lcp, ev_ssc, ev_and1, ev_and2, ev_or1, ev_or2, ev_nil, ev_cons, ev_pnil, ev_pcons, ev_onone, ev_osome, et_cmp, et_chn, et_not, et_bl, et_var, et_call, et_bi, et_idx, et_and1, et_and2, et_or1, et_or2, ec_none, ec_some, eg_name, eg_sub, eg_tup, eg_nil, eg_cons, ei_val, ei_rng1, ei_rng2, List.map_cons, List.map_nil, List.replicate, List.cons_append, List.nil_append, List.getElem?_cons_zero, List.getElem?_cons_succ, List.set_cons_zero, List.set_cons_succ, Nat.reduceSub, Nat.reduceAdd, List.length_cons, List.length_nil]
    exact ⟨by decide, trivial, trivial, trivial⟩
  rintro _ _ ⟨rfl, rfl⟩
  have hld : S.length ≠ d := by omega
  have hlt' : S.length ≠ t := by omega
  have low : ∀ (k : Nat) (c : Cell), S[k]? = some c → k ≠ S.length := fun k c h => Nat.ne_of_lt (get_lt h)
  generalize S ++ [Cell.lst []] = S1 at hl0 D1 f1 ⊢
  generalize S.length = l at hl0 hld hlt' low ⊢
  refine seq_nx (P := fun η' S' => ∃ (k : Nat) (ws : List Int) (e4 e5 : Option D), η' = [some (.loc d), some (.loc P), some (.int (k : Nat)), some (.loc l), e4, e5] ∧ S'[l]? = some (.lst (ws.map .int)) ∧ Deck d t (N + 2 * ws.length + 1) S' ∧ k < rows.length ∧ ws.length ≤ 12 ∧ Frm d t S S') ?_ ?_
  · rw [es_whl]
    refine whl_ok (fun m η S' => ∃ (k : Nat) (ws : List Int) (e4 e5 : Option D), η = [some (.loc d), some (.loc P), some (.int (k : Nat)), some (.loc l), e4, e5] ∧ S'[l]? = some (.lst (ws.map .int)) ∧ Deck d t (N + 2 * ws.length) S' ∧ k < rows.length ∧ ws.length + k ≤ 12 ∧ k = m ∧ Frm d t S S') ?_ 1000 i _ _ (by omega) ⟨i, [], _, _, rfl, hl0, D1, hi, by simp; omega, rfl, f1⟩
    rintro m η S' ⟨k, ws, e4, e5, rfl, hl, D2, hk, hwk, rfl, f2⟩
    have hP' := hP.step f2
    obtain ⟨r, hr⟩ := lt_row hk
    have rok := ok k r hr
    have few := rok.few
    obtain ⟨lf, lt, hx1, hlf, hlt2, q1, q2, q3, q4⟩ := hP'.row k r hr
    simp only [el_nil, el_cons, es_pass, es_brk, es_cnt, es_retN, es_ret, es_exp, es_asg, es_par, es_par3, es_aug, es_ite, es_for, es_step, es_whl, ev_var, ev_glb, ev_non, ev_bl, ev_int, ev_str, ev_bin, ev_neg, ev_cmp, ev_not, ev_ife, ev_tup, ev_lst, ev_dct, ev_idx, ev_slc, ev_rev, ev_call, ev_callk, ev_bi, ev_mth, ev_lcp, ev_ssc, ev_and1, ev_and2, ev_or1, ev_or2, ev_nil, ev_cons, ev_pnil, ev_pcons, ev_onone, ev_osome, et_cmp, et_chn, et_not, et_bl, et_var, et_call, et_bi, et_idx, et_and1, et_and2, et_or1, et_or2, ec_none, ec_some, eg_name, eg_sub, eg_tup, eg_nil, eg_cons, ei_val, ei_rng1, ei_rng2, List.map_cons, List.map_nil, List.replicate, List.cons_append, List.nil_append, List.getElem?_cons_zero, List.getElem?_cons_succ, List.set_cons_zero, List.set_cons_succ, Nat.reduceSub, Nat.reduceAdd, List.length_cons, List.length_nil]
    rw [ok_getL hP'.pl (Fw.atI_nat hx1), ok_getT atI2, ok_getL hP'.pl (Fw.atI_nat hx1), ok_getT atI3, ok_addL hlf hlt2 (by rw [ints_len, ints_len, sizeLine_eq]; omega), ← ints_append]
    rw [ok_lenL get_new, ints_len]
    have D3 := D2.keep (Inc.app [Cell.lst (ints_ (r.fs ++ r.ts))])
    have f3 := f2.trans (Frm.app [Cell.lst (ints_ (r.fs ++ r.ts))])
    have hl3 : (S' ++ [Cell.lst (ints_ (r.fs ++ r.ts))])[l]? = some (.lst (ws.map .int)) := get_app hl
    generalize S' ++ [Cell.lst (ints_ (r.fs ++ r.ts))] = S3 at D3 f3 hl3 ⊢
    have out : ∀ S4, Deck d t (N + 2 * ws.length + 1) S4 → S4[l]? = some (.lst (ws.map .int)) → Frm d t S S4 → ∃ (k' : Nat) (ws' : List Int) (e4' e5' : Option D), [some (D.loc d), some (.loc P), some (.int (k : Nat)), some (.loc l), e4, e5] = [some (.loc d), some (.loc P), some (.int (k' : Nat)), some (.loc l), e4', e5'] ∧ S4[l]? = some (.lst (ws'.map .int)) ∧ Deck d t (N + 2 * ws'.length + 1) S4 ∧ k' < rows.length ∧ ws'.length ≤ 12 ∧ Frm d t S S4 := fun S4 h1 h2 h3 => ⟨k, ws, e4, e5, rfl, h2, h1, hk, by omega, h3⟩
    refine if_some cmpGt ?_
    split
    · rename_i hpos
      have hpos := of_decide_eq_true hpos
      refine drawQ (n := n + 1) (by decide) (by decide) (cap _ (by omega)) D3 fun y S4 hy D4 f4 => ?_
      have f4' := f3.trans f4
      have hl4 := f4 _ _ hl3 hld hlt'
      refine if_some cmpGt ?_
      split
      · have hP4 := hP.step f4'
        obtain ⟨lf, lt, hx1, hlf, hlt2, q1, q2, q3, q4⟩ := hP4.row k r hr
        rw [ok_getL hP4.pl (Fw.atI_nat hx1), ok_getT atI2, ok_getL hP4.pl (Fw.atI_nat hx1), ok_getT atI3, ok_addL hlf hlt2 (by rw [ints_len, ints_len, sizeLine_eq]; omega), ← ints_append]
        have D5 := D4.keep (Inc.app [Cell.lst (ints_ (r.fs ++ r.ts))])
        have f5 := f4'.trans (Frm.app [Cell.lst (ints_ (r.fs ++ r.ts))])
        have hl5 : (S4 ++ [Cell.lst (ints_ (r.fs ++ r.ts))])[l]? = some (.lst (ws.map .int)) := get_app hl4
        have hin : (S4 ++ [Cell.lst (ints_ (r.fs ++ r.ts))])[S4.length]? = some (.lst (ints_ (r.fs ++ r.ts))) := get_new
        have hlt4 := D4.lt
        have hne : S4.length ≠ d ∧ S4.length ≠ t ∧ l ≠ S4.length := by
          have := get_lt hl4
          omega
        generalize S4 ++ [Cell.lst (ints_ (r.fs ++ r.ts))] = S5 at D5 f5 hl5 hin ⊢
        generalize S4.length = li at hin hne ⊢
        refine ⟨(recv_lst hl5).1, ?_⟩
        rw [ok_lenL hin, ints_len]
        refine drawQ (n := n + 1) (by omega) (by have := few; simp; omega) (cap _ (by omega)) D5 fun c S6 hc D6 f6 => ?_
        have hl6 := f6 _ _ hl5 hld hlt'
        have hin6 := f6 _ _ hin hne.1 hne.2.1
        rw [ok_append hl6 (by rw [List.length_map, sizeLine_eq]; omega)]
        have hc' : c < (r.fs ++ r.ts).length := by omega
        have hkc : (r.fs ++ r.ts)[c]? = some (r.fs ++ r.ts)[c] := List.getElem?_eq_getElem hc'
        have hkl := rok.lt _ (List.getElem_mem hc')
        rw [ok_getL (get_set hl6) atI_last, ok_getL (by rw [get_set_ne hne.2.2.symm]; exact hin6) (Fw.atI_nat (a := .int (((r.fs ++ r.ts)[c] : Nat) : Int)) (by unfold ints_; rw [List.getElem?_map, hkc]; rfl))]
        obtain ⟨b, cc, k1, k2⟩ := D6.dk
        obtain ⟨xs, k3, k4⟩ := D6.tl
        refine ⟨_, hkl, (r.fs ++ r.ts)[c], ws ++ [(c : Int)], _, _, rfl, ?_, ?_, by omega, by simp; omega, rfl, fun q cq hq qd qt => ?_⟩
        · rw [get_set hl6, List.map_append]; rfl
        · exact ⟨⟨b, cc, by rw [get_set_ne hld.symm]; exact k1, k2.1, by simp; omega⟩, ⟨xs, by rw [get_set_ne hlt'.symm]; exact k3, k4⟩, D6.ne⟩
        · rw [get_set_ne (low q cq hq)]
          exact f6 _ _ (f5 _ _ hq qd qt) qd qt
      · exact ⟨trivial, out S4 D4 hl4 f4'⟩
    · simp only [Bool.false_eq_true, if_false]
      exact ⟨trivial, out S3 (D3.more (by omega)) hl3 f3⟩
  rintro _ S4 ⟨k, ws, e4, e5, rfl, hl4, D4, hk, hwk, f4⟩
  have hP4 := hP.step f4
  obtain ⟨r, hr⟩ := lt_row hk
  have few := (ok k r hr).few
  obtain ⟨lf, lt, hx1, hlf, hlt2, q1, q2, q3, q4⟩ := hP4.row k r hr
  simp only [el_nil, el_cons, es_pass, es_brk, es_cnt, es_retN, es_ret, es_exp, es_asg, es_par, es_par3, es_aug, es_ite, es_for, es_step, es_whl, ev_var, ev_glb, ev_non, ev_bl, ev_int, ev_str, ev_bin, ev_neg, ev_cmp, ev_not, ev_ife, ev_tup, ev_lst, ev_dct, ev_idx, ev_slc, ev_rev, ev_call, ev_callk, ev_bi, ev_mth, ev_lcp, ev_ssc, ev_and1, ev_and2, ev_or1, ev_or2, ev_nil, ev_cons, ev_pnil, ev_pcons, ev_onone, ev_osome, et_cmp, et_chn, et_not, et_bl, et_var, et_call, et_bi, et_idx, et_and1, et_and2, et_or1, et_or2, ec_none, ec_some, eg_name, eg_sub, eg_tup, eg_nil, eg_cons, ei_val, ei_rng1, ei_rng2, List.map_cons, List.map_nil, List.replicate, List.cons_append, List.nil_append, List.getElem?_cons_zero, List.getElem?_cons_succ, List.set_cons_zero, List.set_cons_succ, Nat.reduceSub, Nat.reduceAdd, List.length_cons, List.length_nil]
  rw [ok_getL hP4.pl (Fw.atI_nat hx1), ok_getT atI2, ok_getL hP4.pl (Fw.atI_nat hx1), ok_getT atI3, ok_addL hlf hlt2 (by rw [ints_len, ints_len, sizeLine_eq]; omega), ← ints_append]
  rw [ok_lenL get_new, ints_len]
  have D5 := D4.keep (Inc.app [Cell.lst (ints_ (r.fs ++ r.ts))])
  have f5 := f4.trans (Frm.app [Cell.lst (ints_ (r.fs ++ r.ts))])
  have hl5 : (S4 ++ [Cell.lst (ints_ (r.fs ++ r.ts))])[l]? = some (.lst (ws.map .int)) := get_app hl4
  generalize S4 ++ [Cell.lst (ints_ (r.fs ++ r.ts))] = S5 at D5 f5 hl5 ⊢
  generalize hmi : (((r.fs ++ r.ts).length : Nat) : Int) = mi
  refine ⟨by decide, by decide, by decide, by decide, by decide, ?_⟩
  rw [ok_powI (by decide)]
  refine ⟨by decide, by decide, ?_⟩
  generalize hs1 : S5 ++ [Cell.lst []] = A1
  generalize hs2 : A1 ++ [Cell.lst []] = A2
  generalize hs3 : A2 ++ [Cell.lst [D.int mi]] = A3
  generalize hs4 : A3 ++ [Cell.lst [D.int (-1)]] = A4
  generalize hs5 : A4 ++ [Cell.lst [D.int mi, D.int 0]] = A5
  generalize hs6 : A5 ++ [Cell.lst [D.int ((10 : Int) ^ (39 : Int).toNat)]] = A6
  have g5 : Inc A5 A6 := hs6 ▸ Inc.app _
  have g4 : Inc A4 A6 := (hs5 ▸ Inc.app _ : Inc A4 A5).trans g5
  have g3 : Inc A3 A6 := (hs4 ▸ Inc.app _ : Inc A3 A4).trans g4
  have g2 : Inc A2 A6 := (hs3 ▸ Inc.app _ : Inc A2 A3).trans g3
  have g1 : Inc A1 A6 := (hs2 ▸ Inc.app _ : Inc A1 A2).trans g2
  have g0 : Inc S5 A6 := (hs1 ▸ Inc.app _ : Inc S5 A1).trans g1
  have c1 : ∃ ys : List Int, A6[S5.length]? = some (.lst (ys.map .int)) ∧ ys.length ≤ 2 := ⟨[], g1 _ _ (by rw [← hs1]; exact get_new), by simp⟩
  have c2 : ∃ ys : List Int, A6[A1.length]? = some (.lst (ys.map .int)) ∧ ys.length ≤ 2 := ⟨[], g2 _ _ (by rw [← hs2]; exact get_new), by simp⟩
  have c3 : ∃ ys : List Int, A6[A2.length]? = some (.lst (ys.map .int)) ∧ ys.length ≤ 2 := ⟨[mi], g3 _ _ (by rw [← hs3]; exact get_new), by simp⟩
  have c4 : ∃ ys : List Int, A6[A3.length]? = some (.lst (ys.map .int)) ∧ ys.length ≤ 2 := ⟨[-1], g4 _ _ (by rw [← hs4]; exact get_new), by simp⟩
  have c5 : ∃ ys : List Int, A6[A4.length]? = some (.lst (ys.map .int)) ∧ ys.length ≤ 2 := ⟨[mi, 0], g5 _ _ (by rw [← hs5]; exact get_new), by simp⟩
  have c6 : ∃ ys : List Int, A6[A5.length]? = some (.lst (ys.map .int)) ∧ ys.length ≤ 2 := ⟨[_], by rw [← hs6]; exact get_new, by simp⟩
  have hlen : S5.length ≤ A1.length ∧ A1.length ≤ A2.length ∧ A2.length ≤ A3.length ∧ A3.length ≤ A4.length ∧ A4.length ≤ A5.length := by
    subst hs1 hs2 hs3 hs4 hs5
    simp only [List.length_append, List.length_cons, List.length_nil]
    omega
  have hdt := D5.lt
  have D6 := D5.keep g0
  have f6 := f5.trans g0.frm
  have hl6 := g0 _ _ hl5
  clear hs1 hs2 hs3 hs4 hs5 hs6 g5 g4 g3 g2 g1
  refine one_lit (n := n) (cap _ (by omega)) D6 (by simp) (by simp) fun v S7 hv D7 f7 => ?_
  have : ∃ (lv : Nat) (ys : List Int), v = .loc lv ∧ A6[lv]? = some (.lst (ys.map .int)) ∧ ys.length ≤ 2 ∧ lv ≠ d ∧ lv ≠ t := by
    simp only [List.mem_cons, List.not_mem_nil, or_false] at hv
    obtain ⟨y1, h1, h1'⟩ := c1
    obtain ⟨y2, h2, h2'⟩ := c2
    obtain ⟨y3, h3, h3'⟩ := c3
    obtain ⟨y4, h4, h4'⟩ := c4
    obtain ⟨y5, h5, h5'⟩ := c5
    obtain ⟨y6, h6, h6'⟩ := c6
    rcases hv with rfl | rfl | rfl | rfl | rfl | rfl
    · exact ⟨_, y1, rfl, h1, h1', by omega, by omega⟩
    · exact ⟨_, y2, rfl, h2, h2', by omega, by omega⟩
    · exact ⟨_, y3, rfl, h3, h3', by omega, by omega⟩
    · exact ⟨_, y4, rfl, h4, h4', by omega, by omega⟩
    · exact ⟨_, y5, rfl, h5, h5', by omega, by omega⟩
    · exact ⟨_, y6, rfl, h6, h6', by omega, by omega⟩
  obtain ⟨lv, ys, rfl, hv1, hv2, hv3, hv4⟩ := this
  rw [ok_addL (f7 _ _ hl6 hld hlt') (f7 _ _ hv1 hv3 hv4) (by rw [List.length_map, List.length_map, sizeLine_eq]; omega), ok_tupleL get_new, ← List.map_append]
  exact hQ _ _ ((D7.more (by omega)).keep (Inc.app _)) ((f6.trans f7).trans (Frm.app _))
end
end Law
namespace Law
open PySem PySem.Spec PyProof.Rows L2 Fw
/-- a term's data -/
structure TP (T : List D) (ps : List (Nat × Nat)) (k : Nat) (p : PyData) : Prop where
  pd : PD (at_ T k) p
  nice : nice p = true
  depth : p.depth ≤ 2 * (pk ps k).1
  weight : p.weight + 1 ≤ 18 * (pk ps k).2
theorem list_p {T : List D} {ps : List (Nat × Nat)} {m : Nat} : ∀ l : List Nat, (∀ k ∈ l, ∃ p, TP T ps k p) → (∀ k ∈ l, (pk ps k).1 ≤ m) →
    ∃ qs, PDs (chs T l) qs ∧ niceAll qs = true ∧ PyData.depthAll qs ≤ 2 * m ∧ PyData.weightAll qs ≤ 18 * (l.map fun k => (pk ps k).2).sum
  | [], _, _ => ⟨[], .nil, rfl, Nat.zero_le _, Nat.zero_le _⟩
  | k :: l, h, hm => by
    obtain ⟨p, h1, h2, h3, h4⟩ := h k (List.mem_cons_self ..)
    obtain ⟨qs, g1, g2, g3, g4⟩ := list_p l (fun j hj => h j (List.mem_cons_of_mem _ hj)) fun j hj => hm j (List.mem_cons_of_mem _ hj)
    have := hm k (List.mem_cons_self ..)
    refine ⟨p :: qs, .cons h1 g1, ?_, ?_, ?_⟩
    · simp only [niceAll, h2, g2, Bool.and_self]
    · simp only [PyData.depthAll]; omega
    · simp only [PyData.weightAll, List.map_cons, List.sum_cons]; omega
theorem le_max : ∀ (l : List Nat) (m : Nat), m ≤ l.foldl max m ∧ ∀ x ∈ l, x ≤ l.foldl max m
  | [], m => ⟨Nat.le_refl _, fun x h => by cases h⟩
  | y :: l, m => by
    obtain ⟨h1, h2⟩ := le_max l (max m y)
    rw [List.foldl_cons]
    refine ⟨by omega, fun x hx => ?_⟩
    rcases List.mem_cons.mp hx with rfl | hx
    · omega
    · exact h2 x hx
theorem Dq.at {rows : List Row} {ps : List (Nat × Nat)} (h : Dq rows rows.length ps) {i : Nat} {r : Row} (hr : rows[i]? = some r) : pk ps i = row2 ps r := by
  unfold pk
  rw [List.getD_eq_getElem?_getD, h.row i r (get_lt_row hr) hr]; rfl
where get_lt_row {rows : List Row} {i : Nat} {r : Row} (hr : rows[i]? = some r) : i < rows.length := (List.getElem?_eq_some_iff.mp hr).1
theorem Dq.sz {rows : List Row} {ps : List (Nat × Nat)} (h : Dq rows rows.length ps) : Sz rows (ps.map (·.2)) := by
  refine ⟨by rw [List.length_map, h.len], fun i r hr => ?_⟩
  have hi := (List.getElem?_eq_some_iff.mp hr).1
  rw [List.getElem?_map, h.row i r hi hr]
  unfold zs row2 kids
  show some (1 + _) = some (1 + _)
  congr 3
  refine List.map_congr_left fun k _ => ?_
  unfold z pk
  rw [List.getD_eq_getElem?_getD, List.getD_eq_getElem?_getD, List.getElem?_map]
  cases ps[k]? <;> rfl
theorem Dq.z_eq {ps : List (Nat × Nat)} {k : Nat} : z (ps.map (·.2)) k = (pk ps k).2 := by
  unfold z pk
  rw [List.getD_eq_getElem?_getD, List.getD_eq_getElem?_getD, List.getElem?_map]
  cases ps[k]? <;> rfl
theorem nm_p {s : Str} (h : nameOk s) : nice (.str s) = true ∧ (PyData.str s).weight ≤ 8 := ⟨by simp only [nice]; exact h.1, by simp only [PyData.weight]; exact h.2⟩
theorem term_p {rows : List Row} {T : List D} {ps : List (Nat × Nat)} (L : Lay rows T) (Q : Dq rows rows.length ps) : ∀ i, i < rows.length → ∃ p, TP T ps i p := by
  intro i
  induction i using Nat.strongRecOn with
  | _ i ih =>
    intro hi
    obtain ⟨r, hr⟩ := lt_row hi
    have rok := (L.row i r hr).1
    have sub : ∀ k ∈ kids r, ∃ p, TP T ps k p := fun k hk => ih k (rok.lt k hk) (Nat.lt_trans (rok.lt k hk) hi)
    have e := Q.at hr
    have hmax := le_max ((kids r).map fun k => (pk ps k).1) 0
    have hk1 : ∀ k ∈ kids r, (pk ps k).1 ≤ ((kids r).map fun k => (pk ps k).1).foldl max 0 := fun k hk => hmax.2 _ (List.mem_map.mpr ⟨k, hk, rfl⟩)
    generalize hM : ((kids r).map fun k => (pk ps k).1).foldl max 0 = M at hk1
    have e1 : (pk ps i).1 = 1 + M := by rw [e]; unfold row2; rw [hM]
    have e2 : (pk ps i).2 = 1 + ((kids r).map fun k => (pk ps k).2).sum := by rw [e]; rfl
    have a := L.at hr
    have hnm := nm_p rok.nm
    have sh := rok.sh
    obtain ⟨w, nm, fs, ts⟩ := r
    dsimp only at sh hnm
    have hsub : ∀ l, (∀ k ∈ l, k ∈ fs ++ ts) → ∃ qs, PDs (chs T l) qs ∧ niceAll qs = true ∧ PyData.depthAll qs ≤ 2 * M ∧ PyData.weightAll qs ≤ 18 * (l.map fun k => (pk ps k).2).sum := fun l hl => list_p l (fun k hk => sub k (hl k hk)) fun k hk => hk1 k (hl k hk)
    cases sh with
    | w_end =>
      refine ⟨.tuple (.str "end" :: []), ?_, ?_, ?_, ?_⟩
      · rw [a]; exact pd_tup (.cons pd_str .nil)
      · simp only [nice, niceAll, Bool.and_true]; decide +kernel
      · simp only [PyData.depth, PyData.depthAll]; omega
      · simp only [PyData.weight, PyData.weightAll]
        have : (Str.ofString "end").cps.size = 3 := by decide +kernel
        have := hnm.2
        simp only [PyData.weight] at this
        omega
    | w_wait =>
      refine ⟨.tuple (.str "wait" :: []), ?_, ?_, ?_, ?_⟩
      · rw [a]; exact pd_tup (.cons pd_str .nil)
      · simp only [nice, niceAll, Bool.and_true]; decide +kernel
      · simp only [PyData.depth, PyData.depthAll]; omega
      · simp only [PyData.weight, PyData.weightAll]
        have : (Str.ofString "wait").cps.size = 4 := by decide +kernel
        have := hnm.2
        simp only [PyData.weight] at this
        omega
    | w_fail =>
      refine ⟨.tuple (.str "fail" :: []), ?_, ?_, ?_, ?_⟩
      · rw [a]; exact pd_tup (.cons pd_str .nil)
      · simp only [nice, niceAll, Bool.and_true]; decide +kernel
      · simp only [PyData.depth, PyData.depthAll]; omega
      · simp only [PyData.weight, PyData.weightAll]
        have : (Str.ofString "fail").cps.size = 4 := by decide +kernel
        have := hnm.2
        simp only [PyData.weight] at this
        omega
    | w_go =>
      refine ⟨.tuple (.str "go" :: [.str nm]), ?_, ?_, ?_, ?_⟩
      · rw [a]; exact pd_tup (.cons pd_str (.cons pd_str .nil))
      · simp only [nice, niceAll, Bool.and_true, Bool.and_eq_true]; exact ⟨by decide +kernel, hnm.1⟩
      · simp only [PyData.depth, PyData.depthAll]; omega
      · simp only [PyData.weight, PyData.weightAll]
        have : (Str.ofString "go").cps.size = 2 := by decide +kernel
        have := hnm.2
        simp only [PyData.weight] at this
        omega
    | w_given =>
      refine ⟨.tuple (.str "given" :: [.str nm]), ?_, ?_, ?_, ?_⟩
      · rw [a]; exact pd_tup (.cons pd_str (.cons pd_str .nil))
      · simp only [nice, niceAll, Bool.and_true, Bool.and_eq_true]; exact ⟨by decide +kernel, hnm.1⟩
      · simp only [PyData.depth, PyData.depthAll]; omega
      · simp only [PyData.weight, PyData.weightAll]
        have : (Str.ofString "given").cps.size = 5 := by decide +kernel
        have := hnm.2
        simp only [PyData.weight] at this
        omega
    | w_do k =>
      obtain ⟨qs, h1, h2, h3, h4⟩ := hsub [k] (fun k hk => hk)
      refine ⟨.tuple (.str "do" :: .str nm :: qs), ?_, ?_, ?_, ?_⟩
      · rw [a]; exact pd_tup (.cons pd_str (.cons pd_str h1))
      · simp only [nice, niceAll, h2, Bool.and_true, Bool.and_eq_true]; exact ⟨by decide +kernel, hnm.1⟩
      · simp only [PyData.depth, PyData.depthAll]; omega
      · simp only [PyData.weight, PyData.weightAll]
        have : (Str.ofString "do").cps.size = 2 := by decide +kernel
        have := hnm.2
        simp only [PyData.weight] at this
        rw [e2]
        simp only [kids, List.nil_append]
        omega
    | w_test k l =>
      obtain ⟨qs, h1, h2, h3, h4⟩ := hsub [k, l] (fun k hk => hk)
      refine ⟨.tuple (.str "test" :: .tuple [.int 0, .int 2] :: qs), ?_, ?_, ?_, ?_⟩
      · rw [a]; exact pd_tup (.cons pd_str (.cons (pd_tup (.cons pd_int (.cons pd_int .nil))) h1))
      · simp only [nice, niceAll, h2, Bool.and_true, Bool.and_eq_true]; exact ⟨by decide +kernel, by decide, by decide⟩
      · simp only [PyData.depth, PyData.depthAll]; omega
      · have hw : (PyData.tuple [.int 0, .int 2]).weight = 4 := by decide +kernel
        simp only [PyData.weight, PyData.weightAll] at hw ⊢
        have : (Str.ofString "test").cps.size = 4 := by decide +kernel
        rw [e2]
        simp only [kids, List.nil_append]
        omega
    | w_pick ts =>
      obtain ⟨qs, h1, h2, h3, h4⟩ := hsub ts (fun k hk => hk)
      refine ⟨.tuple (.str "pick" :: qs), ?_, ?_, ?_, ?_⟩
      · rw [a]; exact pd_tup (.cons pd_str h1)
      · simp only [nice, niceAll, h2, Bool.and_true]; decide +kernel
      · simp only [PyData.depth, PyData.depthAll]; omega
      · simp only [PyData.weight, PyData.weightAll]
        have : (Str.ofString "pick").cps.size = 4 := by decide +kernel
        rw [e2]
        simp only [kids, List.nil_append]
        omega
    | w_call fs ts =>
      obtain ⟨qs, h1, h2, h3, h4⟩ := hsub fs (fun k hk => List.mem_append_left _ hk)
      obtain ⟨us, g1, g2, g3, g4⟩ := hsub ts (fun k hk => List.mem_append_right _ hk)
      refine ⟨.tuple [.str "call", .str nm, .tuple qs, .tuple us], ?_, ?_, ?_, ?_⟩
      · rw [a]; exact pd_tup (.cons pd_str (.cons pd_str (.cons (pd_tup h1) (.cons (pd_tup g1) .nil))))
      · simp only [nice, niceAll, h2, g2, Bool.and_true, Bool.and_eq_true]; exact ⟨by decide +kernel, hnm.1⟩
      · simp only [PyData.depth, PyData.depthAll]; omega
      · simp only [PyData.weight, PyData.weightAll]
        have : (Str.ofString "call").cps.size = 4 := by decide +kernel
        have := hnm.2
        simp only [PyData.weight] at this
        rw [e2]
        simp only [kids, List.map_append, List.sum_append]
        omega
    | w_part fs ts =>
      obtain ⟨qs, h1, h2, h3, h4⟩ := hsub fs (fun k hk => List.mem_append_left _ hk)
      obtain ⟨us, g1, g2, g3, g4⟩ := hsub ts (fun k hk => List.mem_append_right _ hk)
      refine ⟨.tuple [.str "part", .str nm, .tuple qs, .tuple us], ?_, ?_, ?_, ?_⟩
      · rw [a]; exact pd_tup (.cons pd_str (.cons pd_str (.cons (pd_tup h1) (.cons (pd_tup g1) .nil))))
      · simp only [nice, niceAll, h2, g2, Bool.and_true, Bool.and_eq_true]; exact ⟨by decide +kernel, hnm.1⟩
      · simp only [PyData.depth, PyData.depthAll]; omega
      · simp only [PyData.weight, PyData.weightAll]
        have : (Str.ofString "part").cps.size = 4 := by decide +kernel
        have := hnm.2
        simp only [PyData.weight] at this
        rw [e2]
        simp only [kids, List.map_append, List.sum_append]
        omega
end Law
namespace Law
open PySem PySem.Spec PyProof.Rows L2 Fw
theorem pair_fine {S : Store} {l : Nat} {x : D} {p : PyData} (hl : S[l]? = some (.lst [x, x])) (h : PD x p) (hn : nice p = true) (hd : p.depth ≤ 40) (hw : p.weight ≤ 100000) : deep S DEEP (.loc l) = some (.list [p, p]) ∧ Fine (.list [p, p]) := by
  refine ⟨deep_list (n := 59) hl (.cons h (.cons h .nil)) (by simp only [PyData.depthAll]; omega), ?_, ?_, ?_⟩
  · simp only [nice, niceAll, hn, Bool.and_self]
  · simp only [PyData.depth, PyData.depthAll]; omega
  · simp only [PyData.weight, PyData.weightAll]
    have : (2 : Nat) ^ 20 = 1048576 := by decide
    omega
theorem one_fine {p : PyData} (hn : nice p = true) (hd : p.depth ≤ 40) (hw : p.weight ≤ 100000) : Fine p := ⟨hn, by omega, by
  have : (2 : Nat) ^ 20 = 1048576 := by decide
  omega⟩
theorem nin_ok {rows : List Row} (ok : RowsOk rows) {k : Nat} {s : Str} (h : Nin rows k s) : nameOk s := by
  induction h with
  | own h =>
    obtain ⟨r, h1, _, rfl⟩ := h
    exact (ok _ r h1).nm
  | sub _ _ _ ih => exact ih
theorem names_p : ∀ ss : List Str, (∀ s ∈ ss, nameOk s) → niceAll (ss.map .str) = true ∧ PyData.depthAll (ss.map .str) = 0 ∧ PyData.weightAll (ss.map .str) ≤ 9 * ss.length
  | [], _ => ⟨rfl, rfl, by simp [PyData.weightAll]⟩
  | s :: ss, h => by
    obtain ⟨h1, h2, h3⟩ := names_p ss fun x hx => h x (List.mem_cons_of_mem _ hx)
    obtain ⟨g1, g2⟩ := nm_p (h s (List.mem_cons_self ..))
    refine ⟨by simp only [List.map_cons, niceAll, g1, h1, Bool.and_self], by simp only [List.map_cons, PyData.depthAll, PyData.depth, h2, Nat.max_self], ?_⟩
    simp only [List.map_cons, PyData.weightAll, List.length_cons]
    omega
/-- what row_right reads -/
structure Rd (d t N P TL : Nat) (S : Store) (rows : List Row) (ds T : List D) : Prop where
  dk : Deck d t N S
  pl : PlanF d t S P rows ds
  tl : S[TL]? = some (.lst T)
  td : TL ≠ d ∧ TL ≠ t
section
variable {d t N N' P TL n : Nat} {S S' : Store} {Q : D → Store → Prop} {rows : List Row} {ds T : List D} {ps : List (Nat × Nat)}
theorem Rd.step (h : Rd d t N P TL S rows ds T) (D' : Deck d t N' S') (f : Frm d t S S') : Rd d t N' P TL S' rows ds T :=
  ⟨D', h.pl.step f, f _ _ h.tl h.td.1 h.td.2, h.td⟩
theorem Rd.inc (h : Rd d t N P TL S rows ds T) (i : Inc S S') : Rd d t N P TL S' rows ds T := h.step (h.dk.keep i) i.frm
theorem walk_lt {i k : Nat} {ws : List Int} (Ly : Lay rows T) (hi : i < rows.length) (h : walk rows i ws = some k) : k < rows.length := by
  have key : ∀ (ws : List Int) (o : Option Nat), (∀ j, o = some j → j < rows.length) → ∀ k, ws.foldl (stepTo rows) o = some k → k < rows.length := by
    intro ws
    induction ws with
    | nil => intro o ho k h; exact ho k h
    | cons w ws ih =>
      intro o ho k h
      rw [List.foldl_cons] at h
      refine ih _ (fun j hj => ?_) k h
      cases o with
      | none => cases hj
      | some a =>
        obtain ⟨r, hr⟩ := lt_row (ho a rfl)
        by_cases hw : 0 ≤ w ∧ w < ((kids r).length : Int)
        · obtain ⟨c, h1, h2, h3⟩ := step_some hr hw
          rw [h2] at hj
          cases hj
          exact Nat.lt_trans ((Ly.row a r hr).1.lt j h3) (ho a rfl)
        · rw [step_none hr hw] at hj
          cases hj
  exact key ws (some i) (fun j hj => by cases hj; exact hi) k h
theorem mem_sum {l : List Nat} {f : Nat → Nat} {k : Nat} (h : k ∈ l) : f k ≤ (l.map f).sum := by
  induction l with
  | nil => cases h
  | cons a l ih =>
    rw [List.map_cons, List.sum_cons]
    rcases List.mem_cons.mp h with rfl | h
    · omega
    · have := ih h; omega
theorem walk_le {i k : Nat} {ws : List Int} (Ly : Lay rows T) (Dp : Dq rows rows.length ps) (hi : i < rows.length) (h : walk rows i ws = some k) : k < rows.length ∧ (pk ps k).1 ≤ (pk ps i).1 ∧ (pk ps k).2 ≤ (pk ps i).2 := by
  have key : ∀ (ws : List Int) (o : Option Nat), (∀ j, o = some j → j < rows.length ∧ (pk ps j).1 ≤ (pk ps i).1 ∧ (pk ps j).2 ≤ (pk ps i).2) → ∀ k, ws.foldl (stepTo rows) o = some k → k < rows.length ∧ (pk ps k).1 ≤ (pk ps i).1 ∧ (pk ps k).2 ≤ (pk ps i).2 := by
    intro ws
    induction ws with
    | nil => intro o ho k h; exact ho k h
    | cons w ws ih =>
      intro o ho k h
      rw [List.foldl_cons] at h
      refine ih _ (fun j hj => ?_) k h
      cases o with
      | none => cases hj
      | some a =>
        obtain ⟨g1, g2, g3⟩ := ho a rfl
        obtain ⟨r, hr⟩ := lt_row g1
        by_cases hw : 0 ≤ w ∧ w < ((kids r).length : Int)
        · obtain ⟨c, h1, h2, h3⟩ := step_some hr hw
          rw [h2] at hj
          cases hj
          have e := Dp.at hr
          have e1 : (pk ps a).1 = 1 + ((kids r).map fun k => (pk ps k).1).foldl max 0 := by rw [e]; rfl
          have e2 : (pk ps a).2 = 1 + ((kids r).map fun k => (pk ps k).2).sum := by rw [e]; rfl
          have q1 := (le_max ((kids r).map fun k => (pk ps k).1) 0).2 _ (List.mem_map.mpr ⟨j, h3, rfl⟩)
          have q2 := mem_sum (f := fun k => (pk ps k).2) h3
          exact ⟨Nat.lt_trans ((Ly.row a r hr).1.lt j h3) g1, by omega, by omega⟩
        · rw [step_none hr hw] at hj
          cases hj
  exact key ws (some i) (fun j hj => by cases hj; exact ⟨hi, Nat.le_refl _, Nat.le_refl _⟩) k h
theorem due_p {i : Nat} {ws : List Int} (Ly : Lay rows T) (Dp : Dq rows rows.length ps) (hi : i < rows.length) (h12 : (pk ps i).1 ≤ 12) (h60 : (pk ps i).2 ≤ 60) : ∃ q, PD (optT T (walk rows i ws)) q ∧ nice q = true ∧ q.depth ≤ 40 ∧ q.weight ≤ 100000 := by
  cases hw : walk rows i ws with
  | none => exact ⟨.none, pd_non, rfl, by simp [PyData.depth], by simp [PyData.weight]⟩
  | some k =>
    obtain ⟨h1, h2, h3⟩ := walk_le Ly Dp hi hw
    obtain ⟨q, tq⟩ := term_p Ly Dp k h1
    have := tq.depth
    have := tq.weight
    exact ⟨q, tq.pd, tq.nice, by omega, by omega⟩
theorem t18 : tab.defs[18]? = some (df 18) := rfl
theorem repr_ne {x : D} {p : PyData} {k : Nat} {QS : Bool → Prop} (h : Fine p) (q : QS false) : ∃ b, cmpop .NotEq (.str p.shown) (.str p.shown) S = some b ∧ QS b :=
  if_some (cmpNe (eq_shown h)) q
theorem right_ok {i : Nat} (hN : N + 1000 < CAP) (R : Rd d t N P TL S rows ds T) (Ly : Lay rows T) (Dp : Dq rows rows.length ps) (ok : RowsOk rows) (hi : i < rows.length) (hn : rows.length ≤ 12) (h12 : (pk ps i).1 ≤ 12) (h60 : (pk ps i).2 ≤ 60)
    (hQ : ∀ S', Deck d t (N + 400) S' → Frm d t S S' → Q (.bl true) S') : Ok (callN tab (n + 5) 18 [.loc d, .loc P, .loc TL, .int (i : Nat), .int ((pk ps i).2 : Nat)] S) Q := by
  have hN' : N + 1000 < 4611686018427387904 := hN
  obtain ⟨p, tp⟩ := term_p Ly Dp i hi
  obtain ⟨r, hr⟩ := lt_row hi
  have rok := (Ly.row i r hr).1
  have few := rok.few
  have hpf : Fine p := one_fine tp.nice (by have := tp.depth; omega) (by have := tp.weight; omega)
  have Zs := Dp.sz
  have hz : z (ps.map (·.2)) i = (pk ps i).2 := Dq.z_eq
  generalize hm : (pk ps i).2 = m at hz h60 ⊢
  generalize hmi : ((m : Nat) : Int) = mi
  refine ok_call t18 rfl ?_
  simp only [df, b18, List.map_cons, List.map_nil, List.replicate, List.cons_append, List.nil_append, List.getElem?_cons_zero, List.getElem?_cons_succ, List.set_cons_zero, List.set_cons_succ, Nat.reduceSub, Nat.reduceAdd, List.length_cons, List.length_nil]
  -- the shape, its text
  refine seq_nx (P := fun η' S' => η' = [some (.loc d), some (.loc P), some (.loc TL), some (.int (i : Nat)), some (.int mi), some (at_ T i), some (.str p.shown), none, none, none, none, none, none, none] ∧ Inc S S') ?_ ?_
  · simp only [el_nil, el_cons, es_pass, es_brk, es_cnt, es_retN, es_ret, es_exp, es_asg, es_par, es_par3, es_aug, es_ite, es_for, es_step, es_whl, ev_var, ev_glb, ev_non, ev_bl, ev_int, ev_str, ev_bin, ev_neg, ev_cmp, ev_not, ev_ife, ev_tup, ev_lst, ev_dct, ev_idx, ev_slc, ev_rev, ev_call, ev_callk, ev_bi, ev_mth, ev_lcp, ev_ssc, ev_and1, ev_and2, ev_or1, ev_or2, ev_nil, ev_cons, ev_pnil, ev_pcons, ev_onone, ev_osome, et_cmp, et_chn, et_not, et_bl, et_var, et_call, et_bi, et_idx, et_and1, et_and2, et_or1, et_or2, ec_none, ec_some, eg_name, eg_sub, eg_tup, eg_nil, eg_cons, ei_val, ei_rng1, ei_rng2, List.map_cons, List.map_nil, List.replicate, List.cons_append, List.nil_append, List.getElem?_cons_zero, List.getElem?_cons_succ, List.set_cons_zero, List.set_cons_succ, Nat.reduceSub, Nat.reduceAdd, List.length_cons, List.length_nil]
    rw [ok_getL R.tl (Fw.atI_nat (at_lt Ly hi)), ok_getL R.tl (Fw.atI_nat (at_lt Ly hi)), ok_repr (tp.pd _ _ (by have := tp.depth; show _ ≤ 60; omega)) hpf]
    exact ⟨trivial, rfl, Inc.refl⟩
  rintro _ S1 ⟨rfl, i1⟩
  have R1 := R.inc i1
  have f1 : Frm d t S S1 := i1.frm
  -- the parts
  refine seq_nx (P := fun η' S' => η' = [some (.loc d), some (.loc P), some (.loc TL), some (.int (i : Nat)), some (.int mi), some (at_ T i), some (.str p.shown), some (.tup (chs T (kids r))), none, none, none, none, none, none] ∧ Inc S1 S') ?_ ?_
  · simp only [el_nil, el_cons, es_pass, es_brk, es_cnt, es_retN, es_ret, es_exp, es_asg, es_par, es_par3, es_aug, es_ite, es_for, es_step, es_whl, ev_var, ev_glb, ev_non, ev_bl, ev_int, ev_str, ev_bin, ev_neg, ev_cmp, ev_not, ev_ife, ev_tup, ev_lst, ev_dct, ev_idx, ev_slc, ev_rev, ev_call, ev_callk, ev_bi, ev_mth, ev_lcp, ev_ssc, ev_and1, ev_and2, ev_or1, ev_or2, ev_nil, ev_cons, ev_pnil, ev_pcons, ev_onone, ev_osome, et_cmp, et_chn, et_not, et_bl, et_var, et_call, et_bi, et_idx, et_and1, et_and2, et_or1, et_or2, ec_none, ec_some, eg_name, eg_sub, eg_tup, eg_nil, eg_cons, ei_val, ei_rng1, ei_rng2, List.map_cons, List.map_nil, List.replicate, List.cons_append, List.nil_append, List.getElem?_cons_zero, List.getElem?_cons_succ, List.set_cons_zero, List.set_cons_succ, Nat.reduceSub, Nat.reduceAdd, List.length_cons, List.length_nil]
    obtain ⟨lf, lt, hx1, hlf, hlt2, q1, q2, q3, q4⟩ := R1.pl.row i r hr
    rw [ok_getL R1.pl.pl (Fw.atI_nat hx1), ok_getT atI2, ok_getL R1.pl.pl (Fw.atI_nat hx1), ok_getT atI3, ok_addL hlf hlt2 (by rw [ints_len, ints_len, sizeLine_eq]; omega), ← ints_append, ok_walk get_new]
    refine ⟨by rw [ints_len, List.length_append, sizeLine_eq]; omega, ?_⟩
    simp only [wipeE, List.map_cons, List.map_nil, List.replicate, List.cons_append, List.nil_append, List.getElem?_cons_zero, List.getElem?_cons_succ, List.set_cons_zero, List.set_cons_succ, Nat.reduceSub, Nat.reduceAdd, List.length_cons, List.length_nil]
    refine found_ok (fun v => rfl) (fun v => rfl) get_new (get_app R1.tl) (fun k hk => by rw [Ly.len]; exact Nat.lt_trans (rok.lt k hk) hi) ?_
    rw [ok_tupleL get_new]
    exact ⟨trivial, rfl, (Inc.app _).trans (Inc.app _)⟩
  rintro _ S2 ⟨rfl, i2⟩
  have R2 := R1.inc i2
  have f2 := f1.trans i2.frm
  obtain ⟨qs, k1, k2, k3, k4⟩ := list_p (m := 12) (kids r) (fun k hk => term_p Ly Dp k (Nat.lt_trans (rok.lt k hk) hi)) (fun k hk => by
    have e := Dp.at hr
    have := (le_max ((kids r).map fun k => (pk ps k).1) 0).2 _ (List.mem_map.mpr ⟨k, hk, rfl⟩)
    have e1 : (pk ps i).1 = 1 + ((kids r).map fun k => (pk ps k).1).foldl max 0 := by rw [e]; rfl
    omega)
  have kw : PyData.weightAll qs ≤ 1080 := by
    have e2 : (pk ps i).2 = 1 + ((kids r).map fun k => (pk ps k).2).sum := by rw [Dp.at hr]; rfl
    omega
  have kt : PD (.tup (chs T (kids r))) (.tuple qs) := pd_tup k1
  refine seq_nx (P := fun η' S' => η' = [some (.loc d), some (.loc P), some (.loc TL), some (.int (i : Nat)), some (.int mi), some (at_ T i), some (.str p.shown), some (.tup (chs T (kids r))), none, none, none, none, none, none] ∧ Inc S2 S') ?_ ?_
  · simp only [el_nil, el_cons, es_pass, es_brk, es_cnt, es_retN, es_ret, es_exp, es_asg, es_par, es_par3, es_aug, es_ite, es_for, es_step, es_whl, ev_var, ev_glb, ev_non, ev_bl, ev_int, ev_str, ev_bin, ev_neg, ev_cmp, ev_not, ev_ife, ev_tup, ev_lst, ev_dct, ev_idx, ev_slc, ev_rev, ev_call, ev_callk, ev_bi, ev_mth, ev_lcp, ev_ssc, ev_and1, ev_and2, ev_or1, ev_or2, ev_nil, ev_cons, ev_pnil, ev_pcons, ev_onone, ev_osome, et_cmp, et_chn, et_not, et_bl, et_var, et_call, et_bi, et_idx, et_and1, et_and2, et_or1, et_or2, ec_none, ec_some, eg_name, eg_sub, eg_tup, eg_nil, eg_cons, ei_val, ei_rng1, ei_rng2, List.map_cons, List.map_nil, List.replicate, List.cons_append, List.nil_append, List.getElem?_cons_zero, List.getElem?_cons_succ, List.set_cons_zero, List.set_cons_succ, Nat.reduceSub, Nat.reduceAdd, List.length_cons, List.length_nil]
    rw [Ly.at hr]
    refine parts_ok (n := n + 2) Ly hr ?_
    refine parts_ok (n := n + 2) Ly hr ?_
    have hk : kids r = r.fs ++ r.ts := rfl
    rw [← hk]
    refine ⟨by decide, ?_⟩
    obtain ⟨d1, d2⟩ := pair_fine (get_new (S := S2)) kt (by simp only [nice]; exact k2) (by simp only [PyData.depth]; omega) (by simp only [PyData.weight]; omega)
    rw [ok_repr d1 d2]
    refine ⟨by decide, ?_⟩
    obtain ⟨d3, d4⟩ := pair_fine (get_new (S := S2 ++ [Cell.lst [D.tup (chs T (kids r)), D.tup (chs T (kids r))]])) kt (by simp only [nice]; exact k2) (by simp only [PyData.depth]; omega) (by simp only [PyData.weight]; omega)
    rw [ok_repr d3 d4]
    refine if_some (cmpNe (eq_shown d4)) ?_
    simp only [Bool.not_true, Bool.false_eq_true, if_false]
    exact ⟨trivial, trivial, (Inc.app _).trans (Inc.app _)⟩
  rintro _ S3 ⟨rfl, i3⟩
  have R3 := R2.inc i3
  have f3 := f2.trans i3.frm
  -- the size
  refine seq_nx (P := fun η' S' => η' = [some (.loc d), some (.loc P), some (.loc TL), some (.int (i : Nat)), some (.int mi), some (at_ T i), some (.str p.shown), some (.tup (chs T (kids r))), none, none, none, none, none, none] ∧ Inc S3 S') ?_ ?_
  · simp only [el_nil, el_cons, es_pass, es_brk, es_cnt, es_retN, es_ret, es_exp, es_asg, es_par, es_par3, es_aug, es_ite, es_for, es_step, es_whl, ev_var, ev_glb, ev_non, ev_bl, ev_int, ev_str, ev_bin, ev_neg, ev_cmp, ev_not, ev_ife, ev_tup, ev_lst, ev_dct, ev_idx, ev_slc, ev_rev, ev_call, ev_callk, ev_bi, ev_mth, ev_lcp, ev_ssc, ev_and1, ev_and2, ev_or1, ev_or2, ev_nil, ev_cons, ev_pnil, ev_pcons, ev_onone, ev_osome, et_cmp, et_chn, et_not, et_bl, et_var, et_call, et_bi, et_idx, et_and1, et_and2, et_or1, et_or2, ec_none, ec_some, eg_name, eg_sub, eg_tup, eg_nil, eg_cons, ei_val, ei_rng1, ei_rng2, List.map_cons, List.map_nil, List.replicate, List.cons_append, List.nil_append, List.getElem?_cons_zero, List.getElem?_cons_succ, List.set_cons_zero, List.set_cons_succ, Nat.reduceSub, Nat.reduceAdd, List.length_cons, List.length_nil]
    refine size_ok (n := n) (T := T) (i := i) Ly Zs hi (by omega) fun A1 j1 => ?_
    refine size_ok (n := n) (T := T) (i := i) Ly Zs hi (by omega) fun A2 j2 => ?_
    rw [hz, hmi]
    refine ⟨by decide, by decide, ?_⟩
    have hn : nice (.int mi) = true := by
      simp only [nice]
      exact decide_eq_true (by omega)
    obtain ⟨d1, d2⟩ := pair_fine (get_new (S := A2)) (pd_int (b := mi)) hn (by simp only [PyData.depth]; omega) (by
      simp only [PyData.weight]
      split
      · omega
      · have : mi.natAbs.log2 < 64 := (Nat.log2_lt (by simp_all)).mpr (by omega)
        omega)
    have d1' := deep_list (n := 59) (get_app (T := [Cell.lst [D.int mi, D.int mi]]) (get_new (S := A2) (c := Cell.lst [D.int mi, D.int mi]))) (.cons (pd_int (b := mi)) (.cons (pd_int (b := mi)) .nil)) (by simp only [PyData.depthAll, PyData.depth]; omega)
    have d3 := deep_list (n := 59) (get_new (S := A2 ++ [Cell.lst [D.int mi, D.int mi]]) (c := Cell.lst [D.int mi, D.int mi])) (.cons (pd_int (b := mi)) (.cons (pd_int (b := mi)) .nil)) (by simp only [PyData.depthAll, PyData.depth]; omega)
    refine if_some (cmpNe (eq_same d1' d3 d2)) ?_
    simp only [Bool.not_true, Bool.false_eq_true, if_false]
    exact ⟨trivial, trivial, j1.trans (j2.trans ((Inc.app _).trans (Inc.app _)))⟩
  rintro _ S4 ⟨rfl, i4⟩
  have R4 := R3.inc i4
  have f4 := f3.trans i4.frm
  -- the names
  refine seq_nx (P := fun η' S' => ∃ ss, η' = [some (.loc d), some (.loc P), some (.loc TL), some (.int (i : Nat)), some (.int mi), some (at_ T i), some (.str p.shown), some (.tup (chs T (kids r))), none, some (.tup ((sortStr ss).map .str)), none, none, none, none] ∧ ss.Nodup ∧ ss.length < 64 ∧ (∀ s, s ∈ ss ↔ Nin rows i s) ∧ Inc S4 S') ?_ ?_
  · simp only [el_nil, el_cons, es_pass, es_brk, es_cnt, es_retN, es_ret, es_exp, es_asg, es_par, es_par3, es_aug, es_ite, es_for, es_step, es_whl, ev_var, ev_glb, ev_non, ev_bl, ev_int, ev_str, ev_bin, ev_neg, ev_cmp, ev_not, ev_ife, ev_tup, ev_lst, ev_dct, ev_idx, ev_slc, ev_rev, ev_call, ev_callk, ev_bi, ev_mth, ev_lcp, ev_ssc, ev_and1, ev_and2, ev_or1, ev_or2, ev_nil, ev_cons, ev_pnil, ev_pcons, ev_onone, ev_osome, et_cmp, et_chn, et_not, et_bl, et_var, et_call, et_bi, et_idx, et_and1, et_and2, et_or1, et_or2, ec_none, ec_some, eg_name, eg_sub, eg_tup, eg_nil, eg_cons, ei_val, ei_rng1, ei_rng2, List.map_cons, List.map_nil, List.replicate, List.cons_append, List.nil_append, List.getElem?_cons_zero, List.getElem?_cons_succ, List.set_cons_zero, List.set_cons_succ, Nat.reduceSub, Nat.reduceAdd, List.length_cons, List.length_nil]
    refine namesOf_ok (n := n + 3) Ly Zs hi (by omega) R4.pl.at fun ks A1 j1 nd h64 hmem => ?_
    exact ⟨trivial, ks, rfl, nd, h64, hmem, j1⟩
  rintro _ S5 ⟨ss, rfl, ss1, ss2, ss3, i5⟩
  have R5 := R4.inc i5
  have f5 := f4.trans i5.frm
  refine seq_nx (P := fun η' S' => η' = [some (.loc d), some (.loc P), some (.loc TL), some (.int (i : Nat)), some (.int mi), some (at_ T i), some (.str p.shown), some (.tup (chs T (kids r))), none, some (.tup ((sortStr ss).map .str)), none, none, none, none] ∧ Inc S5 S') ?_ ?_
  · simp only [el_nil, el_cons, es_pass, es_brk, es_cnt, es_retN, es_ret, es_exp, es_asg, es_par, es_par3, es_aug, es_ite, es_for, es_step, es_whl, ev_var, ev_glb, ev_non, ev_bl, ev_int, ev_str, ev_bin, ev_neg, ev_cmp, ev_not, ev_ife, ev_tup, ev_lst, ev_dct, ev_idx, ev_slc, ev_rev, ev_call, ev_callk, ev_bi, ev_mth, ev_lcp, ev_ssc, ev_and1, ev_and2, ev_or1, ev_or2, ev_nil, ev_cons, ev_pnil, ev_pcons, ev_onone, ev_osome, et_cmp, et_chn, et_not, et_bl, et_var, et_call, et_bi, et_idx, et_and1, et_and2, et_or1, et_or2, ec_none, ec_some, eg_name, eg_sub, eg_tup, eg_nil, eg_cons, ei_val, ei_rng1, ei_rng2, List.map_cons, List.map_nil, List.replicate, List.cons_append, List.nil_append, List.getElem?_cons_zero, List.getElem?_cons_succ, List.set_cons_zero, List.set_cons_succ, Nat.reduceSub, Nat.reduceAdd, List.length_cons, List.length_nil]
    refine names_ok (n := n) (T := T) (i := i) Ly Zs hi (by omega) fun s1 A1 j1 m1 => ?_
    refine names_ok (n := n) (T := T) (i := i) Ly Zs hi (by omega) fun s2 A2 j2 m2 => ?_
    rw [sort_same (nodup_dedup s1) ss1 fun s => by rw [mem_dedup, m1, ss3], sort_same (nodup_dedup s2) ss1 fun s => by rw [mem_dedup, m2, ss3]]
    have hnm : ∀ s ∈ sortStr ss, nameOk s := fun s hs => nin_ok ok ((ss3 s).mp ((sortStr_perm ss).mem_iff.mp hs))
    have hlen : (sortStr ss).length < 64 := by rw [(sortStr_perm ss).length_eq]; exact ss2
    generalize sortStr ss = us at hnm hlen ⊢
    obtain ⟨u1, u2, u3⟩ := names_p us hnm
    have kt : PD (.tup (us.map .str)) (.tuple (us.map .str)) := pd_tup (pds_strs us)
    refine ⟨by decide, ?_⟩
    obtain ⟨d1, d2⟩ := pair_fine (get_new (S := A2)) kt (by simp only [nice]; exact u1) (by simp only [PyData.depth]; omega) (by simp only [PyData.weight]; omega)
    rw [ok_repr d1 d2]
    refine ⟨by decide, ?_⟩
    obtain ⟨d3, d4⟩ := pair_fine (get_new (S := A2 ++ [Cell.lst [D.tup (us.map .str), D.tup (us.map .str)]])) kt (by simp only [nice]; exact u1) (by simp only [PyData.depth]; omega) (by simp only [PyData.weight]; omega)
    rw [ok_repr d3 d4]
    refine if_some (cmpNe (eq_shown d4)) ?_
    simp only [Bool.not_true, Bool.false_eq_true, if_false]
    exact ⟨trivial, trivial, j1.trans (j2.trans ((Inc.app _).trans (Inc.app _)))⟩
  rintro _ S6 ⟨rfl, i6⟩
  have R6 := R5.inc i6
  have f6 := f5.trans i6.frm
  -- the ways
  refine seq_nx (P := fun η' S' => ∃ e10 e11 e12 e13, η' = [some (.loc d), some (.loc P), some (.loc TL), some (.int (i : Nat)), some (.int mi), some (at_ T i), some (.str p.shown), some (.tup (chs T (kids r))), none, some (.tup ((sortStr ss).map .str)), e10, e11, e12, e13] ∧ Deck d t (N + 160) S' ∧ Frm d t S S') ?_ ?_
  · simp only [el_nil, el_cons, es_pass, es_brk, es_cnt, es_retN, es_ret, es_exp, es_asg, es_par, es_par3, es_aug, es_ite, es_for, es_step, es_whl, ev_var, ev_glb, ev_non, ev_bl, ev_int, ev_str, ev_bin, ev_neg, ev_cmp, ev_not, ev_ife, ev_tup, ev_lst, ev_dct, ev_idx, ev_slc, ev_rev, ev_call, ev_callk, ev_bi, ev_mth, ev_lcp, ev_ssc, ev_and1, ev_and2, ev_or1, ev_or2, ev_nil, ev_cons, ev_pnil, ev_pcons, ev_onone, ev_osome, et_cmp, et_chn, et_not, et_bl, et_var, et_call, et_bi, et_idx, et_and1, et_and2, et_or1, et_or2, ec_none, ec_some, eg_name, eg_sub, eg_tup, eg_nil, eg_cons, ei_val, ei_rng1, ei_rng2, List.map_cons, List.map_nil, List.replicate, List.cons_append, List.nil_append, List.getElem?_cons_zero, List.getElem?_cons_succ, List.set_cons_zero, List.set_cons_succ, Nat.reduceSub, Nat.reduceAdd, List.length_cons, List.length_nil]
    refine ⟨_, rfl, by decide +kernel, ?_⟩
    refine for_ok (fun j η' S' => ∃ e10 e11 e12 e13, η' = [some (.loc d), some (.loc P), some (.loc TL), some (.int (i : Nat)), some (.int mi), some (at_ T i), some (.str p.shown), some (.tup (chs T (kids r))), none, some (.tup ((sortStr ss).map .str)), e10, e11, e12, e13] ∧ Deck d t (N + 40 * j) S' ∧ Frm d t S S') ⟨_, _, _, _, rfl, R6.dk, f6⟩ ?_ ?_
    · rintro j x η' S' hx ⟨e10, e11, e12, e13, rfl, D7, f7⟩
      refine ⟨rfl, ?_⟩
      obtain ⟨_, hj⟩ := rngD_get hx
      have hj : j < 4 := hj
      rw [es_step, eg_name]
      simp only [List.map_cons, List.map_nil, List.replicate, List.cons_append, List.nil_append, List.getElem?_cons_zero, List.getElem?_cons_succ, List.set_cons_zero, List.set_cons_succ, Nat.reduceSub, Nat.reduceAdd, List.length_cons, List.length_nil]
      have R7 := R.step D7 f7
      refine seq_nx (P := fun η' S' => ∃ (ws : List Int) (e10 e12 e13 : Option D), η' = [some (.loc d), some (.loc P), some (.loc TL), some (.int (i : Nat)), some (.int mi), some (at_ T i), some (.str p.shown), some (.tup (chs T (kids r))), none, some (.tup ((sortStr ss).map .str)), e10, some (.tup (ws.map .int)), e12, e13] ∧ Deck d t (N + 40 * (j + 1)) S' ∧ Frm d t S S') ?_ ?_
      · simp only [el_nil, el_cons, es_pass, es_brk, es_cnt, es_retN, es_ret, es_exp, es_asg, es_par, es_par3, es_aug, es_ite, es_for, es_step, es_whl, ev_var, ev_glb, ev_non, ev_bl, ev_int, ev_str, ev_bin, ev_neg, ev_cmp, ev_not, ev_ife, ev_tup, ev_lst, ev_dct, ev_idx, ev_slc, ev_rev, ev_call, ev_callk, ev_bi, ev_mth, ev_lcp, ev_ssc, ev_and1, ev_and2, ev_or1, ev_or2, ev_nil, ev_cons, ev_pnil, ev_pcons, ev_onone, ev_osome, et_cmp, et_chn, et_not, et_bl, et_var, et_call, et_bi, et_idx, et_and1, et_and2, et_or1, et_or2, ec_none, ec_some, eg_name, eg_sub, eg_tup, eg_nil, eg_cons, ei_val, ei_rng1, ei_rng2, List.map_cons, List.map_nil, List.replicate, List.cons_append, List.nil_append, List.getElem?_cons_zero, List.getElem?_cons_succ, List.set_cons_zero, List.set_cons_succ, Nat.reduceSub, Nat.reduceAdd, List.length_cons, List.length_nil]
        refine way_ok (n := n + 1) (by show _ < 4611686018427387904; omega) R7.dk R7.pl ok hi hn fun ws A1 D8 g1 => ?_
        exact ⟨trivial, ws, _, _, _, rfl, D8, f7.trans g1⟩
      rintro _ A1 ⟨ws, e10, e12, e13, rfl, D8, g1⟩
      have R8 := R.step D8 g1
      refine seq_nx (P := fun η' S' => η' = [some (.loc d), some (.loc P), some (.loc TL), some (.int (i : Nat)), some (.int mi), some (at_ T i), some (.str p.shown), some (.tup (chs T (kids r))), none, some (.tup ((sortStr ss).map .str)), e10, some (.tup (ws.map .int)), some (optI (walk rows i ws)), e13] ∧ Inc A1 S') ?_ ?_
      · simp only [el_nil, el_cons, es_pass, es_brk, es_cnt, es_retN, es_ret, es_exp, es_asg, es_par, es_par3, es_aug, es_ite, es_for, es_step, es_whl, ev_var, ev_glb, ev_non, ev_bl, ev_int, ev_str, ev_bin, ev_neg, ev_cmp, ev_not, ev_ife, ev_tup, ev_lst, ev_dct, ev_idx, ev_slc, ev_rev, ev_call, ev_callk, ev_bi, ev_mth, ev_lcp, ev_ssc, ev_and1, ev_and2, ev_or1, ev_or2, ev_nil, ev_cons, ev_pnil, ev_pcons, ev_onone, ev_osome, et_cmp, et_chn, et_not, et_bl, et_var, et_call, et_bi, et_idx, et_and1, et_and2, et_or1, et_or2, ec_none, ec_some, eg_name, eg_sub, eg_tup, eg_nil, eg_cons, ei_val, ei_rng1, ei_rng2, List.map_cons, List.map_nil, List.replicate, List.cons_append, List.nil_append, List.getElem?_cons_zero, List.getElem?_cons_succ, List.set_cons_zero, List.set_cons_succ, Nat.reduceSub, Nat.reduceAdd, List.length_cons, List.length_nil]
        refine walked_ok (n := n + 3) (T := T) Ly hi R8.pl.at ws fun A2 j2 => ?_
        exact ⟨trivial, rfl, j2⟩
      rintro _ A2 ⟨rfl, j2⟩
      have R9 := R8.inc j2
      have g2 := g1.trans j2.frm
      refine seq_nx (P := fun η' S' => η' = [some (.loc d), some (.loc P), some (.loc TL), some (.int (i : Nat)), some (.int mi), some (at_ T i), some (.str p.shown), some (.tup (chs T (kids r))), none, some (.tup ((sortStr ss).map .str)), e10, some (.tup (ws.map .int)), some (optI (walk rows i ws)), some (optT T (walk rows i ws))] ∧ Inc A2 S') ?_ ?_
      · simp only [el_nil, el_cons, es_pass, es_brk, es_cnt, es_retN, es_ret, es_exp, es_asg, es_par, es_par3, es_aug, es_ite, es_for, es_step, es_whl, ev_var, ev_glb, ev_non, ev_bl, ev_int, ev_str, ev_bin, ev_neg, ev_cmp, ev_not, ev_ife, ev_tup, ev_lst, ev_dct, ev_idx, ev_slc, ev_rev, ev_call, ev_callk, ev_bi, ev_mth, ev_lcp, ev_ssc, ev_and1, ev_and2, ev_or1, ev_or2, ev_nil, ev_cons, ev_pnil, ev_pcons, ev_onone, ev_osome, et_cmp, et_chn, et_not, et_bl, et_var, et_call, et_bi, et_idx, et_and1, et_and2, et_or1, et_or2, ec_none, ec_some, eg_name, eg_sub, eg_tup, eg_nil, eg_cons, ei_val, ei_rng1, ei_rng2, List.map_cons, List.map_nil, List.replicate, List.cons_append, List.nil_append, List.getElem?_cons_zero, List.getElem?_cons_succ, List.set_cons_zero, List.set_cons_succ, Nat.reduceSub, Nat.reduceAdd, List.length_cons, List.length_nil]
        cases hw : walk rows i ws with
        | none =>
          refine ⟨true, rfl, ?_⟩
          simp only [if_true]
          exact ⟨trivial, rfl, Inc.refl⟩
        | some k =>
          refine ⟨false, rfl, ?_⟩
          simp only [Bool.false_eq_true, if_false]
          unfold optI
          rw [ok_getL R9.tl (Fw.atI_nat (at_lt Ly (walk_lt Ly hi hw)))]
          exact ⟨trivial, rfl, Inc.refl⟩
      rintro _ A3 ⟨rfl, j3⟩
      obtain ⟨q, q1, q2, q3, q4⟩ := due_p (ws := ws) Ly Dp hi h12 (by omega)
      have g3 := g2.trans j3.frm
      have R10 := R9.inc j3
      simp only [el_nil, el_cons, es_pass, es_brk, es_cnt, es_retN, es_ret, es_exp, es_asg, es_par, es_par3, es_aug, es_ite, es_for, es_step, es_whl, ev_var, ev_glb, ev_non, ev_bl, ev_int, ev_str, ev_bin, ev_neg, ev_cmp, ev_not, ev_ife, ev_tup, ev_lst, ev_dct, ev_idx, ev_slc, ev_rev, ev_call, ev_callk, ev_bi, ev_mth, ev_lcp, ev_ssc, ev_and1, ev_and2, ev_or1, ev_or2, ev_nil, ev_cons, ev_pnil, ev_pcons, ev_onone, ev_osome, et_cmp, et_chn, et_not, et_bl, et_var, et_call, et_bi, et_idx, et_and1, et_and2, et_or1, et_or2, ec_none, ec_some, eg_name, eg_sub, eg_tup, eg_nil, eg_cons, ei_val, ei_rng1, ei_rng2, List.map_cons, List.map_nil, List.replicate, List.cons_append, List.nil_append, List.getElem?_cons_zero, List.getElem?_cons_succ, List.set_cons_zero, List.set_cons_succ, Nat.reduceSub, Nat.reduceAdd, List.length_cons, List.length_nil]
      refine part_ok (n := n + 1) (T := T) (i := i) Ly hi ws ?_
      refine part_ok (n := n + 1) (T := T) (i := i) Ly hi ws ?_
      generalize optT T (walk rows i ws) = dv at q1 ⊢
      refine ⟨by decide, ?_⟩
      obtain ⟨d1, d2⟩ := pair_fine (get_new (S := A3)) q1 q2 q3 q4
      rw [ok_repr d1 d2]
      refine ⟨by decide, ?_⟩
      obtain ⟨d3, d4⟩ := pair_fine (get_new (S := A3 ++ [Cell.lst [dv, dv]])) q1 q2 q3 q4
      rw [ok_repr d3 d4]
      refine if_some (cmpNe (eq_shown d4)) ?_
      simp only [Bool.not_true, Bool.false_eq_true, if_false]
      exact ⟨_, _, _, _, rfl, R10.dk.keep ((Inc.app _).trans (Inc.app _)), g3.trans ((Frm.app _).trans (Frm.app _))⟩
    · rintro η' S' ⟨e10, e11, e12, e13, rfl, D7, f7⟩
      exact ⟨rfl, rfl, _, _, _, _, rfl, D7.more (by simp [rngD_len]), f7⟩
  rintro _ S7 ⟨e10, e11, e12, e13, rfl, D7, f7⟩
  simp only [el_nil, el_cons, es_pass, es_brk, es_cnt, es_retN, es_ret, es_exp, es_asg, es_par, es_par3, es_aug, es_ite, es_for, es_step, es_whl, ev_var, ev_glb, ev_non, ev_bl, ev_int, ev_str, ev_bin, ev_neg, ev_cmp, ev_not, ev_ife, ev_tup, ev_lst, ev_dct, ev_idx, ev_slc, ev_rev, ev_call, ev_callk, ev_bi, ev_mth, ev_lcp, ev_ssc, ev_and1, ev_and2, ev_or1, ev_or2, ev_nil, ev_cons, ev_pnil, ev_pcons, ev_onone, ev_osome, et_cmp, et_chn, et_not, et_bl, et_var, et_call, et_bi, et_idx, et_and1, et_and2, et_or1, et_or2, ec_none, ec_some, eg_name, eg_sub, eg_tup, eg_nil, eg_cons, ei_val, ei_rng1, ei_rng2, List.map_cons, List.map_nil, List.replicate, List.cons_append, List.nil_append, List.getElem?_cons_zero, List.getElem?_cons_succ, List.set_cons_zero, List.set_cons_succ, Nat.reduceSub, Nat.reduceAdd, List.length_cons, List.length_nil]
  refine ⟨by decide, ?_⟩
  refine part_ok (n := n + 1) (T := T) (i := i) Ly hi [] ?_
  show Ok (bicall .repr [at_ T i] S7) _
  have hd60 : p.depth ≤ DEEP := by have := tp.depth; show _ ≤ 60; omega
  rw [ok_repr (tp.pd _ _ hd60) hpf]
  refine if_some (cmpEq (eq_shown hpf)) ?_
  refine ⟨true, rfl, ?_⟩
  simp only [if_true]
  rw [ok_repr (tp.pd _ _ hd60) hpf]
  refine if_some (cmpEq (eq_shown hpf)) ?_
  exact hQ _ (D7.more (by omega)) f7
end
end Law
namespace Law
open PySem PySem.Spec PyProof.Rows L2 Fw
def dch (j : Nat) : Str := ⟨#[97 + j]⟩
def DR : List Row := ⟨"given", "f", [], []⟩ :: (List.range 4).map fun j => ⟨"part", dch j, [j, j], []⟩
def DTn : Nat → D
  | 0 => .tup [.str "given", .str "f"]
  | j + 1 => .tup [.str "part", .str (dch j), .tup [DTn j, DTn j], .tup []]
def DT : List D := (List.range 5).map DTn
def DZn : Nat → Nat
  | 0 => 1
  | j + 1 => 2 * DZn j + 1
def DZ : List Nat := (List.range 5).map DZn
def dnm (j : Nat) : List Str := "f" :: (List.range j).map dch
theorem dlay : Lay DR DT := by
  refine ⟨rfl, fun i r h => ?_⟩
  have nf : nameOk "f" := ⟨by decide +kernel, by decide +kernel⟩
  match i, h with
  | 0, h => cases h; exact ⟨⟨.w_given, fun k hk => by simp at hk, nf, by decide⟩, rfl⟩
  | 1, h => cases h; exact ⟨⟨.w_part [0, 0] [], fun k hk => by simp at hk; omega, ⟨by decide +kernel, by decide +kernel⟩, by decide⟩, rfl⟩
  | 2, h => cases h; exact ⟨⟨.w_part [1, 1] [], fun k hk => by simp at hk; omega, ⟨by decide +kernel, by decide +kernel⟩, by decide⟩, rfl⟩
  | 3, h => cases h; exact ⟨⟨.w_part [2, 2] [], fun k hk => by simp at hk; omega, ⟨by decide +kernel, by decide +kernel⟩, by decide⟩, rfl⟩
  | 4, h => cases h; exact ⟨⟨.w_part [3, 3] [], fun k hk => by simp at hk; omega, ⟨by decide +kernel, by decide +kernel⟩, by decide⟩, rfl⟩
  | k + 5, h => cases h
theorem dsz : Sz DR DZ := by
  refine ⟨rfl, fun i r h => ?_⟩
  match i, h with
  | 0, h => cases h; rfl
  | 1, h => cases h; rfl
  | 2, h => cases h; rfl
  | 3, h => cases h; rfl
  | 4, h => cases h; rfl
  | k + 5, h => cases h
theorem dnin : ∀ j, j < 5 → ∀ s, Nin DR j s ↔ s ∈ dnm j
  | 0, _, s => by
    rw [nin_iff (r := ⟨"given", "f", [], []⟩) rfl, own_iff (r := ⟨"given", "f", [], []⟩) rfl]
    simp [dnm, eq_comm]
  | j + 1, h, s => by
    have hr : DR[j + 1]? = some ⟨"part", dch j, [j, j], []⟩ := by
      match j, h with
      | 0, _ => rfl
      | 1, _ => rfl
      | 2, _ => rfl
      | 3, _ => rfl
    rw [nin_iff hr, own_iff hr]
    have ih := dnin j (by omega) s
    simp only [dnm, List.range_succ, List.map_append, List.map_cons, List.map_nil, List.mem_cons, List.mem_append, List.not_mem_nil, or_false] at ih ⊢
    constructor
    · rintro (⟨_, h⟩ | ⟨c, hc, h⟩)
      · exact .inr (.inr h.symm)
      · have : c = j := by rcases hc with q | q <;> exact q
        subst this
        rcases ih.mp ‹Nin DR c s› with q | q
        · exact .inl q
        · exact .inr (.inl q)
    · rintro (h | h | h)
      · exact .inr ⟨j, by simp, ih.mpr (.inl h)⟩
      · exact .inr ⟨j, by simp, ih.mpr (.inr h)⟩
      · exact .inl ⟨by decide, h.symm⟩
theorem dnd : ∀ m, m < 5 → (dnm m).Nodup
  | 0, _ => by decide +kernel
  | 1, _ => by decide +kernel
  | 2, _ => by decide +kernel
  | 3, _ => by decide +kernel
  | 4, _ => by decide +kernel
theorem dwalk : ∀ m, m < 5 → walk DR m ((List.replicate m (1 : Int))) = some 0
  | 0, _ => by decide +kernel
  | 1, _ => by decide +kernel
  | 2, _ => by decide +kernel
  | 3, _ => by decide +kernel
  | 4, _ => by decide +kernel
theorem dat {j : Nat} (h : j < 5) : at_ DT j = DTn j := by
  match j, h with
  | 0, _ => rfl
  | 1, _ => rfl
  | 2, _ => rfl
  | 3, _ => rfl
  | 4, _ => rfl
theorem dzat {j : Nat} (h : j < 5) : z DZ j = DZn j := by
  match j, h with
  | 0, _ => rfl
  | 1, _ => rfl
  | 2, _ => rfl
  | 3, _ => rfl
  | 4, _ => rfl
theorem dzle {j : Nat} (h : j < 5) : DZn j ≤ 60 := by
  match j, h with
  | 0, _ => decide
  | 1, _ => decide
  | 2, _ => decide
  | 3, _ => decide
  | 4, _ => decide
theorem dnms : ∀ m, m < 5 → ∀ s ∈ dnm m, nameOk s := by
  intro m hm s hs
  unfold dnm at hs
  rcases List.mem_cons.mp hs with rfl | hs
  · exact ⟨by decide +kernel, by decide +kernel⟩
  · obtain ⟨j, hj, rfl⟩ := List.mem_map.mp hs
    have : j < m := by simpa using hj
    match j, (by omega : j < 4) with
    | 0, _ => exact ⟨by decide +kernel, by decide +kernel⟩
    | 1, _ => exact ⟨by decide +kernel, by decide +kernel⟩
    | 2, _ => exact ⟨by decide +kernel, by decide +kernel⟩
    | 3, _ => exact ⟨by decide +kernel, by decide +kernel⟩
theorem dletter {j : Nat} (h : j < 4) : L2.atI ("abcde" : Str).cps.toList (j : Nat) = some (97 + j) := by
  match j, h with
  | 0, _ => decide +kernel
  | 1, _ => decide +kernel
  | 2, _ => decide +kernel
  | 3, _ => decide +kernel
theorem t19 : tab.defs[19]? = some (df 19) := rfl
theorem ones_flat (m : Nat) : (List.replicate m [D.int 1]).flatten = (List.replicate m (1 : Int)).map D.int := by
  induction m with
  | zero => rfl
  | succ m ih => rw [List.replicate_succ, List.flatten_cons, ih, List.replicate_succ]; rfl
theorem ok_mulT {S : Store} {Q : D → Store → Prop} {xs : List D} {k : Int} (h : 1 ≤ k ∧ k ≤ 1000 ∧ xs.length ≤ 1000 ∧ xs ≠ []) : Ok (binop .Mult (.tup xs) (.int k) S) Q = Q (.tup (List.replicate k.toNat xs).flatten) S := by
  unfold binop
  dsimp only
  unfold mulD
  dsimp only
  rw [if_pos h]; rfl
section
variable {d t N n : Nat} {S : Store} {Q : D → Store → Prop}
theorem doubled_ok (hN : N < CAP) (D0 : Deck d t N S) (hQ : ∀ S', Q (.bl true) S') : Ok (callN tab (n + 5) 19 [.loc d] S) Q := by
  refine ok_call t19 rfl ?_
  simp only [df, b19, List.map_cons, List.map_nil, List.replicate, List.cons_append, List.nil_append, List.getElem?_cons_zero, List.getElem?_cons_succ, List.set_cons_zero, List.set_cons_succ, Nat.reduceSub, Nat.reduceAdd, List.length_cons, List.length_nil]
  refine seq_nx (P := fun η' S' => ∃ (m L : Nat), 1 ≤ m ∧ m < 5 ∧ η' = [some (.loc d), some (.int (1 + ((m - 1 : Nat) : Int))), some (DTn 0), some (.loc L), none, none, none] ∧ S'[L]? = some (.lst ((dnm 0).map .str))) ?_ ?_
  · simp only [el_nil, el_cons, es_pass, es_brk, es_cnt, es_retN, es_ret, es_exp, es_asg, es_par, es_par3, es_aug, es_ite, es_for, es_step, es_whl, ev_var, ev_glb, ev_non, ev_bl, ev_int, ev_str, ev_bin, ev_neg, ev_cmp, ev_not, ev_ife, ev_tup, ev_lst, ev_dct, ev_idx, ev_slc, ev_rev, ev_call, ev_callk, ev_bi, ev_mth, ev_lcp, ev_ssc, ev_and1, ev_and2, ev_or1, ev_or2, ev_nil, ev_cons, ev_pnil, ev_pcons, ev_onone, ev_osome, et_cmp, et_chn, et_not, et_bl, et_var, et_call, et_bi, et_idx, et_and1, et_and2, et_or1, et_or2, ec_none, ec_some, eg_name, eg_sub, eg_tup, eg_nil, eg_cons, ei_val, ei_rng1, ei_rng2, List.map_cons, List.map_nil, List.replicate, List.cons_append, List.nil_append, List.getElem?_cons_zero, List.getElem?_cons_succ, List.set_cons_zero, List.set_cons_succ, Nat.reduceSub, Nat.reduceAdd, List.length_cons, List.length_nil]
    refine drawQ (by decide) (by decide) hN D0 fun k S1 hk D1 f1 => ?_
    rw [ok_addI]
    refine ⟨by decide, by decide, trivial, k + 1, _, by omega, by omega, rfl, get_new⟩
  rintro _ S1 ⟨m, L, hm1, hm5, rfl, hL⟩
  have hmi : (1 + ((m - 1 : Nat) : Int)) = (m : Int) := by omega
  rw [hmi]
  clear hmi
  generalize hmi : ((m : Nat) : Int) = mi
  have hm0 : mi.toNat = m := by omega
  simp only [el_nil, el_cons, es_pass, es_brk, es_cnt, es_retN, es_ret, es_exp, es_asg, es_par, es_par3, es_aug, es_ite, es_for, es_step, es_whl, ev_var, ev_glb, ev_non, ev_bl, ev_int, ev_str, ev_bin, ev_neg, ev_cmp, ev_not, ev_ife, ev_tup, ev_lst, ev_dct, ev_idx, ev_slc, ev_rev, ev_call, ev_callk, ev_bi, ev_mth, ev_lcp, ev_ssc, ev_and1, ev_and2, ev_or1, ev_or2, ev_nil, ev_cons, ev_pnil, ev_pcons, ev_onone, ev_osome, et_cmp, et_chn, et_not, et_bl, et_var, et_call, et_bi, et_idx, et_and1, et_and2, et_or1, et_or2, ec_none, ec_some, eg_name, eg_sub, eg_tup, eg_nil, eg_cons, ei_val, ei_rng1, ei_rng2, List.map_cons, List.map_nil, List.replicate, List.cons_append, List.nil_append, List.getElem?_cons_zero, List.getElem?_cons_succ, List.set_cons_zero, List.set_cons_succ, Nat.reduceSub, Nat.reduceAdd, List.length_cons, List.length_nil]
  refine ⟨_, rfl, by rw [← hmi]; exact bd62_nat (by omega), ?_⟩
  rw [hm0]
  refine for_ok (fun j η' S' => ∃ (e5 e6 : Option D), η' = [some (.loc d), some (.int mi), some (DTn j), some (.loc L), some (.int (DZn j : Nat)), e5, e6] ∧ S'[L]? = some (.lst ((dnm j).map .str))) ⟨_, _, rfl, hL⟩ ?_ ?_
  · rintro j x η' S' hx ⟨e5, e6, rfl, hL'⟩
    refine ⟨rfl, ?_⟩
    obtain ⟨rfl, hj⟩ := rngD_get hx
    rw [es_step, eg_name]
    have hj0 : (0 + ((j : Nat) : Int)) = j := by omega
    rw [hj0]
    generalize hji : ((j : Nat) : Int) = ji
    generalize hzi : ((DZn j : Nat) : Int) = zi
    simp only [el_nil, el_cons, es_pass, es_brk, es_cnt, es_retN, es_ret, es_exp, es_asg, es_par, es_par3, es_aug, es_ite, es_for, es_step, es_whl, ev_var, ev_glb, ev_non, ev_bl, ev_int, ev_str, ev_bin, ev_neg, ev_cmp, ev_not, ev_ife, ev_tup, ev_lst, ev_dct, ev_idx, ev_slc, ev_rev, ev_call, ev_callk, ev_bi, ev_mth, ev_lcp, ev_ssc, ev_and1, ev_and2, ev_or1, ev_or2, ev_nil, ev_cons, ev_pnil, ev_pcons, ev_onone, ev_osome, et_cmp, et_chn, et_not, et_bl, et_var, et_call, et_bi, et_idx, et_and1, et_and2, et_or1, et_or2, ec_none, ec_some, eg_name, eg_sub, eg_tup, eg_nil, eg_cons, ei_val, ei_rng1, ei_rng2, List.map_cons, List.map_nil, List.replicate, List.cons_append, List.nil_append, List.getElem?_cons_zero, List.getElem?_cons_succ, List.set_cons_zero, List.set_cons_succ, Nat.reduceSub, Nat.reduceAdd, List.length_cons, List.length_nil]
    rw [ok_getS (by decide +kernel) (by rw [← hji]; exact dletter (by omega))]
    refine ⟨(recv_lst hL').1, ?_⟩
    rw [ok_append hL' (by simp [dnm, sizeLine_eq]; omega)]
    refine ⟨by decide, by decide, by decide, ?_⟩
    rw [ok_mulI (mulOk_l (by decide) (by decide)), ok_addI]
    refine ⟨some (.int ji), some (.str ⟨#[97 + j]⟩), ?_, ?_⟩
    · have : (2 * zi + 1) = ((DZn (j + 1) : Nat) : Int) := by rw [← hzi, DZn]; omega
      rw [this]
      rfl
    · rw [get_set hL']
      simp [dnm, List.range_succ, dch]
  rintro η' S2 ⟨e5, e6, rfl, hL2⟩
  refine ⟨rfl, ?_⟩
  have hlen : (rngD 0 m).length = m := rngD_len
  rw [hlen] at hL2 ⊢
  generalize hzi : ((DZn m : Nat) : Int) = zi
  simp only [el_nil, el_cons, es_pass, es_brk, es_cnt, es_retN, es_ret, es_exp, es_asg, es_par, es_par3, es_aug, es_ite, es_for, es_step, es_whl, ev_var, ev_glb, ev_non, ev_bl, ev_int, ev_str, ev_bin, ev_neg, ev_cmp, ev_not, ev_ife, ev_tup, ev_lst, ev_dct, ev_idx, ev_slc, ev_rev, ev_call, ev_callk, ev_bi, ev_mth, ev_lcp, ev_ssc, ev_and1, ev_and2, ev_or1, ev_or2, ev_nil, ev_cons, ev_pnil, ev_pcons, ev_onone, ev_osome, et_cmp, et_chn, et_not, et_bl, et_var, et_call, et_bi, et_idx, et_and1, et_and2, et_or1, et_or2, ec_none, ec_some, eg_name, eg_sub, eg_tup, eg_nil, eg_cons, ei_val, ei_rng1, ei_rng2, List.map_cons, List.map_nil, List.replicate, List.cons_append, List.nil_append, List.getElem?_cons_zero, List.getElem?_cons_succ, List.set_cons_zero, List.set_cons_succ, Nat.reduceSub, Nat.reduceAdd, List.length_cons, List.length_nil]
  rw [← dat hm5]
  refine size_ok (n := n) (T := DT) (i := m) dlay dsz (by show m < 5; omega) (by rw [dzat hm5]; exact dzle hm5) fun A1 j1 => ?_
  rw [dzat hm5, hzi]
  refine if_some (cmpNe (eq_int)) ?_
  simp only [beq_self_eq_true, Bool.not_true, Bool.false_eq_true, if_false]
  refine names_ok (n := n) (T := DT) (i := m) dlay dsz (by show m < 5; omega) (by rw [dzat hm5]; exact dzle hm5) fun ss A2 j2 hss => ?_
  have hL3 : A2[L]? = some (.lst ((dnm m).map .str)) := j2 _ _ (j1 _ _ hL2)
  have hlen : (dnm m).length < 64 := by simp [dnm]; omega
  rw [ok_sortedS hL3 (allStrs_map _) hlen, ok_tupleL get_new]
  rw [sort_same (nodup_dedup ss) (dnd m hm5) fun s => by rw [mem_dedup, hss, dnin m hm5]]
  have hnm : ∀ s ∈ sortStr (dnm m), nameOk s := fun s hs => dnms m hm5 s ((sortStr_perm (dnm m)).mem_iff.mp hs)
  have hl64 : (sortStr (dnm m)).length < 64 := by rw [(sortStr_perm (dnm m)).length_eq]; exact hlen
  generalize sortStr (dnm m) = us at hnm hl64 ⊢
  obtain ⟨u1, u2, u3⟩ := names_p us hnm
  have kt : PD (.tup (us.map .str)) (.tuple (us.map .str)) := pd_tup (pds_strs us)
  have kf : Fine (.tuple (us.map .str)) := one_fine (by simp only [nice]; exact u1) (by simp only [PyData.depth]; omega) (by simp only [PyData.weight]; omega)
  have kd : (PyData.tuple (us.map .str)).depth ≤ DEEP := Nat.le_trans kf.depth (by decide)
  refine if_some (cmpNe (eq_same (kt _ _ kd) (kt _ _ kd) kf)) ?_
  simp only [Bool.not_true, Bool.false_eq_true, if_false]
  rw [ok_mulT (by simp; omega), hm0, ones_flat]
  refine ⟨by decide, ?_⟩
  refine part_ok (n := n + 1) (T := DT) (i := m) dlay (by show m < 5; omega) _ ?_
  rw [dwalk m hm5]
  have kg : PD (at_ DT 0) (.tuple [.str "given", .str "f"]) := pd_tup (pds_strs ["given", "f"])
  have kgf : Fine (.tuple [.str "given", .str "f"]) := ⟨by decide +kernel, by decide +kernel, by decide +kernel⟩
  have kgd : (PyData.tuple [.str "given", .str "f"]).depth ≤ DEEP := by decide +kernel
  refine ⟨by decide, ?_⟩
  refine if_some (cmpEq (eq_same (kg _ _ kgd) (kg _ _ kgd) kgf)) ?_
  exact hQ _
end
end Law
namespace Law
open PySem PySem.Spec PyProof.Rows L2 Fw
theorem t20 : tab.defs[20]? = some (df 20) := rfl
theorem fx_at {ps : List (Nat × Nat)} {i : Nat} (h : i < ps.length) : (ps.map fx)[i]? = some (fx (pk ps i)) := by
  rw [List.getElem?_map, List.getElem?_eq_getElem h]
  unfold pk
  rw [List.getD_eq_getElem?_getD, List.getElem?_eq_getElem h]; rfl
theorem law_ok (ns : List Int) {Q : D → Store → Prop} (hQ : ∀ S', Q (.bl true) S') : Ok (callN tab 100 20 [.fzl (ns.map D.int)] []) Q := by
  refine ok_call (n := 99) t20 rfl ?_
  simp only [df, b20, List.map_cons, List.map_nil, List.replicate, List.cons_append, List.nil_append, List.getElem?_cons_zero, List.getElem?_cons_succ, List.set_cons_zero, List.set_cons_succ, Nat.reduceSub, Nat.reduceAdd, List.length_cons, List.length_nil]
  refine seq_nx (P := fun η' S' => ∃ d t, η' = [some (.fzl (ns.map D.int)), some (.loc d), none, none, none, none, none, none] ∧ Deck d t 0 S') ?_ ?_
  · simp only [el_nil, el_cons, es_pass, es_brk, es_cnt, es_retN, es_ret, es_exp, es_asg, es_par, es_par3, es_aug, es_ite, es_for, es_step, es_whl, ev_var, ev_glb, ev_non, ev_bl, ev_int, ev_str, ev_bin, ev_neg, ev_cmp, ev_not, ev_ife, ev_tup, ev_lst, ev_dct, ev_idx, ev_slc, ev_rev, ev_call, ev_callk, ev_bi, ev_mth, ev_lcp, ev_ssc, ev_and1, ev_and2, ev_or1, ev_or2, ev_nil, ev_cons, ev_pnil, ev_pcons, ev_onone, ev_osome, et_cmp, et_chn, et_not, et_bl, et_var, et_call, et_bi, et_idx, et_and1, et_and2, et_or1, et_or2, ec_none, ec_some, eg_name, eg_sub, eg_tup, eg_nil, eg_cons, ei_val, ei_rng1, ei_rng2, List.map_cons, List.map_nil, List.replicate, List.cons_append, List.nil_append, List.getElem?_cons_zero, List.getElem?_cons_succ, List.set_cons_zero, List.set_cons_succ, Nat.reduceSub, Nat.reduceAdd, List.length_cons, List.length_nil]
    refine well_ok (n := 98) ns fun d t S' D1 _ => ?_
    exact ⟨trivial, d, t, rfl, D1⟩
  rintro _ S1 ⟨d, t, rfl, D1⟩
  refine seq_nx (P := fun η' S' => ∃ e2 e3 e4 e5 e6 e7, η' = [some (.fzl (ns.map D.int)), some (.loc d), e2, e3, e4, e5, e6, e7] ∧ Deck d t 24000 S') ?_ ?_
  · simp only [el_nil, el_cons, es_pass, es_brk, es_cnt, es_retN, es_ret, es_exp, es_asg, es_par, es_par3, es_aug, es_ite, es_for, es_step, es_whl, ev_var, ev_glb, ev_non, ev_bl, ev_int, ev_str, ev_bin, ev_neg, ev_cmp, ev_not, ev_ife, ev_tup, ev_lst, ev_dct, ev_idx, ev_slc, ev_rev, ev_call, ev_callk, ev_bi, ev_mth, ev_lcp, ev_ssc, ev_and1, ev_and2, ev_or1, ev_or2, ev_nil, ev_cons, ev_pnil, ev_pcons, ev_onone, ev_osome, et_cmp, et_chn, et_not, et_bl, et_var, et_call, et_bi, et_idx, et_and1, et_and2, et_or1, et_or2, ec_none, ec_some, eg_name, eg_sub, eg_tup, eg_nil, eg_cons, ei_val, ei_rng1, ei_rng2, List.map_cons, List.map_nil, List.replicate, List.cons_append, List.nil_append, List.getElem?_cons_zero, List.getElem?_cons_succ, List.set_cons_zero, List.set_cons_succ, Nat.reduceSub, Nat.reduceAdd, List.length_cons, List.length_nil]
    refine ⟨_, rfl, by decide +kernel, ?_⟩
    refine for_ok (fun j η' S' => ∃ e2 e3 e4 e5 e6 e7, η' = [some (.fzl (ns.map D.int)), some (.loc d), e2, e3, e4, e5, e6, e7] ∧ Deck d t (6000 * j) S') ⟨_, _, _, _, _, _, rfl, D1⟩ ?_ ?_
    · rintro j x η' S' hx ⟨e2, e3, e4, e5, e6, e7, rfl, D2⟩
      refine ⟨rfl, ?_⟩
      obtain ⟨_, hj⟩ := rngD_get hx
      have hj : j < 4 := hj
      rw [es_step, eg_name]
      simp only [List.map_cons, List.map_nil, List.replicate, List.cons_append, List.nil_append, List.getElem?_cons_zero, List.getElem?_cons_succ, List.set_cons_zero, List.set_cons_succ, Nat.reduceSub, Nat.reduceAdd, List.length_cons, List.length_nil]
      refine seq_nx (P := fun η' S' => ∃ e2 e4 e5 e6 e7 P Fl Tl rows ds fl tl, η' = [some (.fzl (ns.map D.int)), some (.loc d), e2, some (.loc P), e4, e5, e6, e7] ∧ PSt d t P Fl Tl (6000 * j + 400) S' rows ds fl tl ∧ rows.length ≤ 12) ?_ ?_
      · simp only [el_nil, el_cons, es_pass, es_brk, es_cnt, es_retN, es_ret, es_exp, es_asg, es_par, es_par3, es_aug, es_ite, es_for, es_step, es_whl, ev_var, ev_glb, ev_non, ev_bl, ev_int, ev_str, ev_bin, ev_neg, ev_cmp, ev_not, ev_ife, ev_tup, ev_lst, ev_dct, ev_idx, ev_slc, ev_rev, ev_call, ev_callk, ev_bi, ev_mth, ev_lcp, ev_ssc, ev_and1, ev_and2, ev_or1, ev_or2, ev_nil, ev_cons, ev_pnil, ev_pcons, ev_onone, ev_osome, et_cmp, et_chn, et_not, et_bl, et_var, et_call, et_bi, et_idx, et_and1, et_and2, et_or1, et_or2, ec_none, ec_some, eg_name, eg_sub, eg_tup, eg_nil, eg_cons, ei_val, ei_rng1, ei_rng2, List.map_cons, List.map_nil, List.replicate, List.cons_append, List.nil_append, List.getElem?_cons_zero, List.getElem?_cons_succ, List.set_cons_zero, List.set_cons_succ, Nat.reduceSub, Nat.reduceAdd, List.length_cons, List.length_nil]
        refine plan_ok (n := 95) (by show _ < 4611686018427387904; omega) D2 fun P Fl Tl rows ds fl tl S' hp hn _ => ?_
        exact ⟨trivial, _, _, _, _, _, P, Fl, Tl, rows, ds, fl, tl, rfl, hp, hn⟩
      rintro _ S2 ⟨e2, e4, e5, e6, e7, P, Fl, Tl, rows, ds, fl, tl, rfl, hp, hn⟩
      have ok := hp.rowsOk
      have pf := hp.planF
      have D3 := hp.dk
      clear hp
      refine seq_nx (P := fun η' S' => ∃ e2 e6 e7 TL DL T ps, η' = [some (.fzl (ns.map D.int)), some (.loc d), e2, some (.loc P), some (.loc TL), some (.loc DL), e6, e7] ∧ Rd d t (6000 * j + 400) P TL S' rows ds T ∧ Lay rows T ∧ Dq rows rows.length ps ∧ S'[DL]? = some (.lst (ps.map fx)) ∧ DL ≠ d ∧ DL ≠ t) ?_ ?_
      · simp only [el_nil, el_cons, es_pass, es_brk, es_cnt, es_retN, es_ret, es_exp, es_asg, es_par, es_par3, es_aug, es_ite, es_for, es_step, es_whl, ev_var, ev_glb, ev_non, ev_bl, ev_int, ev_str, ev_bin, ev_neg, ev_cmp, ev_not, ev_ife, ev_tup, ev_lst, ev_dct, ev_idx, ev_slc, ev_rev, ev_call, ev_callk, ev_bi, ev_mth, ev_lcp, ev_ssc, ev_and1, ev_and2, ev_or1, ev_or2, ev_nil, ev_cons, ev_pnil, ev_pcons, ev_onone, ev_osome, et_cmp, et_chn, et_not, et_bl, et_var, et_call, et_bi, et_idx, et_and1, et_and2, et_or1, et_or2, ec_none, ec_some, eg_name, eg_sub, eg_tup, eg_nil, eg_cons, ei_val, ei_rng1, ei_rng2, List.map_cons, List.map_nil, List.replicate, List.cons_append, List.nil_append, List.getElem?_cons_zero, List.getElem?_cons_succ, List.set_cons_zero, List.set_cons_succ, Nat.reduceSub, Nat.reduceAdd, List.length_cons, List.length_nil]
        refine mk_terms (n := 98) ok pf.at hn fun TL T A1 j1 hT Ly hl1 => ?_
        have pf1 := pf.step j1.frm
        refine mk_deep (n := 98) ok pf1.at hn fun DL ps A2 j2 hD Dp hl2 => ?_
        have hdt := D3.lt
        have hdt2 := (D3.keep j1).lt
        exact ⟨trivial, _, _, _, TL, DL, T, ps, rfl, ⟨(D3.keep j1).keep j2, pf1.step j2.frm, j2 _ _ hT, by omega⟩, Ly, Dp, hD, by omega⟩
      rintro _ S3 ⟨e2, e6, e7, TL, DL, T, ps, rfl, R, Ly, Dp, hD, hDd, hDt⟩
      have hlP : ds.length = rows.length := pf.len
      simp only [el_nil, el_cons, es_pass, es_brk, es_cnt, es_retN, es_ret, es_exp, es_asg, es_par, es_par3, es_aug, es_ite, es_for, es_step, es_whl, ev_var, ev_glb, ev_non, ev_bl, ev_int, ev_str, ev_bin, ev_neg, ev_cmp, ev_not, ev_ife, ev_tup, ev_lst, ev_dct, ev_idx, ev_slc, ev_rev, ev_call, ev_callk, ev_bi, ev_mth, ev_lcp, ev_ssc, ev_and1, ev_and2, ev_or1, ev_or2, ev_nil, ev_cons, ev_pnil, ev_pcons, ev_onone, ev_osome, et_cmp, et_chn, et_not, et_bl, et_var, et_call, et_bi, et_idx, et_and1, et_and2, et_or1, et_or2, ec_none, ec_some, eg_name, eg_sub, eg_tup, eg_nil, eg_cons, ei_val, ei_rng1, ei_rng2, List.map_cons, List.map_nil, List.replicate, List.cons_append, List.nil_append, List.getElem?_cons_zero, List.getElem?_cons_succ, List.set_cons_zero, List.set_cons_succ, Nat.reduceSub, Nat.reduceAdd, List.length_cons, List.length_nil]
      rw [ok_lenL R.pl.pl, hlP]
      refine ⟨_, rfl, bd62_nat (by omega), ?_⟩
      have e : ((rows.length : Nat) : Int).toNat = rows.length := Int.toNat_natCast _
      rw [e]
      refine for_ok (fun i η' S' => ∃ e2 e6 e7, η' = [some (.fzl (ns.map D.int)), some (.loc d), e2, some (.loc P), some (.loc TL), some (.loc DL), e6, e7] ∧ Rd d t (6000 * j + 400 + 400 * i) P TL S' rows ds T ∧ S'[DL]? = some (.lst (ps.map fx))) ⟨_, _, _, rfl, R, hD⟩ ?_ ?_
      · rintro i x η' S' hx ⟨e2, e6, e7, rfl, R', hD'⟩
        refine ⟨rfl, ?_⟩
        obtain ⟨rfl, hi⟩ := rngD_get hx
        have hj0 : (0 + ((i : Nat) : Int)) = i := by omega
        rw [es_step, eg_name, hj0]
        generalize hji : ((i : Nat) : Int) = ji
        simp only [List.map_cons, List.map_nil, List.replicate, List.cons_append, List.nil_append, List.getElem?_cons_zero, List.getElem?_cons_succ, List.set_cons_zero, List.set_cons_succ, Nat.reduceSub, Nat.reduceAdd, List.length_cons, List.length_nil]
        have hips : (ps.map fx)[i]? = some (fx (pk ps i)) := fx_at (by rw [Dp.len]; exact hi)
        simp only [el_nil, el_cons, es_pass, es_brk, es_cnt, es_retN, es_ret, es_exp, es_asg, es_par, es_par3, es_aug, es_ite, es_for, es_step, es_whl, ev_var, ev_glb, ev_non, ev_bl, ev_int, ev_str, ev_bin, ev_neg, ev_cmp, ev_not, ev_ife, ev_tup, ev_lst, ev_dct, ev_idx, ev_slc, ev_rev, ev_call, ev_callk, ev_bi, ev_mth, ev_lcp, ev_ssc, ev_and1, ev_and2, ev_or1, ev_or2, ev_nil, ev_cons, ev_pnil, ev_pcons, ev_onone, ev_osome, et_cmp, et_chn, et_not, et_bl, et_var, et_call, et_bi, et_idx, et_and1, et_and2, et_or1, et_or2, ec_none, ec_some, eg_name, eg_sub, eg_tup, eg_nil, eg_cons, ei_val, ei_rng1, ei_rng2, List.map_cons, List.map_nil, List.replicate, List.cons_append, List.nil_append, List.getElem?_cons_zero, List.getElem?_cons_succ, List.set_cons_zero, List.set_cons_succ, Nat.reduceSub, Nat.reduceAdd, List.length_cons, List.length_nil]
        rw [ok_getL hD' (by rw [← hji]; exact Fw.atI_nat hips)]
        unfold fx
        rw [ok_getT atI1, ok_getL hD' (by rw [← hji]; exact Fw.atI_nat hips)]
        unfold fx
        rw [ok_getT atI0]
        refine if_some cmpLe ?_
        by_cases h12 : (((pk ps i).1 : Nat) : Int) ≤ 12
        · rw [decide_eq_true h12]
          simp only [if_true]
          refine if_some cmpLe ?_
          by_cases h60 : (((pk ps i).2 : Nat) : Int) ≤ 60
          · rw [decide_eq_true h60]
            simp only [if_true]
            rw [← hji]
            refine right_ok (n := 94) (by show _ < 4611686018427387904; omega) R' Ly Dp ok hi hn (by omega) (by omega) fun A1 D4 f4 => ?_
            have e3 : truth (.bl true) A1 = .ok true A1 := rfl
            rw [e3]
            simp only [ok_ok, Bool.not_true, Bool.false_eq_true, if_false]
            exact ⟨_, _, _, rfl, (R'.step D4 f4), f4 _ _ hD' hDd hDt⟩
          · rw [decide_eq_false h60]
            simp only [Bool.false_eq_true, if_false]
            exact ⟨_, _, _, rfl, R'.step (R'.dk.more (by omega)) Frm.refl, hD'⟩
        · rw [decide_eq_false h12]
          simp only [Bool.false_eq_true, if_false]
          exact ⟨_, _, _, rfl, R'.step (R'.dk.more (by omega)) Frm.refl, hD'⟩
      · rintro η' S' ⟨e2, e6, e7, rfl, R', hD'⟩
        refine ⟨rfl, ?_⟩
        simp only [el_nil, el_cons, es_pass, es_brk, es_cnt, es_retN, es_ret, es_exp, es_asg, es_par, es_par3, es_aug, es_ite, es_for, es_step, es_whl, ev_var, ev_glb, ev_non, ev_bl, ev_int, ev_str, ev_bin, ev_neg, ev_cmp, ev_not, ev_ife, ev_tup, ev_lst, ev_dct, ev_idx, ev_slc, ev_rev, ev_call, ev_callk, ev_bi, ev_mth, ev_lcp, ev_ssc, ev_and1, ev_and2, ev_or1, ev_or2, ev_nil, ev_cons, ev_pnil, ev_pcons, ev_onone, ev_osome, et_cmp, et_chn, et_not, et_bl, et_var, et_call, et_bi, et_idx, et_and1, et_and2, et_or1, et_or2, ec_none, ec_some, eg_name, eg_sub, eg_tup, eg_nil, eg_cons, ei_val, ei_rng1, ei_rng2, List.map_cons, List.map_nil, List.replicate, List.cons_append, List.nil_append, List.getElem?_cons_zero, List.getElem?_cons_succ, List.set_cons_zero, List.set_cons_succ, Nat.reduceSub, Nat.reduceAdd, List.length_cons, List.length_nil]
        rw [rngD_len] at R'
        exact ⟨_, _, _, _, _, _, rfl, R'.dk.more (by omega)⟩
    · rintro η' S' ⟨e2, e3, e4, e5, e6, e7, rfl, D2⟩
      exact ⟨rfl, rfl, _, _, _, _, _, _, rfl, D2⟩
  rintro _ S2 ⟨e2, e3, e4, e5, e6, e7, rfl, D2⟩
  simp only [el_nil, el_cons, es_pass, es_brk, es_cnt, es_retN, es_ret, es_exp, es_asg, es_par, es_par3, es_aug, es_ite, es_for, es_step, es_whl, ev_var, ev_glb, ev_non, ev_bl, ev_int, ev_str, ev_bin, ev_neg, ev_cmp, ev_not, ev_ife, ev_tup, ev_lst, ev_dct, ev_idx, ev_slc, ev_rev, ev_call, ev_callk, ev_bi, ev_mth, ev_lcp, ev_ssc, ev_and1, ev_and2, ev_or1, ev_or2, ev_nil, ev_cons, ev_pnil, ev_pcons, ev_onone, ev_osome, et_cmp, et_chn, et_not, et_bl, et_var, et_call, et_bi, et_idx, et_and1, et_and2, et_or1, et_or2, ec_none, ec_some, eg_name, eg_sub, eg_tup, eg_nil, eg_cons, ei_val, ei_rng1, ei_rng2, List.map_cons, List.map_nil, List.replicate, List.cons_append, List.nil_append, List.getElem?_cons_zero, List.getElem?_cons_succ, List.set_cons_zero, List.set_cons_succ, Nat.reduceSub, Nat.reduceAdd, List.length_cons, List.length_nil]
  exact doubled_ok (n := 94) (by decide) D2 hQ
theorem pure_law : ∀ ns : List Int, ns.length ≤ 63 → ∃ S', callN tab 100 20 [.fzl (ns.map D.int)] [] = .ok (.bl true) S' := fun ns _ => by
  obtain ⟨d, S', e, q⟩ := (law_ok ns (Q := fun d _ => d = .bl true) fun _ => rfl).ex
  subst q
  exact ⟨S', e⟩
end Law
namespace Law
open PySem PySem.Spec PyProof.Rows L2 Fw
abbrev topS (i : Nat) : Stmt := PySem.Challenge.pw_anycaller_k07_parts_sizes_names.main.body.getD i (.Pass ⟨0,0,0,0⟩)
theorem chk0 : chkSb ⟨["term"], L2.defScope (topS 1), nm, none⟩ b0 (L2.defBody (topS 1)) = true := by decide +kernel
theorem chk1 : chkSb ⟨["term"], L2.defScope (topS 2), nm, none⟩ b1 (L2.defBody (topS 2)) = true := by decide +kernel
theorem chk2 : chkSb ⟨["term"], L2.defScope (topS 3), nm, none⟩ b2 (L2.defBody (topS 3)) = true := by decide +kernel
theorem chk3 : chkSb ⟨["term", "way", "number", "parts"], L2.defScope (topS 4), nm, none⟩ b3 (L2.defBody (topS 4)) = true := by decide +kernel
theorem chk4 : chkSb ⟨["term", "found", "at"], L2.defScope (topS 5), nm, none⟩ b4 (L2.defBody (topS 5)) = true := by decide +kernel
theorem chk5 : chkSb ⟨["term"], L2.defScope (topS 6), nm, none⟩ b5 (L2.defBody (topS 6)) = true := by decide +kernel
theorem chk6 : chkSb ⟨["term", "one"], L2.defScope (topS 7), nm, none⟩ b6 (L2.defBody (topS 7)) = true := by decide +kernel
theorem chk7 : chkSb ⟨["_law_script", "_law_told", "_law_blend", "_law_number"], L2.defScope (topS 9), nm, none⟩ b7 (L2.defBody (topS 9)) = true := by decide +kernel
theorem chk8 : chkSb ⟨["_law_well_here", "_law_many", "_law_seed", "_law_number"], L2.defScope (topS 10), nm, none⟩ b8 (L2.defBody (topS 10)) = true := by decide +kernel
theorem chk9 : chkSb ⟨["_law_well_here", "_law_some"], L2.defScope (topS 11), nm, none⟩ b9 (L2.defBody (topS 11)) = true := by decide +kernel
theorem chk10 : chkSb ⟨["_law_well_here", "_law_k"], L2.defScope (topS 12), nm, none⟩ b10 (L2.defBody (topS 12)) = true := by decide +kernel
theorem chk11 : chkSb ⟨["_law_plan_here", "_law_word", "_law_name_here", "_law_functions", "_law_tasks"], L2.defScope (topS 13), nm, none⟩ b11 (L2.defBody (topS 13)) = true := by decide +kernel
theorem chk12 : chkSb ⟨["_law_well_here", "_law_plan_here", "_law_functions", "_law_tasks", "_law_k", "_law_word", "_law_some", "_law_j", "_law_many", "_law_more", "_law_number"], L2.defScope (topS 14), nm, none⟩ b12 (L2.defBody (topS 14)) = true := by decide +kernel
theorem chk13 : chkSb ⟨["_law_plan_here", "_law_found", "_law_word", "_law_name_here", "_law_functions", "_law_tasks", "_law_inner", "_law_number", "_law_deep_here", "_law_many"], L2.defScope (topS 15), nm, none⟩ b13 (L2.defBody (topS 15)) = true := by decide +kernel
theorem chk14 : chkSb ⟨["_law_plan_here", "_law_found", "_law_word", "_law_name_here", "_law_functions", "_law_tasks", "_law_some", "_law_more", "_law_number"], L2.defScope (topS 16), nm, none⟩ b14 (L2.defBody (topS 16)) = true := by decide +kernel
theorem chk15 : chkSb ⟨["_law_plan_here", "_law_row", "_law_route", "_law_number", "_law_inner"], L2.defScope (topS 17), nm, none⟩ b15 (L2.defBody (topS 17)) = true := by decide +kernel
theorem chk16 : chkSb ⟨["_law_plan_here", "_law_row", "_law_waiting", "_law_found", "_law_word", "_law_name_here", "_law_functions", "_law_tasks"], L2.defScope (topS 18), nm, none⟩ b16 (L2.defBody (topS 18)) = true := by decide +kernel
theorem chk17 : chkSb ⟨["_law_well_here", "_law_plan_here", "_law_row", "_law_found", "_law_inner", "_law_many"], L2.defScope (topS 19), nm, none⟩ b17 (L2.defBody (topS 19)) = true := by decide +kernel
theorem chk18 : chkSb ⟨["_law_well_here", "_law_plan_here", "_law_terms_here", "_law_row", "_law_many", "_law_shape", "_law_was", "_law_inner", "_law_number", "_law_names", "_law_turn", "_law_route", "_law_at", "_law_due"], L2.defScope (topS 20), nm, none⟩ b18 (L2.defBody (topS 20)) = true := by decide +kernel
theorem chk19 : chkSb ⟨["_law_well_here", "_law_many", "_law_shape", "_law_names", "_law_due", "_law_k", "_law_name_here"], L2.defScope (topS 21), nm, none⟩ b19 (L2.defBody (topS 21)) = true := by decide +kernel
theorem chk20 : chkSb ⟨["_law_script", "_law_well_here", "_law_turn", "_law_plan_here", "_law_terms_here", "_law_deep_here", "_law_row", "_law_many"], L2.defScope (topS 22), nm, none⟩ b20 (L2.defBody (topS 22)) = true := by decide +kernel
theorem sc0 : FnScope ["term"] ["term"] (L2.defScope (topS 1)) := ⟨rfl, rfl, rfl, by decide, rfl, by decide, by decide⟩
theorem hd0 {K : PySem.W.Frag} {mg : Str → Option Value} {f : Addr} {od an : Option Addr} {sl : Array (Option Value)} {oc kV dc pm cd ct : Value} (m : mg "functions_of" = some (.ref f))
    (l : K.lookup f = some ⟨oc, od, .func (PySem.W.fnOf "functions_of" "functions_of" (L2.defArgs (topS 1)) (L2.defBody (topS 1)) (L2.defScope (topS 1)) .none kV dc pm an cd ct), sl⟩) (c : PySem.W.codeIn K cd "functions_of" = true) (k : PySem.W.keepIn K (.ref f) = true) :
    HdOk K mg tab nm 0 "functions_of" (df 0) ⟨f, "functions_of", "functions_of", L2.defArgs (topS 1), L2.defBody (topS 1), L2.defScope (topS 1), .none, kV, dc, pm, cd, ct, oc, od, an, sl, ["term"], ["term"]⟩ where
  at_ := m
  lk := l
  code := c
  keep := k
  sc := sc0
  binds := L2.Binds.all fun us hl => by
    match us, hl with | [_], _ => rfl
  kws := fun p n ks h => by
    match p, h with
    | 0, h => cases h
    | 1, h => cases h
    | 2, h => cases h
    | 3, h => cases h
    | _ + 4, h => cases h
  chk := chk0
  np := rfl
  ns := rfl
theorem sc1 : FnScope ["term"] ["term"] (L2.defScope (topS 2)) := ⟨rfl, rfl, rfl, by decide, rfl, by decide, by decide⟩
theorem hd1 {K : PySem.W.Frag} {mg : Str → Option Value} {f : Addr} {od an : Option Addr} {sl : Array (Option Value)} {oc kV dc pm cd ct : Value} (m : mg "tasks_of" = some (.ref f))
    (l : K.lookup f = some ⟨oc, od, .func (PySem.W.fnOf "tasks_of" "tasks_of" (L2.defArgs (topS 2)) (L2.defBody (topS 2)) (L2.defScope (topS 2)) .none kV dc pm an cd ct), sl⟩) (c : PySem.W.codeIn K cd "tasks_of" = true) (k : PySem.W.keepIn K (.ref f) = true) :
    HdOk K mg tab nm 1 "tasks_of" (df 1) ⟨f, "tasks_of", "tasks_of", L2.defArgs (topS 2), L2.defBody (topS 2), L2.defScope (topS 2), .none, kV, dc, pm, cd, ct, oc, od, an, sl, ["term"], ["term"]⟩ where
  at_ := m
  lk := l
  code := c
  keep := k
  sc := sc1
  binds := L2.Binds.all fun us hl => by
    match us, hl with | [_], _ => rfl
  kws := fun p n ks h => by
    match p, h with
    | 0, h => cases h
    | 1, h => cases h
    | 2, h => cases h
    | 3, h => cases h
    | _ + 4, h => cases h
  chk := chk1
  np := rfl
  ns := rfl
theorem sc2 : FnScope ["term"] ["term"] (L2.defScope (topS 3)) := ⟨rfl, rfl, rfl, by decide, rfl, by decide, by decide⟩
theorem hd2 {K : PySem.W.Frag} {mg : Str → Option Value} {f : Addr} {od an : Option Addr} {sl : Array (Option Value)} {oc kV dc pm cd ct : Value} (m : mg "parts_of" = some (.ref f))
    (l : K.lookup f = some ⟨oc, od, .func (PySem.W.fnOf "parts_of" "parts_of" (L2.defArgs (topS 3)) (L2.defBody (topS 3)) (L2.defScope (topS 3)) .none kV dc pm an cd ct), sl⟩) (c : PySem.W.codeIn K cd "parts_of" = true) (k : PySem.W.keepIn K (.ref f) = true) :
    HdOk K mg tab nm 2 "parts_of" (df 2) ⟨f, "parts_of", "parts_of", L2.defArgs (topS 3), L2.defBody (topS 3), L2.defScope (topS 3), .none, kV, dc, pm, cd, ct, oc, od, an, sl, ["term"], ["term"]⟩ where
  at_ := m
  lk := l
  code := c
  keep := k
  sc := sc2
  binds := L2.Binds.all fun us hl => by
    match us, hl with | [_], _ => rfl
  kws := fun p n ks h => by
    match p, h with
    | 0, h => cases h
    | 1, h => cases h
    | 2, h => cases h
    | 3, h =>
      cases h
      exact ⟨rfl, by decide, fun s us ws _ h1 h2 => by
        match us, h1, ws, h2 with
        | [], _, [_], _ => exact BindsTo.of_eq rfl⟩
    | _ + 4, h => cases h
  chk := chk2
  np := rfl
  ns := rfl
theorem sc3 : FnScope ["term", "way", "number", "parts"] ["term", "way"] (L2.defScope (topS 4)) := ⟨rfl, rfl, rfl, by decide, rfl, by decide, by decide⟩
theorem hd3 {K : PySem.W.Frag} {mg : Str → Option Value} {f : Addr} {od an : Option Addr} {sl : Array (Option Value)} {oc kV dc pm cd ct : Value} (m : mg "part_at" = some (.ref f))
    (l : K.lookup f = some ⟨oc, od, .func (PySem.W.fnOf "part_at" "part_at" (L2.defArgs (topS 4)) (L2.defBody (topS 4)) (L2.defScope (topS 4)) .none kV dc pm an cd ct), sl⟩) (c : PySem.W.codeIn K cd "part_at" = true) (k : PySem.W.keepIn K (.ref f) = true) :
    HdOk K mg tab nm 3 "part_at" (df 3) ⟨f, "part_at", "part_at", L2.defArgs (topS 4), L2.defBody (topS 4), L2.defScope (topS 4), .none, kV, dc, pm, cd, ct, oc, od, an, sl, ["term", "way", "number", "parts"], ["term", "way"]⟩ where
  at_ := m
  lk := l
  code := c
  keep := k
  sc := sc3
  binds := L2.Binds.all fun us hl => by
    match us, hl with | [_, _], _ => rfl
  kws := fun p n ks h => by
    match p, h with
    | 0, h =>
      cases h
      exact ⟨rfl, by decide, fun s us ws _ h1 h2 => by
        match us, h1, ws, h2 with
        | [], _, [_, _], _ => exact BindsTo.of_eq rfl⟩
    | 1, h => cases h
    | 2, h => cases h
    | 3, h => cases h
    | _ + 4, h => cases h
  chk := chk3
  np := rfl
  ns := rfl
theorem sc4 : FnScope ["term", "found", "at"] ["term"] (L2.defScope (topS 5)) := ⟨rfl, rfl, rfl, by decide, rfl, by decide, by decide⟩
theorem hd4 {K : PySem.W.Frag} {mg : Str → Option Value} {f : Addr} {od an : Option Addr} {sl : Array (Option Value)} {oc kV dc pm cd ct : Value} (m : mg "terms_in" = some (.ref f))
    (l : K.lookup f = some ⟨oc, od, .func (PySem.W.fnOf "terms_in" "terms_in" (L2.defArgs (topS 5)) (L2.defBody (topS 5)) (L2.defScope (topS 5)) .none kV dc pm an cd ct), sl⟩) (c : PySem.W.codeIn K cd "terms_in" = true) (k : PySem.W.keepIn K (.ref f) = true) :
    HdOk K mg tab nm 4 "terms_in" (df 4) ⟨f, "terms_in", "terms_in", L2.defArgs (topS 5), L2.defBody (topS 5), L2.defScope (topS 5), .none, kV, dc, pm, cd, ct, oc, od, an, sl, ["term", "found", "at"], ["term"]⟩ where
  at_ := m
  lk := l
  code := c
  keep := k
  sc := sc4
  binds := L2.Binds.all fun us hl => by
    match us, hl with | [_], _ => rfl
  kws := fun p n ks h => by
    match p, h with
    | 0, h => cases h
    | 1, h => cases h
    | 2, h => cases h
    | 3, h => cases h
    | _ + 4, h => cases h
  chk := chk4
  np := rfl
  ns := rfl
theorem sc5 : FnScope ["term"] ["term"] (L2.defScope (topS 6)) := ⟨rfl, rfl, rfl, by decide, rfl, by decide, by decide⟩
theorem hd5 {K : PySem.W.Frag} {mg : Str → Option Value} {f : Addr} {od an : Option Addr} {sl : Array (Option Value)} {oc kV dc pm cd ct : Value} (m : mg "size_of" = some (.ref f))
    (l : K.lookup f = some ⟨oc, od, .func (PySem.W.fnOf "size_of" "size_of" (L2.defArgs (topS 6)) (L2.defBody (topS 6)) (L2.defScope (topS 6)) .none kV dc pm an cd ct), sl⟩) (c : PySem.W.codeIn K cd "size_of" = true) (k : PySem.W.keepIn K (.ref f) = true) :
    HdOk K mg tab nm 5 "size_of" (df 5) ⟨f, "size_of", "size_of", L2.defArgs (topS 6), L2.defBody (topS 6), L2.defScope (topS 6), .none, kV, dc, pm, cd, ct, oc, od, an, sl, ["term"], ["term"]⟩ where
  at_ := m
  lk := l
  code := c
  keep := k
  sc := sc5
  binds := L2.Binds.all fun us hl => by
    match us, hl with | [_], _ => rfl
  kws := fun p n ks h => by
    match p, h with
    | 0, h => cases h
    | 1, h => cases h
    | 2, h =>
      cases h
      exact ⟨rfl, by decide, fun s us ws _ h1 h2 => by
        match us, h1, ws, h2 with
        | [], _, [_], _ => exact BindsTo.of_eq rfl⟩
    | 3, h => cases h
    | _ + 4, h => cases h
  chk := chk5
  np := rfl
  ns := rfl
theorem sc6 : FnScope ["term", "one"] ["term"] (L2.defScope (topS 7)) := ⟨rfl, rfl, rfl, by decide, rfl, by decide, by decide⟩
theorem hd6 {K : PySem.W.Frag} {mg : Str → Option Value} {f : Addr} {od an : Option Addr} {sl : Array (Option Value)} {oc kV dc pm cd ct : Value} (m : mg "names_in" = some (.ref f))
    (l : K.lookup f = some ⟨oc, od, .func (PySem.W.fnOf "names_in" "names_in" (L2.defArgs (topS 7)) (L2.defBody (topS 7)) (L2.defScope (topS 7)) .none kV dc pm an cd ct), sl⟩) (c : PySem.W.codeIn K cd "names_in" = true) (k : PySem.W.keepIn K (.ref f) = true) :
    HdOk K mg tab nm 6 "names_in" (df 6) ⟨f, "names_in", "names_in", L2.defArgs (topS 7), L2.defBody (topS 7), L2.defScope (topS 7), .none, kV, dc, pm, cd, ct, oc, od, an, sl, ["term", "one"], ["term"]⟩ where
  at_ := m
  lk := l
  code := c
  keep := k
  sc := sc6
  binds := L2.Binds.all fun us hl => by
    match us, hl with | [_], _ => rfl
  kws := fun p n ks h => by
    match p, h with
    | 0, h => cases h
    | 1, h =>
      cases h
      exact ⟨rfl, by decide, fun s us ws _ h1 h2 => by
        match us, h1, ws, h2 with
        | [], _, [_], _ => exact BindsTo.of_eq rfl⟩
    | 2, h => cases h
    | 3, h => cases h
    | _ + 4, h => cases h
  chk := chk6
  np := rfl
  ns := rfl
theorem sc7 : FnScope ["_law_script", "_law_told", "_law_blend", "_law_number"] ["_law_script"] (L2.defScope (topS 9)) := ⟨rfl, rfl, rfl, by decide, rfl, by decide, by decide⟩
theorem hd7 {K : PySem.W.Frag} {mg : Str → Option Value} {f : Addr} {od an : Option Addr} {sl : Array (Option Value)} {oc kV dc pm cd ct : Value} (m : mg "_law_well" = some (.ref f))
    (l : K.lookup f = some ⟨oc, od, .func (PySem.W.fnOf "_law_well" "_law_well" (L2.defArgs (topS 9)) (L2.defBody (topS 9)) (L2.defScope (topS 9)) .none kV dc pm an cd ct), sl⟩) (c : PySem.W.codeIn K cd "_law_well" = true) (k : PySem.W.keepIn K (.ref f) = true) :
    HdOk K mg tab nm 7 "_law_well" (df 7) ⟨f, "_law_well", "_law_well", L2.defArgs (topS 9), L2.defBody (topS 9), L2.defScope (topS 9), .none, kV, dc, pm, cd, ct, oc, od, an, sl, ["_law_script", "_law_told", "_law_blend", "_law_number"], ["_law_script"]⟩ where
  at_ := m
  lk := l
  code := c
  keep := k
  sc := sc7
  binds := L2.Binds.all fun us hl => by
    match us, hl with | [_], _ => rfl
  kws := fun p n ks h => by
    match p, h with
    | 0, h => cases h
    | 1, h => cases h
    | 2, h => cases h
    | 3, h => cases h
    | _ + 4, h => cases h
  chk := chk7
  np := rfl
  ns := rfl
theorem sc8 : FnScope ["_law_well_here", "_law_many", "_law_seed", "_law_number"] ["_law_well_here", "_law_many"] (L2.defScope (topS 10)) := ⟨rfl, rfl, rfl, by decide, rfl, by decide, by decide⟩
theorem hd8 {K : PySem.W.Frag} {mg : Str → Option Value} {f : Addr} {od an : Option Addr} {sl : Array (Option Value)} {oc kV dc pm cd ct : Value} (m : mg "_law_drawn" = some (.ref f))
    (l : K.lookup f = some ⟨oc, od, .func (PySem.W.fnOf "_law_drawn" "_law_drawn" (L2.defArgs (topS 10)) (L2.defBody (topS 10)) (L2.defScope (topS 10)) .none kV dc pm an cd ct), sl⟩) (c : PySem.W.codeIn K cd "_law_drawn" = true) (k : PySem.W.keepIn K (.ref f) = true) :
    HdOk K mg tab nm 8 "_law_drawn" (df 8) ⟨f, "_law_drawn", "_law_drawn", L2.defArgs (topS 10), L2.defBody (topS 10), L2.defScope (topS 10), .none, kV, dc, pm, cd, ct, oc, od, an, sl, ["_law_well_here", "_law_many", "_law_seed", "_law_number"], ["_law_well_here", "_law_many"]⟩ where
  at_ := m
  lk := l
  code := c
  keep := k
  sc := sc8
  binds := L2.Binds.all fun us hl => by
    match us, hl with | [_, _], _ => rfl
  kws := fun p n ks h => by
    match p, h with
    | 0, h => cases h
    | 1, h => cases h
    | 2, h => cases h
    | 3, h => cases h
    | _ + 4, h => cases h
  chk := chk8
  np := rfl
  ns := rfl
theorem sc9 : FnScope ["_law_well_here", "_law_some"] ["_law_well_here", "_law_some"] (L2.defScope (topS 11)) := ⟨rfl, rfl, rfl, by decide, rfl, by decide, by decide⟩
theorem hd9 {K : PySem.W.Frag} {mg : Str → Option Value} {f : Addr} {od an : Option Addr} {sl : Array (Option Value)} {oc kV dc pm cd ct : Value} (m : mg "_law_one_of" = some (.ref f))
    (l : K.lookup f = some ⟨oc, od, .func (PySem.W.fnOf "_law_one_of" "_law_one_of" (L2.defArgs (topS 11)) (L2.defBody (topS 11)) (L2.defScope (topS 11)) .none kV dc pm an cd ct), sl⟩) (c : PySem.W.codeIn K cd "_law_one_of" = true) (k : PySem.W.keepIn K (.ref f) = true) :
    HdOk K mg tab nm 9 "_law_one_of" (df 9) ⟨f, "_law_one_of", "_law_one_of", L2.defArgs (topS 11), L2.defBody (topS 11), L2.defScope (topS 11), .none, kV, dc, pm, cd, ct, oc, od, an, sl, ["_law_well_here", "_law_some"], ["_law_well_here", "_law_some"]⟩ where
  at_ := m
  lk := l
  code := c
  keep := k
  sc := sc9
  binds := L2.Binds.all fun us hl => by
    match us, hl with | [_, _], _ => rfl
  kws := fun p n ks h => by
    match p, h with
    | 0, h => cases h
    | 1, h => cases h
    | 2, h => cases h
    | 3, h => cases h
    | _ + 4, h => cases h
  chk := chk9
  np := rfl
  ns := rfl
theorem sc10 : FnScope ["_law_well_here", "_law_k"] ["_law_well_here"] (L2.defScope (topS 12)) := ⟨rfl, rfl, rfl, by decide, rfl, by decide, by decide⟩
theorem hd10 {K : PySem.W.Frag} {mg : Str → Option Value} {f : Addr} {od an : Option Addr} {sl : Array (Option Value)} {oc kV dc pm cd ct : Value} (m : mg "_law_name" = some (.ref f))
    (l : K.lookup f = some ⟨oc, od, .func (PySem.W.fnOf "_law_name" "_law_name" (L2.defArgs (topS 12)) (L2.defBody (topS 12)) (L2.defScope (topS 12)) .none kV dc pm an cd ct), sl⟩) (c : PySem.W.codeIn K cd "_law_name" = true) (k : PySem.W.keepIn K (.ref f) = true) :
    HdOk K mg tab nm 10 "_law_name" (df 10) ⟨f, "_law_name", "_law_name", L2.defArgs (topS 12), L2.defBody (topS 12), L2.defScope (topS 12), .none, kV, dc, pm, cd, ct, oc, od, an, sl, ["_law_well_here", "_law_k"], ["_law_well_here"]⟩ where
  at_ := m
  lk := l
  code := c
  keep := k
  sc := sc10
  binds := L2.Binds.all fun us hl => by
    match us, hl with | [_], _ => rfl
  kws := fun p n ks h => by
    match p, h with
    | 0, h => cases h
    | 1, h => cases h
    | 2, h => cases h
    | 3, h => cases h
    | _ + 4, h => cases h
  chk := chk10
  np := rfl
  ns := rfl
theorem sc11 : FnScope ["_law_plan_here", "_law_word", "_law_name_here", "_law_functions", "_law_tasks"] ["_law_plan_here", "_law_word", "_law_name_here", "_law_functions", "_law_tasks"] (L2.defScope (topS 13)) := ⟨rfl, rfl, rfl, by decide, rfl, by decide, by decide⟩
theorem hd11 {K : PySem.W.Frag} {mg : Str → Option Value} {f : Addr} {od an : Option Addr} {sl : Array (Option Value)} {oc kV dc pm cd ct : Value} (m : mg "_law_new" = some (.ref f))
    (l : K.lookup f = some ⟨oc, od, .func (PySem.W.fnOf "_law_new" "_law_new" (L2.defArgs (topS 13)) (L2.defBody (topS 13)) (L2.defScope (topS 13)) .none kV dc pm an cd ct), sl⟩) (c : PySem.W.codeIn K cd "_law_new" = true) (k : PySem.W.keepIn K (.ref f) = true) :
    HdOk K mg tab nm 11 "_law_new" (df 11) ⟨f, "_law_new", "_law_new", L2.defArgs (topS 13), L2.defBody (topS 13), L2.defScope (topS 13), .none, kV, dc, pm, cd, ct, oc, od, an, sl, ["_law_plan_here", "_law_word", "_law_name_here", "_law_functions", "_law_tasks"], ["_law_plan_here", "_law_word", "_law_name_here", "_law_functions", "_law_tasks"]⟩ where
  at_ := m
  lk := l
  code := c
  keep := k
  sc := sc11
  binds := L2.Binds.all fun us hl => by
    match us, hl with | [_, _, _, _, _], _ => rfl
  kws := fun p n ks h => by
    match p, h with
    | 0, h => cases h
    | 1, h => cases h
    | 2, h => cases h
    | 3, h => cases h
    | _ + 4, h => cases h
  chk := chk11
  np := rfl
  ns := rfl
theorem sc12 : FnScope ["_law_well_here", "_law_plan_here", "_law_functions", "_law_tasks", "_law_k", "_law_word", "_law_some", "_law_j", "_law_many", "_law_more", "_law_number"] ["_law_well_here"] (L2.defScope (topS 14)) := ⟨rfl, rfl, rfl, by decide, rfl, by decide, by decide⟩
theorem hd12 {K : PySem.W.Frag} {mg : Str → Option Value} {f : Addr} {od an : Option Addr} {sl : Array (Option Value)} {oc kV dc pm cd ct : Value} (m : mg "_law_plan" = some (.ref f))
    (l : K.lookup f = some ⟨oc, od, .func (PySem.W.fnOf "_law_plan" "_law_plan" (L2.defArgs (topS 14)) (L2.defBody (topS 14)) (L2.defScope (topS 14)) .none kV dc pm an cd ct), sl⟩) (c : PySem.W.codeIn K cd "_law_plan" = true) (k : PySem.W.keepIn K (.ref f) = true) :
    HdOk K mg tab nm 12 "_law_plan" (df 12) ⟨f, "_law_plan", "_law_plan", L2.defArgs (topS 14), L2.defBody (topS 14), L2.defScope (topS 14), .none, kV, dc, pm, cd, ct, oc, od, an, sl, ["_law_well_here", "_law_plan_here", "_law_functions", "_law_tasks", "_law_k", "_law_word", "_law_some", "_law_j", "_law_many", "_law_more", "_law_number"], ["_law_well_here"]⟩ where
  at_ := m
  lk := l
  code := c
  keep := k
  sc := sc12
  binds := L2.Binds.all fun us hl => by
    match us, hl with | [_], _ => rfl
  kws := fun p n ks h => by
    match p, h with
    | 0, h => cases h
    | 1, h => cases h
    | 2, h => cases h
    | 3, h => cases h
    | _ + 4, h => cases h
  chk := chk12
  np := rfl
  ns := rfl
theorem sc13 : FnScope ["_law_plan_here", "_law_found", "_law_word", "_law_name_here", "_law_functions", "_law_tasks", "_law_inner", "_law_number", "_law_deep_here", "_law_many"] ["_law_plan_here"] (L2.defScope (topS 15)) := ⟨rfl, rfl, rfl, by decide, rfl, by decide, by decide⟩
theorem hd13 {K : PySem.W.Frag} {mg : Str → Option Value} {f : Addr} {od an : Option Addr} {sl : Array (Option Value)} {oc kV dc pm cd ct : Value} (m : mg "_law_deep" = some (.ref f))
    (l : K.lookup f = some ⟨oc, od, .func (PySem.W.fnOf "_law_deep" "_law_deep" (L2.defArgs (topS 15)) (L2.defBody (topS 15)) (L2.defScope (topS 15)) .none kV dc pm an cd ct), sl⟩) (c : PySem.W.codeIn K cd "_law_deep" = true) (k : PySem.W.keepIn K (.ref f) = true) :
    HdOk K mg tab nm 13 "_law_deep" (df 13) ⟨f, "_law_deep", "_law_deep", L2.defArgs (topS 15), L2.defBody (topS 15), L2.defScope (topS 15), .none, kV, dc, pm, cd, ct, oc, od, an, sl, ["_law_plan_here", "_law_found", "_law_word", "_law_name_here", "_law_functions", "_law_tasks", "_law_inner", "_law_number", "_law_deep_here", "_law_many"], ["_law_plan_here"]⟩ where
  at_ := m
  lk := l
  code := c
  keep := k
  sc := sc13
  binds := L2.Binds.all fun us hl => by
    match us, hl with | [_], _ => rfl
  kws := fun p n ks h => by
    match p, h with
    | 0, h => cases h
    | 1, h => cases h
    | 2, h => cases h
    | 3, h => cases h
    | _ + 4, h => cases h
  chk := chk13
  np := rfl
  ns := rfl
theorem sc14 : FnScope ["_law_plan_here", "_law_found", "_law_word", "_law_name_here", "_law_functions", "_law_tasks", "_law_some", "_law_more", "_law_number"] ["_law_plan_here"] (L2.defScope (topS 16)) := ⟨rfl, rfl, rfl, by decide, rfl, by decide, by decide⟩
theorem hd14 {K : PySem.W.Frag} {mg : Str → Option Value} {f : Addr} {od an : Option Addr} {sl : Array (Option Value)} {oc kV dc pm cd ct : Value} (m : mg "_law_terms" = some (.ref f))
    (l : K.lookup f = some ⟨oc, od, .func (PySem.W.fnOf "_law_terms" "_law_terms" (L2.defArgs (topS 16)) (L2.defBody (topS 16)) (L2.defScope (topS 16)) .none kV dc pm an cd ct), sl⟩) (c : PySem.W.codeIn K cd "_law_terms" = true) (k : PySem.W.keepIn K (.ref f) = true) :
    HdOk K mg tab nm 14 "_law_terms" (df 14) ⟨f, "_law_terms", "_law_terms", L2.defArgs (topS 16), L2.defBody (topS 16), L2.defScope (topS 16), .none, kV, dc, pm, cd, ct, oc, od, an, sl, ["_law_plan_here", "_law_found", "_law_word", "_law_name_here", "_law_functions", "_law_tasks", "_law_some", "_law_more", "_law_number"], ["_law_plan_here"]⟩ where
  at_ := m
  lk := l
  code := c
  keep := k
  sc := sc14
  binds := L2.Binds.all fun us hl => by
    match us, hl with | [_], _ => rfl
  kws := fun p n ks h => by
    match p, h with
    | 0, h => cases h
    | 1, h => cases h
    | 2, h => cases h
    | 3, h => cases h
    | _ + 4, h => cases h
  chk := chk14
  np := rfl
  ns := rfl
theorem sc15 : FnScope ["_law_plan_here", "_law_row", "_law_route", "_law_number", "_law_inner"] ["_law_plan_here", "_law_row", "_law_route"] (L2.defScope (topS 17)) := ⟨rfl, rfl, rfl, by decide, rfl, by decide, by decide⟩
theorem hd15 {K : PySem.W.Frag} {mg : Str → Option Value} {f : Addr} {od an : Option Addr} {sl : Array (Option Value)} {oc kV dc pm cd ct : Value} (m : mg "_law_walked" = some (.ref f))
    (l : K.lookup f = some ⟨oc, od, .func (PySem.W.fnOf "_law_walked" "_law_walked" (L2.defArgs (topS 17)) (L2.defBody (topS 17)) (L2.defScope (topS 17)) .none kV dc pm an cd ct), sl⟩) (c : PySem.W.codeIn K cd "_law_walked" = true) (k : PySem.W.keepIn K (.ref f) = true) :
    HdOk K mg tab nm 15 "_law_walked" (df 15) ⟨f, "_law_walked", "_law_walked", L2.defArgs (topS 17), L2.defBody (topS 17), L2.defScope (topS 17), .none, kV, dc, pm, cd, ct, oc, od, an, sl, ["_law_plan_here", "_law_row", "_law_route", "_law_number", "_law_inner"], ["_law_plan_here", "_law_row", "_law_route"]⟩ where
  at_ := m
  lk := l
  code := c
  keep := k
  sc := sc15
  binds := L2.Binds.all fun us hl => by
    match us, hl with | [_, _, _], _ => rfl
  kws := fun p n ks h => by
    match p, h with
    | 0, h => cases h
    | 1, h => cases h
    | 2, h => cases h
    | 3, h => cases h
    | _ + 4, h => cases h
  chk := chk15
  np := rfl
  ns := rfl
theorem sc16 : FnScope ["_law_plan_here", "_law_row", "_law_waiting", "_law_found", "_law_word", "_law_name_here", "_law_functions", "_law_tasks"] ["_law_plan_here", "_law_row"] (L2.defScope (topS 18)) := ⟨rfl, rfl, rfl, by decide, rfl, by decide, by decide⟩
theorem hd16 {K : PySem.W.Frag} {mg : Str → Option Value} {f : Addr} {od an : Option Addr} {sl : Array (Option Value)} {oc kV dc pm cd ct : Value} (m : mg "_law_names_of" = some (.ref f))
    (l : K.lookup f = some ⟨oc, od, .func (PySem.W.fnOf "_law_names_of" "_law_names_of" (L2.defArgs (topS 18)) (L2.defBody (topS 18)) (L2.defScope (topS 18)) .none kV dc pm an cd ct), sl⟩) (c : PySem.W.codeIn K cd "_law_names_of" = true) (k : PySem.W.keepIn K (.ref f) = true) :
    HdOk K mg tab nm 16 "_law_names_of" (df 16) ⟨f, "_law_names_of", "_law_names_of", L2.defArgs (topS 18), L2.defBody (topS 18), L2.defScope (topS 18), .none, kV, dc, pm, cd, ct, oc, od, an, sl, ["_law_plan_here", "_law_row", "_law_waiting", "_law_found", "_law_word", "_law_name_here", "_law_functions", "_law_tasks"], ["_law_plan_here", "_law_row"]⟩ where
  at_ := m
  lk := l
  code := c
  keep := k
  sc := sc16
  binds := L2.Binds.all fun us hl => by
    match us, hl with | [_, _], _ => rfl
  kws := fun p n ks h => by
    match p, h with
    | 0, h => cases h
    | 1, h => cases h
    | 2, h => cases h
    | 3, h => cases h
    | _ + 4, h => cases h
  chk := chk16
  np := rfl
  ns := rfl
theorem sc17 : FnScope ["_law_well_here", "_law_plan_here", "_law_row", "_law_found", "_law_inner", "_law_many"] ["_law_well_here", "_law_plan_here", "_law_row"] (L2.defScope (topS 19)) := ⟨rfl, rfl, rfl, by decide, rfl, by decide, by decide⟩
theorem hd17 {K : PySem.W.Frag} {mg : Str → Option Value} {f : Addr} {od an : Option Addr} {sl : Array (Option Value)} {oc kV dc pm cd ct : Value} (m : mg "_law_way" = some (.ref f))
    (l : K.lookup f = some ⟨oc, od, .func (PySem.W.fnOf "_law_way" "_law_way" (L2.defArgs (topS 19)) (L2.defBody (topS 19)) (L2.defScope (topS 19)) .none kV dc pm an cd ct), sl⟩) (c : PySem.W.codeIn K cd "_law_way" = true) (k : PySem.W.keepIn K (.ref f) = true) :
    HdOk K mg tab nm 17 "_law_way" (df 17) ⟨f, "_law_way", "_law_way", L2.defArgs (topS 19), L2.defBody (topS 19), L2.defScope (topS 19), .none, kV, dc, pm, cd, ct, oc, od, an, sl, ["_law_well_here", "_law_plan_here", "_law_row", "_law_found", "_law_inner", "_law_many"], ["_law_well_here", "_law_plan_here", "_law_row"]⟩ where
  at_ := m
  lk := l
  code := c
  keep := k
  sc := sc17
  binds := L2.Binds.all fun us hl => by
    match us, hl with | [_, _, _], _ => rfl
  kws := fun p n ks h => by
    match p, h with
    | 0, h => cases h
    | 1, h => cases h
    | 2, h => cases h
    | 3, h => cases h
    | _ + 4, h => cases h
  chk := chk17
  np := rfl
  ns := rfl
theorem sc18 : FnScope ["_law_well_here", "_law_plan_here", "_law_terms_here", "_law_row", "_law_many", "_law_shape", "_law_was", "_law_inner", "_law_number", "_law_names", "_law_turn", "_law_route", "_law_at", "_law_due"] ["_law_well_here", "_law_plan_here", "_law_terms_here", "_law_row", "_law_many"] (L2.defScope (topS 20)) := ⟨rfl, rfl, rfl, by decide, rfl, by decide, by decide⟩
theorem hd18 {K : PySem.W.Frag} {mg : Str → Option Value} {f : Addr} {od an : Option Addr} {sl : Array (Option Value)} {oc kV dc pm cd ct : Value} (m : mg "_law_row_right" = some (.ref f))
    (l : K.lookup f = some ⟨oc, od, .func (PySem.W.fnOf "_law_row_right" "_law_row_right" (L2.defArgs (topS 20)) (L2.defBody (topS 20)) (L2.defScope (topS 20)) .none kV dc pm an cd ct), sl⟩) (c : PySem.W.codeIn K cd "_law_row_right" = true) (k : PySem.W.keepIn K (.ref f) = true) :
    HdOk K mg tab nm 18 "_law_row_right" (df 18) ⟨f, "_law_row_right", "_law_row_right", L2.defArgs (topS 20), L2.defBody (topS 20), L2.defScope (topS 20), .none, kV, dc, pm, cd, ct, oc, od, an, sl, ["_law_well_here", "_law_plan_here", "_law_terms_here", "_law_row", "_law_many", "_law_shape", "_law_was", "_law_inner", "_law_number", "_law_names", "_law_turn", "_law_route", "_law_at", "_law_due"], ["_law_well_here", "_law_plan_here", "_law_terms_here", "_law_row", "_law_many"]⟩ where
  at_ := m
  lk := l
  code := c
  keep := k
  sc := sc18
  binds := L2.Binds.all fun us hl => by
    match us, hl with | [_, _, _, _, _], _ => rfl
  kws := fun p n ks h => by
    match p, h with
    | 0, h => cases h
    | 1, h => cases h
    | 2, h => cases h
    | 3, h => cases h
    | _ + 4, h => cases h
  chk := chk18
  np := rfl
  ns := rfl
theorem sc19 : FnScope ["_law_well_here", "_law_many", "_law_shape", "_law_names", "_law_due", "_law_k", "_law_name_here"] ["_law_well_here"] (L2.defScope (topS 21)) := ⟨rfl, rfl, rfl, by decide, rfl, by decide, by decide⟩
theorem hd19 {K : PySem.W.Frag} {mg : Str → Option Value} {f : Addr} {od an : Option Addr} {sl : Array (Option Value)} {oc kV dc pm cd ct : Value} (m : mg "_law_doubled" = some (.ref f))
    (l : K.lookup f = some ⟨oc, od, .func (PySem.W.fnOf "_law_doubled" "_law_doubled" (L2.defArgs (topS 21)) (L2.defBody (topS 21)) (L2.defScope (topS 21)) .none kV dc pm an cd ct), sl⟩) (c : PySem.W.codeIn K cd "_law_doubled" = true) (k : PySem.W.keepIn K (.ref f) = true) :
    HdOk K mg tab nm 19 "_law_doubled" (df 19) ⟨f, "_law_doubled", "_law_doubled", L2.defArgs (topS 21), L2.defBody (topS 21), L2.defScope (topS 21), .none, kV, dc, pm, cd, ct, oc, od, an, sl, ["_law_well_here", "_law_many", "_law_shape", "_law_names", "_law_due", "_law_k", "_law_name_here"], ["_law_well_here"]⟩ where
  at_ := m
  lk := l
  code := c
  keep := k
  sc := sc19
  binds := L2.Binds.all fun us hl => by
    match us, hl with | [_], _ => rfl
  kws := fun p n ks h => by
    match p, h with
    | 0, h => cases h
    | 1, h => cases h
    | 2, h => cases h
    | 3, h => cases h
    | _ + 4, h => cases h
  chk := chk19
  np := rfl
  ns := rfl
theorem sc20 : FnScope ["_law_script", "_law_well_here", "_law_turn", "_law_plan_here", "_law_terms_here", "_law_deep_here", "_law_row", "_law_many"] ["_law_script"] (L2.defScope (topS 22)) := ⟨rfl, rfl, rfl, by decide, rfl, by decide, by decide⟩
theorem hd20 {K : PySem.W.Frag} {mg : Str → Option Value} {f : Addr} {od an : Option Addr} {sl : Array (Option Value)} {oc kV dc pm cd ct : Value} (m : mg "law" = some (.ref f))
    (l : K.lookup f = some ⟨oc, od, .func (PySem.W.fnOf "law" "law" (L2.defArgs (topS 22)) (L2.defBody (topS 22)) (L2.defScope (topS 22)) .none kV dc pm an cd ct), sl⟩) (c : PySem.W.codeIn K cd "law" = true) (k : PySem.W.keepIn K (.ref f) = true) :
    HdOk K mg tab nm 20 "law" (df 20) ⟨f, "law", "law", L2.defArgs (topS 22), L2.defBody (topS 22), L2.defScope (topS 22), .none, kV, dc, pm, cd, ct, oc, od, an, sl, ["_law_script", "_law_well_here", "_law_turn", "_law_plan_here", "_law_terms_here", "_law_deep_here", "_law_row", "_law_many"], ["_law_script"]⟩ where
  at_ := m
  lk := l
  code := c
  keep := k
  sc := sc20
  binds := L2.Binds.all fun us hl => by
    match us, hl with | [_], _ => rfl
  kws := fun p n ks h => by
    match p, h with
    | 0, h => cases h
    | 1, h => cases h
    | 2, h => cases h
    | 3, h => cases h
    | _ + 4, h => cases h
  chk := chk20
  np := rfl
  ns := rfl
theorem tab_ok {K : PySem.W.Frag} {h : Heap} {mg : Str → Option Value} (X : K.In h) (G : h.Ns mainGlobals mg)
 {f0 : Addr} {od0 an0 : Option Addr} {sl0 : Array (Option Value)} {oc0 kV0 dc0 pm0 cd0 ct0 : Value}
 (a0 : PySem.W.nsIn K mainGlobals "functions_of" = some (some (.ref f0))) (l0 : K.lookup f0 = some ⟨oc0, od0, .func (PySem.W.fnOf "functions_of" "functions_of" (L2.defArgs (topS 1)) (L2.defBody (topS 1)) (L2.defScope (topS 1)) .none kV0 dc0 pm0 an0 cd0 ct0), sl0⟩) (c0 : PySem.W.codeIn K cd0 "functions_of" = true) (k0 : PySem.W.keepIn K (.ref f0) = true)
 {f1 : Addr} {od1 an1 : Option Addr} {sl1 : Array (Option Value)} {oc1 kV1 dc1 pm1 cd1 ct1 : Value}
 (a1 : PySem.W.nsIn K mainGlobals "tasks_of" = some (some (.ref f1))) (l1 : K.lookup f1 = some ⟨oc1, od1, .func (PySem.W.fnOf "tasks_of" "tasks_of" (L2.defArgs (topS 2)) (L2.defBody (topS 2)) (L2.defScope (topS 2)) .none kV1 dc1 pm1 an1 cd1 ct1), sl1⟩) (c1 : PySem.W.codeIn K cd1 "tasks_of" = true) (k1 : PySem.W.keepIn K (.ref f1) = true)
 {f2 : Addr} {od2 an2 : Option Addr} {sl2 : Array (Option Value)} {oc2 kV2 dc2 pm2 cd2 ct2 : Value}
 (a2 : PySem.W.nsIn K mainGlobals "parts_of" = some (some (.ref f2))) (l2 : K.lookup f2 = some ⟨oc2, od2, .func (PySem.W.fnOf "parts_of" "parts_of" (L2.defArgs (topS 3)) (L2.defBody (topS 3)) (L2.defScope (topS 3)) .none kV2 dc2 pm2 an2 cd2 ct2), sl2⟩) (c2 : PySem.W.codeIn K cd2 "parts_of" = true) (k2 : PySem.W.keepIn K (.ref f2) = true)
 {f3 : Addr} {od3 an3 : Option Addr} {sl3 : Array (Option Value)} {oc3 kV3 dc3 pm3 cd3 ct3 : Value}
 (a3 : PySem.W.nsIn K mainGlobals "part_at" = some (some (.ref f3))) (l3 : K.lookup f3 = some ⟨oc3, od3, .func (PySem.W.fnOf "part_at" "part_at" (L2.defArgs (topS 4)) (L2.defBody (topS 4)) (L2.defScope (topS 4)) .none kV3 dc3 pm3 an3 cd3 ct3), sl3⟩) (c3 : PySem.W.codeIn K cd3 "part_at" = true) (k3 : PySem.W.keepIn K (.ref f3) = true)
 {f4 : Addr} {od4 an4 : Option Addr} {sl4 : Array (Option Value)} {oc4 kV4 dc4 pm4 cd4 ct4 : Value}
 (a4 : PySem.W.nsIn K mainGlobals "terms_in" = some (some (.ref f4))) (l4 : K.lookup f4 = some ⟨oc4, od4, .func (PySem.W.fnOf "terms_in" "terms_in" (L2.defArgs (topS 5)) (L2.defBody (topS 5)) (L2.defScope (topS 5)) .none kV4 dc4 pm4 an4 cd4 ct4), sl4⟩) (c4 : PySem.W.codeIn K cd4 "terms_in" = true) (k4 : PySem.W.keepIn K (.ref f4) = true)
 {f5 : Addr} {od5 an5 : Option Addr} {sl5 : Array (Option Value)} {oc5 kV5 dc5 pm5 cd5 ct5 : Value}
 (a5 : PySem.W.nsIn K mainGlobals "size_of" = some (some (.ref f5))) (l5 : K.lookup f5 = some ⟨oc5, od5, .func (PySem.W.fnOf "size_of" "size_of" (L2.defArgs (topS 6)) (L2.defBody (topS 6)) (L2.defScope (topS 6)) .none kV5 dc5 pm5 an5 cd5 ct5), sl5⟩) (c5 : PySem.W.codeIn K cd5 "size_of" = true) (k5 : PySem.W.keepIn K (.ref f5) = true)
 {f6 : Addr} {od6 an6 : Option Addr} {sl6 : Array (Option Value)} {oc6 kV6 dc6 pm6 cd6 ct6 : Value}
 (a6 : PySem.W.nsIn K mainGlobals "names_in" = some (some (.ref f6))) (l6 : K.lookup f6 = some ⟨oc6, od6, .func (PySem.W.fnOf "names_in" "names_in" (L2.defArgs (topS 7)) (L2.defBody (topS 7)) (L2.defScope (topS 7)) .none kV6 dc6 pm6 an6 cd6 ct6), sl6⟩) (c6 : PySem.W.codeIn K cd6 "names_in" = true) (k6 : PySem.W.keepIn K (.ref f6) = true)
 {f7 : Addr} {od7 an7 : Option Addr} {sl7 : Array (Option Value)} {oc7 kV7 dc7 pm7 cd7 ct7 : Value}
 (a7 : PySem.W.nsIn K mainGlobals "_law_well" = some (some (.ref f7))) (l7 : K.lookup f7 = some ⟨oc7, od7, .func (PySem.W.fnOf "_law_well" "_law_well" (L2.defArgs (topS 9)) (L2.defBody (topS 9)) (L2.defScope (topS 9)) .none kV7 dc7 pm7 an7 cd7 ct7), sl7⟩) (c7 : PySem.W.codeIn K cd7 "_law_well" = true) (k7 : PySem.W.keepIn K (.ref f7) = true)
 {f8 : Addr} {od8 an8 : Option Addr} {sl8 : Array (Option Value)} {oc8 kV8 dc8 pm8 cd8 ct8 : Value}
 (a8 : PySem.W.nsIn K mainGlobals "_law_drawn" = some (some (.ref f8))) (l8 : K.lookup f8 = some ⟨oc8, od8, .func (PySem.W.fnOf "_law_drawn" "_law_drawn" (L2.defArgs (topS 10)) (L2.defBody (topS 10)) (L2.defScope (topS 10)) .none kV8 dc8 pm8 an8 cd8 ct8), sl8⟩) (c8 : PySem.W.codeIn K cd8 "_law_drawn" = true) (k8 : PySem.W.keepIn K (.ref f8) = true)
 {f9 : Addr} {od9 an9 : Option Addr} {sl9 : Array (Option Value)} {oc9 kV9 dc9 pm9 cd9 ct9 : Value}
 (a9 : PySem.W.nsIn K mainGlobals "_law_one_of" = some (some (.ref f9))) (l9 : K.lookup f9 = some ⟨oc9, od9, .func (PySem.W.fnOf "_law_one_of" "_law_one_of" (L2.defArgs (topS 11)) (L2.defBody (topS 11)) (L2.defScope (topS 11)) .none kV9 dc9 pm9 an9 cd9 ct9), sl9⟩) (c9 : PySem.W.codeIn K cd9 "_law_one_of" = true) (k9 : PySem.W.keepIn K (.ref f9) = true)
 {f10 : Addr} {od10 an10 : Option Addr} {sl10 : Array (Option Value)} {oc10 kV10 dc10 pm10 cd10 ct10 : Value}
 (a10 : PySem.W.nsIn K mainGlobals "_law_name" = some (some (.ref f10))) (l10 : K.lookup f10 = some ⟨oc10, od10, .func (PySem.W.fnOf "_law_name" "_law_name" (L2.defArgs (topS 12)) (L2.defBody (topS 12)) (L2.defScope (topS 12)) .none kV10 dc10 pm10 an10 cd10 ct10), sl10⟩) (c10 : PySem.W.codeIn K cd10 "_law_name" = true) (k10 : PySem.W.keepIn K (.ref f10) = true)
 {f11 : Addr} {od11 an11 : Option Addr} {sl11 : Array (Option Value)} {oc11 kV11 dc11 pm11 cd11 ct11 : Value}
 (a11 : PySem.W.nsIn K mainGlobals "_law_new" = some (some (.ref f11))) (l11 : K.lookup f11 = some ⟨oc11, od11, .func (PySem.W.fnOf "_law_new" "_law_new" (L2.defArgs (topS 13)) (L2.defBody (topS 13)) (L2.defScope (topS 13)) .none kV11 dc11 pm11 an11 cd11 ct11), sl11⟩) (c11 : PySem.W.codeIn K cd11 "_law_new" = true) (k11 : PySem.W.keepIn K (.ref f11) = true)
 {f12 : Addr} {od12 an12 : Option Addr} {sl12 : Array (Option Value)} {oc12 kV12 dc12 pm12 cd12 ct12 : Value}
 (a12 : PySem.W.nsIn K mainGlobals "_law_plan" = some (some (.ref f12))) (l12 : K.lookup f12 = some ⟨oc12, od12, .func (PySem.W.fnOf "_law_plan" "_law_plan" (L2.defArgs (topS 14)) (L2.defBody (topS 14)) (L2.defScope (topS 14)) .none kV12 dc12 pm12 an12 cd12 ct12), sl12⟩) (c12 : PySem.W.codeIn K cd12 "_law_plan" = true) (k12 : PySem.W.keepIn K (.ref f12) = true)
 {f13 : Addr} {od13 an13 : Option Addr} {sl13 : Array (Option Value)} {oc13 kV13 dc13 pm13 cd13 ct13 : Value}
 (a13 : PySem.W.nsIn K mainGlobals "_law_deep" = some (some (.ref f13))) (l13 : K.lookup f13 = some ⟨oc13, od13, .func (PySem.W.fnOf "_law_deep" "_law_deep" (L2.defArgs (topS 15)) (L2.defBody (topS 15)) (L2.defScope (topS 15)) .none kV13 dc13 pm13 an13 cd13 ct13), sl13⟩) (c13 : PySem.W.codeIn K cd13 "_law_deep" = true) (k13 : PySem.W.keepIn K (.ref f13) = true)
 {f14 : Addr} {od14 an14 : Option Addr} {sl14 : Array (Option Value)} {oc14 kV14 dc14 pm14 cd14 ct14 : Value}
 (a14 : PySem.W.nsIn K mainGlobals "_law_terms" = some (some (.ref f14))) (l14 : K.lookup f14 = some ⟨oc14, od14, .func (PySem.W.fnOf "_law_terms" "_law_terms" (L2.defArgs (topS 16)) (L2.defBody (topS 16)) (L2.defScope (topS 16)) .none kV14 dc14 pm14 an14 cd14 ct14), sl14⟩) (c14 : PySem.W.codeIn K cd14 "_law_terms" = true) (k14 : PySem.W.keepIn K (.ref f14) = true)
 {f15 : Addr} {od15 an15 : Option Addr} {sl15 : Array (Option Value)} {oc15 kV15 dc15 pm15 cd15 ct15 : Value}
 (a15 : PySem.W.nsIn K mainGlobals "_law_walked" = some (some (.ref f15))) (l15 : K.lookup f15 = some ⟨oc15, od15, .func (PySem.W.fnOf "_law_walked" "_law_walked" (L2.defArgs (topS 17)) (L2.defBody (topS 17)) (L2.defScope (topS 17)) .none kV15 dc15 pm15 an15 cd15 ct15), sl15⟩) (c15 : PySem.W.codeIn K cd15 "_law_walked" = true) (k15 : PySem.W.keepIn K (.ref f15) = true)
 {f16 : Addr} {od16 an16 : Option Addr} {sl16 : Array (Option Value)} {oc16 kV16 dc16 pm16 cd16 ct16 : Value}
 (a16 : PySem.W.nsIn K mainGlobals "_law_names_of" = some (some (.ref f16))) (l16 : K.lookup f16 = some ⟨oc16, od16, .func (PySem.W.fnOf "_law_names_of" "_law_names_of" (L2.defArgs (topS 18)) (L2.defBody (topS 18)) (L2.defScope (topS 18)) .none kV16 dc16 pm16 an16 cd16 ct16), sl16⟩) (c16 : PySem.W.codeIn K cd16 "_law_names_of" = true) (k16 : PySem.W.keepIn K (.ref f16) = true)
 {f17 : Addr} {od17 an17 : Option Addr} {sl17 : Array (Option Value)} {oc17 kV17 dc17 pm17 cd17 ct17 : Value}
 (a17 : PySem.W.nsIn K mainGlobals "_law_way" = some (some (.ref f17))) (l17 : K.lookup f17 = some ⟨oc17, od17, .func (PySem.W.fnOf "_law_way" "_law_way" (L2.defArgs (topS 19)) (L2.defBody (topS 19)) (L2.defScope (topS 19)) .none kV17 dc17 pm17 an17 cd17 ct17), sl17⟩) (c17 : PySem.W.codeIn K cd17 "_law_way" = true) (k17 : PySem.W.keepIn K (.ref f17) = true)
 {f18 : Addr} {od18 an18 : Option Addr} {sl18 : Array (Option Value)} {oc18 kV18 dc18 pm18 cd18 ct18 : Value}
 (a18 : PySem.W.nsIn K mainGlobals "_law_row_right" = some (some (.ref f18))) (l18 : K.lookup f18 = some ⟨oc18, od18, .func (PySem.W.fnOf "_law_row_right" "_law_row_right" (L2.defArgs (topS 20)) (L2.defBody (topS 20)) (L2.defScope (topS 20)) .none kV18 dc18 pm18 an18 cd18 ct18), sl18⟩) (c18 : PySem.W.codeIn K cd18 "_law_row_right" = true) (k18 : PySem.W.keepIn K (.ref f18) = true)
 {f19 : Addr} {od19 an19 : Option Addr} {sl19 : Array (Option Value)} {oc19 kV19 dc19 pm19 cd19 ct19 : Value}
 (a19 : PySem.W.nsIn K mainGlobals "_law_doubled" = some (some (.ref f19))) (l19 : K.lookup f19 = some ⟨oc19, od19, .func (PySem.W.fnOf "_law_doubled" "_law_doubled" (L2.defArgs (topS 21)) (L2.defBody (topS 21)) (L2.defScope (topS 21)) .none kV19 dc19 pm19 an19 cd19 ct19), sl19⟩) (c19 : PySem.W.codeIn K cd19 "_law_doubled" = true) (k19 : PySem.W.keepIn K (.ref f19) = true)
 {f20 : Addr} {od20 an20 : Option Addr} {sl20 : Array (Option Value)} {oc20 kV20 dc20 pm20 cd20 ct20 : Value}
 (a20 : PySem.W.nsIn K mainGlobals "law" = some (some (.ref f20))) (l20 : K.lookup f20 = some ⟨oc20, od20, .func (PySem.W.fnOf "law" "law" (L2.defArgs (topS 22)) (L2.defBody (topS 22)) (L2.defScope (topS 22)) .none kV20 dc20 pm20 an20 cd20 ct20), sl20⟩) (c20 : PySem.W.codeIn K cd20 "law" = true) (k20 : PySem.W.keepIn K (.ref f20) = true)
 (z0 : PySem.W.nsIn K mainGlobals "int" = some none)
 (z1 : PySem.W.nsIn K mainGlobals "len" = some none)
 (z2 : PySem.W.nsIn K mainGlobals "list" = some none)
 (z3 : PySem.W.nsIn K mainGlobals "max" = some none)
 (z4 : PySem.W.nsIn K mainGlobals "range" = some none)
 (z5 : PySem.W.nsIn K mainGlobals "repr" = some none)
 (z6 : PySem.W.nsIn K mainGlobals "sorted" = some none)
 (z7 : PySem.W.nsIn K mainGlobals "sum" = some none)
 (z8 : PySem.W.nsIn K mainGlobals "tuple" = some none) : TabOk K mg tab nm where
  fns := fun f x hx => by
    match f, hx with
    | 0, hx => cases hx; exact ⟨_, _, rfl, hd0 (PySem.W.mg_of X G a0) l0 c0 k0⟩
    | 1, hx => cases hx; exact ⟨_, _, rfl, hd1 (PySem.W.mg_of X G a1) l1 c1 k1⟩
    | 2, hx => cases hx; exact ⟨_, _, rfl, hd2 (PySem.W.mg_of X G a2) l2 c2 k2⟩
    | 3, hx => cases hx; exact ⟨_, _, rfl, hd3 (PySem.W.mg_of X G a3) l3 c3 k3⟩
    | 4, hx => cases hx; exact ⟨_, _, rfl, hd4 (PySem.W.mg_of X G a4) l4 c4 k4⟩
    | 5, hx => cases hx; exact ⟨_, _, rfl, hd5 (PySem.W.mg_of X G a5) l5 c5 k5⟩
    | 6, hx => cases hx; exact ⟨_, _, rfl, hd6 (PySem.W.mg_of X G a6) l6 c6 k6⟩
    | 7, hx => cases hx; exact ⟨_, _, rfl, hd7 (PySem.W.mg_of X G a7) l7 c7 k7⟩
    | 8, hx => cases hx; exact ⟨_, _, rfl, hd8 (PySem.W.mg_of X G a8) l8 c8 k8⟩
    | 9, hx => cases hx; exact ⟨_, _, rfl, hd9 (PySem.W.mg_of X G a9) l9 c9 k9⟩
    | 10, hx => cases hx; exact ⟨_, _, rfl, hd10 (PySem.W.mg_of X G a10) l10 c10 k10⟩
    | 11, hx => cases hx; exact ⟨_, _, rfl, hd11 (PySem.W.mg_of X G a11) l11 c11 k11⟩
    | 12, hx => cases hx; exact ⟨_, _, rfl, hd12 (PySem.W.mg_of X G a12) l12 c12 k12⟩
    | 13, hx => cases hx; exact ⟨_, _, rfl, hd13 (PySem.W.mg_of X G a13) l13 c13 k13⟩
    | 14, hx => cases hx; exact ⟨_, _, rfl, hd14 (PySem.W.mg_of X G a14) l14 c14 k14⟩
    | 15, hx => cases hx; exact ⟨_, _, rfl, hd15 (PySem.W.mg_of X G a15) l15 c15 k15⟩
    | 16, hx => cases hx; exact ⟨_, _, rfl, hd16 (PySem.W.mg_of X G a16) l16 c16 k16⟩
    | 17, hx => cases hx; exact ⟨_, _, rfl, hd17 (PySem.W.mg_of X G a17) l17 c17 k17⟩
    | 18, hx => cases hx; exact ⟨_, _, rfl, hd18 (PySem.W.mg_of X G a18) l18 c18 k18⟩
    | 19, hx => cases hx; exact ⟨_, _, rfl, hd19 (PySem.W.mg_of X G a19) l19 c19 k19⟩
    | 20, hx => cases hx; exact ⟨_, _, rfl, hd20 (PySem.W.mg_of X G a20) l20 c20 k20⟩
    | _ + 21, hx => cases hx
  gone := fun x hx => by
    simp only [nm, List.mem_cons, List.not_mem_nil, or_false] at hx
    rcases hx with rfl | rfl | rfl | rfl | rfl | rfl | rfl | rfl | rfl
    · exact PySem.W.mg_none_of X G z0
    · exact PySem.W.mg_none_of X G z1
    · exact PySem.W.mg_none_of X G z2
    · exact PySem.W.mg_none_of X G z3
    · exact PySem.W.mg_none_of X G z4
    · exact PySem.W.mg_none_of X G z5
    · exact PySem.W.mg_none_of X G z6
    · exact PySem.W.mg_none_of X G z7
    · exact PySem.W.mg_none_of X G z8
  cns := fun i x d hx hd => by cases hx
end Law
open PySem PySem.W PyProof.Rows
theorem PySem.Challenge.cw_anycaller_k07_parts_sizes_names_holds : PySem.Challenge.rw_anycaller_k07_parts_sizes_names.Holds := by
  w_on; o_law; k_head; (case hw => w_witness2)
  k_fill
  refine Fw.walkG (l := PySem.Challenge.rw_anycaller_k07_parts_sizes_names) (n := 63) (k := 100) (T := Law.tab) (nm := Law.nm) (f := 20) rfl (by decide) rfl ⟨⟨rfl, by decide, by decide⟩, rfl⟩ (fun w h Y => by first | exact PySem.W.kIn_of Y | exact PySem.W.km_in_of Y) ?F rfl (fun df h => by cases h; rfl) Law.pure_law
  case F =>
    intro w mg fa h KX G hmg
    refine' Law.tab_ok KX G ?a0 ?l0 ?c0 ?k0 ?a1 ?l1 ?c1 ?k1 ?a2 ?l2 ?c2 ?k2 ?a3 ?l3 ?c3 ?k3 ?a4 ?l4 ?c4 ?k4 ?a5 ?l5 ?c5 ?k5 ?a6 ?l6 ?c6 ?k6 ?a7 ?l7 ?c7 ?k7 ?a8 ?l8 ?c8 ?k8 ?a9 ?l9 ?c9 ?k9 ?a10 ?l10 ?c10 ?k10 ?a11 ?l11 ?c11 ?k11 ?a12 ?l12 ?c12 ?k12 ?a13 ?l13 ?c13 ?k13 ?a14 ?l14 ?c14 ?k14 ?a15 ?l15 ?c15 ?k15 ?a16 ?l16 ?c16 ?k16 ?a17 ?l17 ?c17 ?k17 ?a18 ?l18 ?c18 ?k18 ?a19 ?l19 ?c19 ?k19 ?a20 ?l20 ?c20 ?k20 ?z0 ?z1 ?z2 ?z3 ?z4 ?z5 ?z6 ?z7 ?z8
    (case a0 => k_is)
    (case l0 => k_is)
    (case c0 => k_is)
    (case k0 => k_is)
    (case a1 => k_is)
    (case l1 => k_is)
    (case c1 => k_is)
    (case k1 => k_is)
    (case a2 => k_is)
    (case l2 => k_is)
    (case c2 => k_is)
    (case k2 => k_is)
    (case a3 => k_is)
    (case l3 => k_is)
    (case c3 => k_is)
    (case k3 => k_is)
    (case a4 => k_is)
    (case l4 => k_is)
    (case c4 => k_is)
    (case k4 => k_is)
    (case a5 => k_is)
    (case l5 => k_is)
    (case c5 => k_is)
    (case k5 => k_is)
    (case a6 => k_is)
    (case l6 => k_is)
    (case c6 => k_is)
    (case k6 => k_is)
    (case a7 => k_is)
    (case l7 => k_is)
    (case c7 => k_is)
    (case k7 => k_is)
    (case a8 => k_is)
    (case l8 => k_is)
    (case c8 => k_is)
    (case k8 => k_is)
    (case a9 => k_is)
    (case l9 => k_is)
    (case c9 => k_is)
    (case k9 => k_is)
    (case a10 => k_is)
    (case l10 => k_is)
    (case c10 => k_is)
    (case k10 => k_is)
    (case a11 => k_is)
    (case l11 => k_is)
    (case c11 => k_is)
    (case k11 => k_is)
    (case a12 => k_is)
    (case l12 => k_is)
    (case c12 => k_is)
    (case k12 => k_is)
    (case a13 => k_is)
    (case l13 => k_is)
    (case c13 => k_is)
    (case k13 => k_is)
    (case a14 => k_is)
    (case l14 => k_is)
    (case c14 => k_is)
    (case k14 => k_is)
    (case a15 => k_is)
    (case l15 => k_is)
    (case c15 => k_is)
    (case k15 => k_is)
    (case a16 => k_is)
    (case l16 => k_is)
    (case c16 => k_is)
    (case k16 => k_is)
    (case a17 => k_is)
    (case l17 => k_is)
    (case c17 => k_is)
    (case k17 => k_is)
    (case a18 => k_is)
    (case l18 => k_is)
    (case c18 => k_is)
    (case k18 => k_is)
    (case a19 => k_is)
    (case l19 => k_is)
    (case c19 => k_is)
    (case k19 => k_is)
    (case a20 => k_is)
    (case l20 => k_is)
    (case c20 => k_is)
    (case k20 => k_is)
    (case z0 => k_is)
    (case z1 => k_is)
    (case z2 => k_is)
    (case z3 => k_is)
    (case z4 => k_is)
    (case z5 => k_is)
    (case z6 => k_is)
    (case z7 => k_is)
    (case z8 => k_is)
