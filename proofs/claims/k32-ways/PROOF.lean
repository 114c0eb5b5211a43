import PyProof.Rows.All
import Wide.All
import OpenK.AllK
import Wide.FinOn
import HandS.ForMost
import HandS.Lambda
import HandS.ForExc
import HandS.HotCalls
import HandS.ExcIs
import HandS.Wide
import HandS.IsInst
import HandS.Deep
import HandS.Conv
import HandS.Zip
import HandS.Style
import HandS.TupAny
import HandS.Walk
import HandS.More
import HandS.Flow
import HandS.SortInts
import HandS.HeadWalk
import HandS.Defaults
import HandS.HeadHook3
import HandS.Head0
import HandS.Head1
import HandS.Head2
import HandS.HeadEnd
import KE.KNestM
import PySem.Challenge.RW_wirelamps_k32_whole_ways_begun_anew
section
set_option Elab.async false
set_option linter.all false
set_option maxRecDepth 100000
/-! A small evaluator: values without a heap, objects with identity in a store. -/
namespace Y
open PySem L2

/-! ### values, objects, results -/
inductive D where
  | non | bl (b : Bool) | int (i : Int) | str (x : Str)
  | tup (xs : List D) | lst (xs : List D) | scr (ns : List Int) | ref (n : Nat)
inductive O where
  | dead | lst (xs : List D) | dic (kvs : List (Key × D)) | dit (kvs : List (List Key × D)) | ins (c : Nat) (fs : List (Nat × D))
abbrev Sto := List O
abbrev Env := List (Option D)
inductive R (α : Type) where
  | ok (a : α) (S : Sto) | exc (c : Nat) (S : Sto) | bad
def R.bind {α β : Type} (r : R α) (f : α → Sto → R β) : R β := match r with
  | .ok a S => f a S
  | .exc c S => .exc c S
  | .bad => .bad
@[simp] theorem R.bind_ok {α β : Type} (a : α) (S : Sto) (f : α → Sto → R β) : (R.ok a S).bind f = f a S := rfl
@[simp] theorem R.bind_exc {α β : Type} (c : Nat) (S : Sto) (f : α → Sto → R β) : (R.exc c S : R α).bind f = .exc c S := rfl
@[simp] theorem R.bind_bad {α β : Type} (f : α → Sto → R β) : (R.bad : R α).bind f = .bad := rfl
/-- how a statement ends -/
inductive F where
  | nx (env : Env) (S : Sto) | rt (d : D) (S : Sto) | bk (env : Env) (S : Sto) | ct (env : Env) (S : Sto) | exc (c : Nat) (S : Sto) | bad
def opt {α : Type} (o : Option α) (S : Sto) : R α := match o with
  | some a => .ok a S
  | none => .bad
@[simp] theorem opt_some {α : Type} (a : α) (S : Sto) : opt (some a) S = .ok a S := rfl
@[simp] theorem opt_none {α : Type} (S : Sto) : opt (none : Option α) S = .bad := rfl

/-! ### sameness (of the data itself) -/
mutual
def D.same : D → D → Bool
  | .non, .non => true
  | .bl a, .bl b => a == b
  | .int a, .int b => a == b
  | .str a, .str b => a == b
  | .tup a, .tup b => D.sames a b
  | .lst a, .lst b => D.sames a b
  | .scr a, .scr b => a == b
  | .ref a, .ref b => a == b
  | _, _ => false
def D.sames : List D → List D → Bool
  | [], [] => true
  | a :: as, b :: bs => D.same a b && D.sames as bs
  | _, _ => false
end
mutual
theorem D.same_eq : ∀ a b : D, D.same a b = true → a = b
  | .non, b, h => by cases b <;> simp_all [D.same]
  | .bl a, b, h => by cases b <;> simp_all [D.same]
  | .int a, b, h => by cases b <;> simp_all [D.same]
  | .str a, b, h => by cases b <;> simp_all [D.same]
  | .scr a, b, h => by cases b <;> simp_all [D.same]
  | .ref a, b, h => by cases b <;> simp_all [D.same]
  | .tup a, b, h => by
    cases b with
    | tup c => rw [D.sames_eq a c (by simpa [D.same] using h)]
    | _ => simp [D.same] at h
  | .lst a, b, h => by
    cases b with
    | lst c => rw [D.sames_eq a c (by simpa [D.same] using h)]
    | _ => simp [D.same] at h
theorem D.sames_eq : ∀ a b : List D, D.sames a b = true → a = b
  | [], [], _ => rfl
  | [], _ :: _, h => by simp [D.sames] at h
  | _ :: _, [], h => by simp [D.sames] at h
  | a :: as, b :: bs, h => by
    simp only [D.sames, Bool.and_eq_true] at h
    rw [D.same_eq a b h.1, D.sames_eq as bs h.2]
end
mutual
@[simp] theorem D.same_self : ∀ a : D, D.same a a = true
  | .non => by simp [D.same]
  | .bl a => by simp [D.same]
  | .int a => by simp [D.same]
  | .str a => by simp [D.same]
  | .scr a => by simp [D.same]
  | .ref a => by simp [D.same]
  | .tup a => by simp [D.same, D.sames_self a]
  | .lst a => by simp [D.same, D.sames_self a]
@[simp] theorem D.sames_self : ∀ a : List D, D.sames a a = true
  | [] => by simp [D.sames]
  | a :: as => by simp [D.sames, D.same_self a, D.sames_self as]
end
def sameKV {κ : Type} [DecidableEq κ] : List (κ × D) → List (κ × D) → Bool
  | [], [] => true
  | (k, d) :: r, (k', d') :: r' => decide (k = k') && (d.same d' && sameKV r r')
  | _, _ => false
theorem sameKV_eq {κ : Type} [DecidableEq κ] : ∀ a b : List (κ × D), sameKV a b = true → a = b
  | [], [], _ => rfl
  | [], _ :: _, h => by simp [sameKV] at h
  | _ :: _, [], h => by simp [sameKV] at h
  | (k, d) :: r, (k', d') :: r', h => by
    simp only [sameKV, Bool.and_eq_true, decide_eq_true_eq] at h
    rw [h.1, D.same_eq _ _ h.2.1, sameKV_eq r r' h.2.2]
@[simp] theorem sameKV_self {κ : Type} [DecidableEq κ] : ∀ a : List (κ × D), sameKV a a = true
  | [] => by simp [sameKV]
  | (k, d) :: r => by simp [sameKV, sameKV_self r]
def O.same : O → O → Bool
  | .dead, .dead => true
  | .lst a, .lst b => D.sames a b
  | .dic a, .dic b => sameKV a b
  | .dit a, .dit b => sameKV a b
  | .ins c a, .ins d b => (c == d) && sameKV a b
  | _, _ => false
theorem O.same_eq (a b : O) (h : O.same a b = true) : a = b := by
  cases a <;> cases b <;> simp_all [O.same]
  · exact D.sames_eq _ _ h
  · exact sameKV_eq _ _ h
  · exact sameKV_eq _ _ h
  · exact sameKV_eq _ _ h.2
@[simp] theorem O.same_self (a : O) : O.same a a = true := by cases a <;> simp [O.same]
def sameS : Sto → Sto → Bool
  | [], [] => true
  | a :: r, b :: r' => a.same b && sameS r r'
  | _, _ => false
theorem sameS_eq : ∀ a b : Sto, sameS a b = true → a = b
  | [], [], _ => rfl
  | [], _ :: _, h => by simp [sameS] at h
  | _ :: _, [], h => by simp [sameS] at h
  | a :: r, b :: r', h => by
    simp only [sameS, Bool.and_eq_true] at h
    rw [O.same_eq _ _ h.1, sameS_eq r r' h.2]
@[simp] theorem sameS_self : ∀ a : Sto, sameS a a = true
  | [] => by simp [sameS]
  | a :: r => by simp [sameS, sameS_self r]
mutual
/-- no object with identity in it -/
def D.noref : D → Bool
  | .tup xs => D.norefs xs
  | .lst xs => D.norefs xs
  | .ref _ => false
  | _ => true
def D.norefs : List D → Bool
  | [] => true
  | d :: ds => d.noref && D.norefs ds
end

/-! ### Python's == of data -/
/-- data without objects, so deep at most -/
def D.okd : Nat → D → Bool
  | _, .non => true
  | _, .bl _ => true
  | _, .int _ => true
  | _, .str x => PyData.strOk x
  | n + 1, .tup xs => xs.all (okd n)
  | n + 1, .lst xs => xs.all (okd n)
  | _, _ => false
mutual
def D.eqv : D → D → Bool
  | .non, .non => true
  | .bl a, .bl b => a == b
  | .bl a, .int j => (if a then 1 else 0) == j
  | .int i, .bl b => i == (if b then 1 else 0)
  | .int i, .int j => i == j
  | .str x, .str y => x == y
  | .tup xs, .tup ys => D.eqvs xs ys
  | .lst xs, .lst ys => D.eqvs xs ys
  | _, _ => false
def D.eqvs : List D → List D → Bool
  | [], [] => true
  | x :: xs, y :: ys => D.eqv x y && D.eqvs xs ys
  | _, _ => false
end
def eqD (a b : D) : Option Bool := match a, b with
  | .scr ns, .lst [] => some ns.isEmpty
  | .str x, .str y => some (x == y)
  | a, b => if a.okd 8 && b.okd 8 then some (a.eqv b) else none

/-! ### operators -/
inductive BOp where | add | sub | mul | fdiv | mod | pow deriving DecidableEq
inductive COp where | eq | ne | lt | le | gt | ge | isin | notin deriving DecidableEq
/-- sizes that never matter -/
def cap : Nat := 1000000
def bop (op : BOp) (a b : D) : Option D := match op, a, b with
  | .add, .int i, .int j => some (.int (i + j))
  | .add, .str x, .str y => if x.length + y.length ≤ cap then some (.str (x ++ y)) else none
  | .add, .lst xs, .lst ys => if xs.length + ys.length ≤ cap then some (.lst (xs ++ ys)) else none
  | .add, .tup xs, .tup ys => if xs.length + ys.length ≤ cap then some (.tup (xs ++ ys)) else none
  | .sub, .int i, .int j => some (.int (i - j))
  | .mul, .int i, .int j => if (j.natAbs < 2 ^ 64 || i.natAbs < 2 ^ 64) || (i.natAbs < 2 ^ 1000 && j.natAbs < 2 ^ 1000) then some (.int (i * j)) else none
  | .mul, .lst xs, .int k => if k.natAbs ≤ cap && xs.length * k.toNat ≤ cap then some (.lst (List.replicate k.toNat xs).flatten) else none
  | .fdiv, .int i, .int j => if 0 < j && j.natAbs < 2 ^ 1000 then some (.int (i / j)) else none
  | .mod, .int i, .int j => if 0 < j then some (.int (i % j)) else none
  | .pow, .int i, .int j => if (0 ≤ j && j ≤ 1000) && i.natAbs < 2 ^ 64 then some (.int (i ^ j.toNat)) else none
  | _, _, _ => none
def nonD : D → Bool
  | .non => true
  | _ => false
def flatD : D → Bool
  | .non => true
  | .bl _ => true
  | .int _ => true
  | .str _ => true
  | _ => false
def keyD : D → Option Key
  | .int i => some (.inl i)
  | .str x => some (.inr x)
  | _ => none
def keysD : List D → Option (List Key)
  | [] => some []
  | d :: ds => match keyD d, keysD ds with
    | some k, some ks => some (k :: ks)
    | _, _ => none
/-- an object that is a list, read as a list -/
def view (S : Sto) (d : D) : D := match d with
  | .ref n => (match S[n]? with
    | some (.lst xs) => .lst xs
    | _ => d)
  | d => d
/-- what a table has at a key -/
def getK {κ α : Type} [DecidableEq κ] (kvs : List (κ × α)) (k : κ) : Option α := (kvs.find? fun kv => decide (kv.1 = k)).map (·.2)
/-- x in y (y no list object any more) -/
def isIn (S : Sto) (x y : D) : Option Bool := match y with
  | .lst xs => if x.okd 7 && xs.all (D.okd 7) then some (xs.any fun z => z.eqv x) else none
  | .tup xs => if flatD x && xs.all flatD then some (xs.any fun z => z.eqv x) else none
  | .str z => (match x with
    | .str y => (match y.cps.toList with
      | [c] => some (decide (c ∈ z.cps.toList))
      | _ => none)
    | _ => none)
  | .ref n => (match S[n]? with
    | some (.dic kvs) => (keyD x).map fun k => (getK kvs k).isSome
    | _ => none)
  | _ => none
def cop (S : Sto) (op : COp) (a b : D) : Option Bool := match op, a, b with
  | .lt, .int i, .int j => some (decide (i < j))
  | .le, .int i, .int j => some (decide (i ≤ j))
  | .gt, .int i, .int j => some (decide (j < i))
  | .ge, .int i, .int j => some (decide (j ≤ i))
  | .eq, a, b => eqD (view S a) (view S b)
  | .ne, a, b => (eqD (view S a) (view S b)).map (! ·)
  | .isin, a, b => isIn S a (view S b)
  | .notin, a, b => (isIn S a (view S b)).map (! ·)
  | _, _, _ => none
def getI {α : Type} (xs : List α) (i : Int) : Option α := atI xs i
def index (S : Sto) (o i : D) : Option D := match view S o, i with
  | .lst xs, .int i => getI xs i
  | .tup xs, .int i => getI xs i
  | .scr ns, .int i => (getI ns i).map .int
  | .str z, .int i => if z.length ≤ cap then (getI z.cps.toList i).map fun c => .str ⟨#[c]⟩ else none
  | .ref n, k => (match S[n]? with
    | some (.dic kvs) => (keyD k).bind fun k => getK kvs k
    | _ => none)
  | _, _ => none
def cutD {α : Type} (xs : List α) (lo hi : Option Int) : List α := (xs.drop (HT.sIx xs.length 0 lo)).take (HT.sIx xs.length xs.length hi - HT.sIx xs.length 0 lo)
def partD : List D → Option (Option Int)
  | [] => some none
  | [.int i] => some (some i)
  | _ => none
def slice (S : Sto) (o : D) (l h : Option Int) : Option D := match view S o with
  | .lst xs => some (.lst (cutD xs l h))
  | .tup xs => some (.tup (cutD xs l h))
  | .str z => if z.length ≤ cap then some (.str ⟨(cutD z.cps.toList l h).toArray⟩) else none
  | _ => none
def attr (S : Sto) (o : D) (f : Nat) : Option D := match o with
  | .ref n => (match S[n]? with
    | some (.ins _ fs) => fs.lookup f
    | _ => none)
  | _ => none

/-! ### built-ins -/
inductive Ty where | int | bool | str | list | tuple | dict deriving DecidableEq
def isTy (S : Sto) (d : D) (t : Ty) : Option Bool := match d with
  | .non => some false
  | .bl _ => some (t == .bool || t == .int)
  | .int _ => some (t == .int)
  | .str _ => some (t == .str)
  | .tup _ => some (t == .tuple)
  | .lst _ => some (t == .list)
  | .scr _ => none
  | .ref n => (match S[n]? with
    | some (.lst _) => some (t == .list)
    | some (.dic _) => some (t == .dict)
    | _ => none)
def isTys (S : Sto) (d : D) : List Ty → Option Bool
  | [] => some false
  | t :: ts => match isTy S d t, isTys S d ts with
    | some b, some c => some (b || c)
    | _, _ => none
def intsD : List D → Option (List Int)
  | [] => some []
  | .int i :: ds => (intsD ds).map (i :: ·)
  | _ => none
def blsD : List D → Option (List Bool)
  | [] => some []
  | .bl i :: ds => (blsD ds).map (i :: ·)
  | _ => none
def maxI : List Int → Option Int
  | [] => none
  | i :: is => some (is.foldl max i)
def minI : List Int → Option Int
  | [] => none
  | i :: is => some (is.foldl min i)
def insI (i : Int) : List Int → List Int
  | [] => [i]
  | j :: js => if i ≤ j then i :: j :: js else j :: insI i js
def sortI : List Int → List Int
  | [] => []
  | i :: is => insI i (sortI is)
inductive Bi where | len | abs | max | min | sum | sorted | all | int | tuple | list | listR | tupleR | nset deriving DecidableEq
/-- each once, in the order of the first -/
def firsts (ns : List Int) : List Int := ns.foldl (fun acc i => if acc.any (· == i) then acc else acc ++ [i]) []
def bi (S : Sto) (b : Bi) (ds : List D) : Option D := match b, ds with
  | .len, [d] => (match view S d with
    | .lst xs => some (.int xs.length)
    | .tup xs => some (.int xs.length)
    | .scr ns => some (.int ns.length)
    | .str z => if z.length ≤ cap then some (.int z.length) else none
    | _ => none)
  | .abs, [.int i] => some (.int (if i < 0 then -i else i))
  | .max, [.int i, .int j] => some (.int (if j > i then j else i))
  | .min, [.int i, .int j] => some (.int (if j < i then j else i))
  | .max, [d] => (match view S d with
    | .lst xs => ((intsD xs).bind maxI).map .int
    | _ => none)
  | .min, [d] => (match view S d with
    | .lst xs => ((intsD xs).bind minI).map .int
    | _ => none)
  | .sum, [d] => (match view S d with
    | .lst xs => (intsD xs).map fun ns => .int ns.sum
    | _ => none)
  | .sorted, [d] => (match view S d with
    | .lst xs => (intsD xs).map fun ns => .lst ((sortI ns).map .int)
    | .ref n => (match S[n]? with
      | some (.dic kvs) => if kvs.length < 64 then (intsD (kvs.map fun kv => (match kv.1 with
        | .inl i => .int i
        | .inr x => .str x))).map fun ns => .lst ((sortI ns).map .int) else none
      | _ => none)
    | _ => none)
  | .all, [d] => (match view S d with
    | .lst xs => (blsD xs).map fun bs => .bl (bs.all id)
    | _ => none)
  | .int, [.int i] => some (.int i)
  | .int, [.bl b] => some (.int (if b then 1 else 0))
  | .tuple, [d] => (match view S d with
    | .lst xs => some (.tup xs)
    | .tup xs => some (.tup xs)
    | _ => none)
  | .list, [d] => (match view S d with
    | .lst xs => some (.lst xs)
    | .tup xs => some (.lst xs)
    | _ => none)
  | .listR, [.int n] => if n ≤ cap && 0 ≤ n then some (.lst ((List.range n.toNat).map fun (i : Nat) => .int i)) else none
  | .tupleR, [.int n] => if n ≤ cap && 0 ≤ n then some (.tup ((List.range n.toNat).map fun (i : Nat) => .int i)) else none
  | .nset, [d] => (match view S d with
    | .lst xs => (intsD xs).bind fun ns => if ns.length ≤ 4000 then some (.int (firsts ns).length) else none
    | _ => none)
  | _, _ => none

/-! ### the language -/
inductive SrcK where | seq | rng | enum | zip | keys | signs deriving DecidableEq
inductive Bm where | append | extend | pop0 | popAt | clear | remove | index deriving DecidableEq
inductive E where
  | var (i : Nat) | kon (d : D) | gtup (xs : List Str)
  | tup (es : List E) | lst (es : List E) | newL (es : List E) | newD (ks : List Str) (es : List E)
  | bin (op : BOp) (a b : E) | neg (a : E)
  | cmp (op : COp) (a b : E) | isN (a : E) | notN (a : E) | chain (o1 o2 : COp) (a b c : E)
  | and (a b : E) | or (a b : E) | not (a : E) | ite (c a b : E)
  | call (f : Nat) (es : List E) | meth (m : Nat) (o : E) (es : List E) | new (c : Nat) (es : List E) | attr (o : E) (f : Nat)
  | idx (o i : E) | sli (o : E) (lo hi : List E) | rev (o : E)
  | bi (b : Bi) (es : List E) | isi (a : E) (ts : List Ty)
  | bm (m : Bm) (o : E) (es : List E)
  | comp (tg : List Nat) (tp : Bool) (k : SrcK) (src : List E) (cond elt : E)
  | told (n : Nat) (e : E) | frz (e : E) | bounds (e : E) | dpop (o k : E) | dpop1 (o k : E)
inductive T where
  | nm (i : Nat) | at (o : E) (f : Nat) | ix (o k : E)
inductive C where
  | expr (e : E) | asg (t : T) (e : E) | unp (ts : List T) (e : E) | par (is : List Nat) (es : List E)
  | ifs (c : E) (a b : List C) | for_ (tg : List Nat) (tp : Bool) (k : SrcK) (src : List E) (body : List C) | whil (c : E) (body : List C)
  | ret (e : E) | retN | raise (c : Nat) | pass | frz (i : Nat)

/-! ### slots -/
def Env.get : Env → Nat → Option D
  | [], _ => none
  | x :: _, 0 => x
  | _ :: r, n + 1 => Env.get r n
def Env.put : Env → Nat → D → Env
  | [], _, _ => []
  | _ :: r, 0, d => some d :: r
  | x :: r, n + 1, d => x :: Env.put r n d
def Env.wipe : Env → Nat → Env
  | [], _ => []
  | _ :: r, 0 => none :: r
  | x :: r, n + 1 => x :: Env.wipe r n
/-- a turn's item into its names -/
def bindT (tg : List Nat) (tp : Bool) (d : D) (env : Env) : Option Env := match tp, tg, d with
  | false, [i], d => some (env.put i d)
  | true, [i, j], .tup [a, b] => some ((env.put i a).put j b)
  | _, _, _ => none
/-- what a for walks -/
def items (S : Sto) (k : SrcK) (ds : List D) : Option (List D) := match k, ds with
  | .seq, [d] => (match d with
    | .lst xs => some xs
    | .tup xs => some xs
    | _ => none)
  | .rng, [.int n] => if 0 ≤ n && n ≤ cap then some ((List.range n.toNat).map fun (i : Nat) => .int i) else none
  | .rng, [.int a, .int b] => if (b - a ≤ cap && a.natAbs ≤ 2 ^ 40) && b.natAbs ≤ 2 ^ 40 then some ((List.range (b - a).toNat).map fun (i : Nat) => .int (a + i)) else none
  | .rng, [.int a, .int b, .int c] => if ((0 ≤ a && b + c ≤ cap) && 0 < c) && a ≤ b then some ((List.range ((b - a + c - 1) / c).toNat).map fun (i : Nat) => .int (a + i * c)) else none
  | .enum, [.lst xs] => some ((List.range xs.length).zip xs |>.map fun p => .tup [.int (p.1 : Nat), p.2])
  | .zip, [.lst xs, .lst ys] => some ((xs.zip ys).map fun p => .tup [p.1, p.2])
  | .zip, [.tup xs, .tup ys] => some ((xs.zip ys).map fun p => .tup [p.1, p.2])
  | .signs, [.str z] => if z.cps.size ≤ cap then some (z.cps.toList.map fun c => .str ⟨#[c]⟩) else none
  | _, _ => none

/-! ### stores -/
def putK {κ : Type} [DecidableEq κ] (k : κ) (d : D) (kvs : List (κ × D)) : List (κ × D) :=
  if (kvs.any fun kv => decide (kv.1 = k)) = true then kvs.map (fun kv => if kv.1 = k then (kv.1, d) else kv) else kvs ++ [(k, d)]
def dropKV {κ : Type} [DecidableEq κ] (k : κ) (kvs : List (κ × D)) : List (κ × D) := kvs.filter fun kv => decide (kv.1 ≠ k)
/-- a display's pairs -/
def dispK (ps : List (Str × D)) : List (Key × D) := ps.foldl (fun acc p => putK (.inr p.1) p.2 acc) []
/-- an attribute -/
def putA (f : Nat) (d : D) : List (Nat × D) → List (Nat × D)
  | [] => [(f, d)]
  | (g, x) :: r => if g = f then (g, d) :: r else (g, x) :: putA f d r
def setAttr (S : Sto) (o : D) (f : Nat) (d : D) : Option Sto := match o with
  | .ref n => (match S[n]? with
    | some (.ins c fs) => if fs.length < 100 then some (S.set n (.ins c (putA f d fs))) else none
    | _ => none)
  | _ => none
def setIdx (S : Sto) (o k d : D) : Option Sto := match o with
  | .ref n => (match S[n]? with
    | some (.dic kvs) => (keyD k).bind fun k => if kvs.length < cap then some (S.set n (.dic (putK k d kvs))) else none
    | _ => none)
  | _ => none
def rmI (i : Int) : List D → Option (List D)
  | [] => none
  | .int j :: r => if j = i then some r else (rmI i r).map (.int j :: ·)
  | _ => none
/-- a list object's method -/
def bm (S : Sto) (m : Bm) (o : D) (ds : List D) : Option (D × Sto) := match o with
  | .ref n => (match S[n]? with
    | some (.lst xs) => (match m, ds with
      | .append, [d] => if xs.length < cap then some (.non, S.set n (.lst (xs ++ [d]))) else none
      | .extend, [.lst ys] => if xs.length + ys.length ≤ cap then some (.non, S.set n (.lst (xs ++ ys))) else none
      | .pop0, [] => (match xs[xs.length - 1]? with
        | some y => some (y, S.set n (.lst xs.dropLast))
        | none => none)
      | .popAt, [.int i] => if xs.length ≤ cap then (match ixN xs.length i with
        | some j => (xs[j]?).map fun y => (y, S.set n (.lst (xs.eraseIdx j)))
        | none => none) else none
      | .clear, [] => some (.non, S.set n (.lst []))
      | .remove, [.int i] => (rmI i xs).map fun ys => (.non, S.set n (.lst ys))
      | _, _ => none)
    | _ => none)
  | _ => none
/-- a list object is a list from now on -/
def freeze (S : Sto) (d : D) : Option (D × Sto) := match d with
  | .ref n => (match S[n]? with
    | some (.lst xs) => some (.lst xs, S.set n .dead)
    | _ => none)
  | _ => none
def bounds : List (Str × Int) := [("level", 100), ("scene", 7), ("fade", 50), ("join", 7), ("leave", 7), ("store", 7), ("forget", 7), ("short", 15), ("group", 7)]
/-- the names of the refusals -/
def excName : Nat → Str
  | 0 => "BadHouse"
  | 1 => "BadWord"
  | 2 => "BadNumber"
  | 3 => "BadWish"
  | 4 => "NoWay"
  | 5 => "BadText"
  | 6 => "BadRows"
  | _ => "Nothing"

/-- nothing that is raised leaves it -/
def R.calm {α : Type} (r : R α) : R α := match r with
  | .exc _ _ => .bad
  | r => r
/-! ### running -/
/-- def number f, its arguments -/
abbrev Call := Nat → List D → Sto → R D
structure Rules where
  call : Call
  /-- the __init__ of a class; a class's method -/
  init : Nat → Nat
  meth : Nat → Nat → Option Nat
def tB (r : R D) (f : Bool → Sto → R D) : R D := r.bind fun d S => match d with
  | .bl b => f b S
  | _ => .bad
/-- a comprehension's turns -/
def compL (turn : D → Sto → R (Option D)) : List D → Sto → R (List D)
  | [], S => .ok [] S
  | d :: ds, S => (turn d S).bind fun o S => (compL turn ds S).bind fun r S => .ok (match o with
    | some x => x :: r
    | none => r) S
mutual
def evE (G : Rules) : E → Env → Sto → R D
  | .var i, env, S => opt (env.get i) S
  | .kon d, _, S => .ok d S
  | .gtup xs, _, S => .ok (.tup (xs.map .str)) S
  | .tup es, env, S => (evEs G es env S).bind fun ds S => .ok (.tup ds) S
  | .lst es, env, S => (evEs G es env S).bind fun ds S => .ok (.lst ds) S
  | .newL es, env, S => (evEs G es env S).bind fun ds S => .ok (.ref S.length) (S ++ [.lst ds])
  | .newD ks es, env, S => (evEs G es env (S ++ [.dic []])).bind fun ds S' => (match S'[S.length]? with
    | some (.dic []) => .ok (.ref S.length) (S'.set S.length (.dic (dispK (ks.zip ds))))
    | _ => .bad)
  | .bin op a b, env, S => (evE G a env S).bind fun x S => (evE G b env S).bind fun y S => opt (bop op (view S x) (view S y)) S
  | .neg a, env, S => (evE G a env S).bind fun x S => match x with
    | .int i => .ok (.int (-i)) S
    | _ => .bad
  | .cmp op a b, env, S => (evE G a env S).bind fun x S => (evE G b env S).bind fun y S => opt ((cop S op x y).map .bl) S
  | .isN a, env, S => (evE G a env S).bind fun x S => .ok (.bl (nonD x)) S
  | .notN a, env, S => (evE G a env S).bind fun x S => .ok (.bl (!nonD x)) S
  | .chain o1 o2 a b c, env, S => (evE G a env S).bind fun x S => (evE G b env S).bind fun y S => (opt (cop S o1 x y) S).bind fun k S =>
    match k with
    | true => (evE G c env S).bind fun z S => opt ((cop S o2 y z).map .bl) S
    | false => .ok (.bl false) S
  | .and a b, env, S => tB (evE G a env S) fun k S => match k with
    | true => tB (evE G b env S) fun k S => .ok (.bl k) S
    | false => .ok (.bl false) S
  | .or a b, env, S => tB (evE G a env S) fun k S => match k with
    | true => .ok (.bl true) S
    | false => tB (evE G b env S) fun k S => .ok (.bl k) S
  | .not a, env, S => tB (evE G a env S) fun k S => .ok (.bl (!k)) S
  | .ite c a b, env, S => tB (evE G c env S) fun k S => match k with
    | true => evE G a env S
    | false => evE G b env S
  | .call f es, env, S => (evEs G es env S).bind fun ds S => G.call f ds S
  | .meth m o es, env, S => (evE G o env S).calm.bind fun x S => match x with
    | .ref n => (match S[n]? with
      | some (.ins c _) => (match G.meth c m with
        | some f => (evEs G es env S).bind fun ds S => G.call f (.ref n :: ds) S
        | none => .bad)
      | _ => .bad)
    | _ => .bad
  | .new c es, env, S => (evEs G es env S).bind fun ds S => (G.call (G.init c) (.ref S.length :: ds) (S ++ [.ins c []])).bind fun d S' => match d with
    | .non => .ok (.ref S.length) S'
    | _ => .bad
  | .attr o f, env, S => (evE G o env S).bind fun x S => opt (attr S x f) S
  | .idx o i, env, S => (evE G o env S).bind fun x S => (evE G i env S).bind fun y S => opt (index S x y) S
  | .sli o lo hi, env, S => (evE G o env S).bind fun x S => (evEs G lo env S).bind fun ls S => (opt (partD ls) S).bind fun l S => (evEs G hi env S).bind fun hs S => (opt (partD hs) S).bind fun h S => opt (slice S x l h) S
  | .rev o, env, S => (evE G o env S).bind fun x S => match view S x with
    | .lst xs => .ok (.lst xs.reverse) S
    | _ => .bad
  | .bi b es, env, S => (evEs G es env S).bind fun ds S => opt (bi S b ds) S
  | .isi a ts, env, S => (evE G a env S).bind fun x S => opt ((isTys S x ts).map .bl) S
  | .bm m o es, env, S => (evE G o env S).bind fun x S => match view S x with
    | .lst _ => (evEs G es env S).bind fun ds S => (match bm S m x ds with
      | some (d, S') => .ok d S'
      | none => .bad)
    | _ => .bad
  | .comp tg tp k src cond elt, env, S => (evEs G src env S).bind fun ds S => (opt (items S k ds) S).bind fun its S =>
    ((compL (fun d S => match bindT tg tp d (tg.foldr (fun i e => e.wipe i) env) with
      | some env' => (evE G cond env' S).bind fun c S => (match c with
        | .bl true => (evE G elt env' S).bind fun x S => .ok (some x) S
        | .bl false => .ok none S
        | _ => .bad)
      | none => .bad) its S).calm).bind fun xs S => .ok (.lst xs) S
  | .told n e, env, S => match evE G e env S with
    | .ok d S => .ok d S
    | .exc c S => if c < n then .ok (.str (excName c)) S else .bad
    | .bad => .bad
  | .frz e, env, S => (evE G e env S).bind fun x S => match freeze S x with
    | some (d, S') => .ok d S'
    | none => .bad
  | .bounds e, env, S => (evE G e env S).bind fun x S => match x with
    | .str z => opt ((bounds.lookup z).map .int) S
    | _ => .bad
  | .dpop o k, env, S => (evE G o env S).bind fun x S => match x with
    | .ref n => (match S[n]? with
      | some (.dic _) => (evE G k env S).bind fun y S => (match keyD y, S[n]? with
        | some k, some (.dic kvs) => (match getK kvs k with
          | some d => .ok d (S.set n (.dic (dropKV k kvs)))
          | none => .ok .non S)
        | _, _ => .bad)
      | _ => .bad)
    | _ => .bad
  | .dpop1 o k, env, S => (evE G o env S).bind fun x S => match x with
    | .ref n => (match S[n]? with
      | some (.dic _) => (evE G k env S).bind fun y S => (match keyD y, S[n]? with
        | some k, some (.dic kvs) => (match getK kvs k with
          | some d => .ok d (S.set n (.dic (dropKV k kvs)))
          | none => .bad)
        | _, _ => .bad)
      | _ => .bad)
    | _ => .bad
def evEs (G : Rules) : List E → Env → Sto → R (List D)
  | [], _, S => .ok [] S
  | e :: es, env, S => (evE G e env S).bind fun d S => (evEs G es env S).bind fun ds S => .ok (d :: ds) S
end
def F.of {α : Type} (r : R α) (f : α → Sto → F) : F := match r with
  | .ok d S => f d S
  | .exc c S => .exc c S
  | .bad => .bad
/-- then -/
def F.seq (f : F) (g : Env → Sto → F) : F := match f with
  | .nx env S => g env S
  | r => r
/-- a turn of a loop, then the others -/
def F.turn (f : F) (g : Env → Sto → F) : F := match f with
  | .nx env S => g env S
  | .ct env S => g env S
  | .bk env S => .nx env S
  | r => r
/-- a value into a target -/
def store (G : Rules) (t : T) (d : D) (env : Env) (S : Sto) : F := match t with
  | .nm i => .nx (env.put i d) S
  | .at o f => F.of (evE G o env S) fun x S => match setAttr S x f d with
    | some S' => .nx env S'
    | none => .bad
  | .ix o k => F.of (evE G o env S) fun x S => F.of (evE G k env S) fun y S => match setIdx S x y d with
    | some S' => .nx env S'
    | none => .bad
def stores (G : Rules) : List T → List D → Env → Sto → F
  | [], [], env, S => .nx env S
  | t :: ts, d :: ds, env, S => (store G t d env S).seq fun env S => stores G ts ds env S
  | _, _, _, _ => .bad
def putAll : List Nat → List D → Env → Option Env
  | [], [], env => some env
  | i :: is, d :: ds, env => putAll is ds (env.put i d)
  | _, _, _ => none
/-- a for's turns -/
def forL (tg : List Nat) (tp : Bool) (body : Env → Sto → F) : List D → Env → Sto → F
  | [], env, S => .nx env S
  | d :: ds, env, S => (match bindT tg tp d env with
    | some env' => (body env' S).turn fun env S => forL tg tp body ds env S
    | none => .bad)
/-- a while's turns -/
def whileL (test : Env → Sto → R D) (body : Env → Sto → F) : Nat → Env → Sto → F
  | 0, _, _ => .bad
  | n + 1, env, S => F.of (test env S) fun c S => (match c with
    | .bl true => (body env S).turn fun env S => whileL test body n env S
    | .bl false => .nx env S
    | _ => .bad)
mutual
def evC (G : Rules) : C → Env → Sto → F
  | .expr e, env, S => F.of (evE G e env S) fun _ S => .nx env S
  | .asg t e, env, S => F.of (evE G e env S) fun d S => store G t d env S
  | .unp ts e, env, S => F.of (evE G e env S) fun d S => (match d with
    | .tup ds => if ds.length = ts.length then stores G ts ds env S else .bad
    | _ => .bad)
  | .par is es, env, S => F.of (evEs G es env S) fun ds S => (match putAll is ds env with
    | some env' => .nx env' S
    | none => .bad)
  | .ifs c a b, env, S => F.of (evE G c env S) fun d S => (match d with
    | .bl true => evCs G a env S
    | .bl false => evCs G b env S
    | _ => .bad)
  | .for_ tg tp k src body, env, S => F.of ((evEs G src env S).bind fun ds S => opt (items S k ds) S) fun its S => forL tg tp (fun env S => evCs G body env S) its env S
  | .whil c body, env, S => whileL (fun env S => evE G c env S) (fun env S => evCs G body env S) 100000 env S
  | .ret e, env, S => F.of (evE G e env S) fun d S => .rt d S
  | .retN, _, S => .rt .non S
  | .raise c, _, S => .exc c S
  | .pass, env, S => .nx env S
  | .frz i, env, S => (match env.get i with
    | some d => (match freeze S d with
      | some (d', S') => .nx (env.put i d') S'
      | none => .bad)
    | none => .bad)
def evCs (G : Rules) : List C → Env → Sto → F
  | [], env, S => .nx env S
  | c :: cs, env, S => (evC G c env S).seq fun env S => evCs G cs env S
end
/-- a def: how many parameters, how many slots, whether it leaves all objects as they were -/
structure Fn where
  ar : Nat
  sl : Nat
  pure : Bool
  body : List C
structure Tab where
  fn : Nat → Option Fn
  init : Nat → Nat
  meth : Nat → Nat → Option Nat
def fin (p : Bool) (S : Sto) : F → R D
  | .rt d S' => if p then (if sameS (S'.take S.length) S && d.noref then .ok d S else .bad) else .ok d S'
  | .nx _ S' => if p then (if sameS (S'.take S.length) S then .ok .non S else .bad) else .ok .non S'
  | .exc c S' => if p then (if sameS (S'.take S.length) S then .exc c S else .bad) else .exc c S'
  | _ => .bad
def callAt (T : Tab) : Nat → Call
  | 0, _, _, _ => .bad
  | k + 1, f, ds, S => (match T.fn f with
    | some fn => if ds.length = fn.ar then fin fn.pure S (evCs ⟨callAt T k, T.init, T.meth⟩ fn.body (ds.map some ++ List.replicate (fn.sl - fn.ar) none) S) else .bad
    | none => .bad)
end Y

end

section
set_option Elab.async false
set_option linter.all false
set_option maxRecDepth 100000
set_option maxHeartbeats 1000000
namespace Y
open PySem L2

/-! ### a store stands in an abstract heap -/
/-- where the classes stand, how attributes are called, the tables of code objects -/
structure Cfg where
  K : PySem.W.Frag
  ca : Nat → Addr
  fn : Nat → Str
  inj : ∀ i j, fn i = fn j → i = j
  T : List (Addr × Str)
  ncl : Nat
  /-- lists that are being made: no value stands for them -/
  z : List Addr
def Cfg.at (c : Cfg) (z : List Addr) : Cfg := { c with z := z }

def Live (ι : List Addr) (S : Sto) (a : Addr) : Prop := ∃ (n : Nat) (o : O), ι[n]? = some a ∧ S[n]? = some o ∧ o ≠ .dead
/-- a list of the written part -/
def KL (K : PySem.W.Frag) (a : Addr) (xs : List V) : Prop := ∃ (o : Obj) (its : Array Value) (n : Nat), K.lookup a = some o ∧ o.cls = .type "list" ∧ o.dict = none ∧ o.data = .seq its n ∧ its.size ≤ sizeLine ∧ Vals xs its.toList
section
variable (c : Cfg)
mutual
def RV (ι : List Addr) (S : Sto) (H : Hp) : D → V → Prop
  | .non, v => v = .non
  | .bl b, v => v = .bl b
  | .int i, v => v = .int i
  | .str x, v => v = .str x
  | .tup xs, v => ∃ a vs, v = .ref a ∧ SqT c.K H a vs ∧ RVs ι S H xs vs
  | .lst xs, v => ∃ a vs, v = .ref a ∧ H a = some (.lst vs) ∧ (¬ Live ι S a ∧ a ∉ c.z) ∧ RVs ι S H xs vs
  | .scr ns, v => ∃ a, v = .ref a ∧ ((Rd H a (.lst (ns.map .int)) ∧ ¬ Live ι S a ∧ a ∉ c.z) ∨ KL c.K a (ns.map .int))
  | .ref n, v => ∃ a, v = .ref a ∧ ι[n]? = some a
def RVs (ι : List Addr) (S : Sto) (H : Hp) : List D → List V → Prop
  | [], [] => True
  | d :: ds, v :: vs => RV ι S H d v ∧ RVs ι S H ds vs
  | _, _ => False
end
def RKs {κ : Type} (ι : List Addr) (S : Sto) (H : Hp) : List (κ × D) → List (κ × V) → Prop
  | [], [] => True
  | d :: ds, v :: vs => (d.1 = v.1 ∧ RV c ι S H d.2 v.2) ∧ RKs ι S H ds vs
  | _, _ => False
def RFs (ι : List Addr) (S : Sto) (H : Hp) : List (Nat × D) → List (Str × V) → Prop
  | [], [] => True
  | d :: ds, v :: vs => (v.1 = c.fn d.1 ∧ RV c ι S H d.2 v.2) ∧ RFs ι S H ds vs
  | _, _ => False
def OR (ι : List Addr) (S : Sto) (H : Hp) (o : O) (a : Addr) : Prop := match o with
  | .dead => True
  | .lst xs => ∃ vs, H a = some (.lst vs) ∧ RVs c ι S H xs vs
  | .dic kvs => ∃ ws, H a = some (.dK ws) ∧ RKs c ι S H kvs ws
  | .dit kvs => ∃ ws, H a = some (.dT ws) ∧ RKs c ι S H kvs ws
  | .ins k fs => k < c.ncl ∧ ∃ dx gs, H a = some (.ins (c.ca k) dx gs) ∧ RFs c ι S H fs gs
structure SR (ι : List Addr) (S : Sto) (H : Hp) : Prop where
  len : ι.length = S.length
  inj : ∀ (n m : Nat) (a : Addr) (o o' : O), ι[n]? = some a → ι[m]? = some a → S[n]? = some o → o ≠ .dead → S[m]? = some o' → o' ≠ .dead → n = m
  obj : ∀ (n : Nat) (a : Addr) (o : O), ι[n]? = some a → S[n]? = some o → OR c ι S H o a
  tab : LamX.Tabs c.T H
  zed : ∀ a ∈ c.z, (∃ vs, H a = some (.lst vs)) ∧ ¬ Live ι S a
/-- nothing stands there, but for a table -/
def Gone (H : Hp) (a : Addr) : Prop := ∀ o, H a = some o → ∃ ps, o = .tbl ps
theorem Gone.none {H : Hp} {a : Addr} (h : H a = none) : Gone H a := fun o e => by rw [h] at e; cases e
structure Step (ι : List Addr) (S : Sto) (H : Hp) (ι' : List Addr) (S' : Sto) (H' : Hp) : Prop where
  pre : ∃ r, ι' = ι ++ r
  keep : ∀ a o, H a = some o → ¬ Live ι S a → (∀ ps, o ≠ .tbl ps) → H' a = some o
  live : ∀ a, Live ι' S' a → Live ι S a ∨ Gone H a
  free : ∀ a, Gone H' a → Gone H a
end
section
variable {c : Cfg} {ι ι' ι1 ι2 : List Addr} {S S' S1 S2 : Sto} {H H' H1 H2 : Hp}
theorem Step.refl : Step ι S H ι S H := ⟨⟨[], by simp⟩, fun _ _ h _ _ => h, fun _ h => .inl h, fun _ h => h⟩
theorem Step.trans (x : Step ι S H ι1 S1 H1) (y : Step ι1 S1 H1 ι2 S2 H2) : Step ι S H ι2 S2 H2 := by
  refine ⟨?_, fun a o h n t => ?_, fun a h => ?_, fun a h => x.free a (y.free a h)⟩
  · obtain ⟨r, rfl⟩ := x.pre
    obtain ⟨q, rfl⟩ := y.pre
    exact ⟨r ++ q, by simp⟩
  · refine y.keep a o (x.keep a o h n t) (fun l => ?_) t
    rcases x.live a l with z | z
    · exact n z
    · obtain ⟨ps, e⟩ := z o h; exact t ps e
  · rcases y.live a h with z | z
    · exact x.live a z
    · exact .inr (x.free a z)
theorem get_pre {n : Nat} {a : Addr} (h : ι[n]? = some a) (r : List Addr) : (ι ++ r)[n]? = some a := by
  have := (List.getElem?_eq_some_iff.mp h).1
  rw [List.getElem?_append_left this]; exact h
/-- what stands at a live place -/
theorem SR.at_ (s : SR c ι S H) {a : Addr} (l : Live ι S a) : ∃ o, H a = some o ∧ Mut (some o) ∧ ((∃ vs, o = .lst vs) ∨ (∃ ws, o = .dK ws) ∨ (∃ ws, o = .dT ws) ∨ ∃ C dx gs, o = .ins C dx gs) := by
  obtain ⟨n, o, h1, h2, h3⟩ := l
  have := s.obj n a o h1 h2
  cases o with
  | dead => exact absurd rfl h3
  | lst xs => obtain ⟨vs, e, _⟩ := this; exact ⟨_, e, trivial, .inl ⟨_, rfl⟩⟩
  | dic xs => obtain ⟨vs, e, _⟩ := this; exact ⟨_, e, trivial, .inr (.inl ⟨_, rfl⟩)⟩
  | dit xs => obtain ⟨vs, e, _⟩ := this; exact ⟨_, e, trivial, .inr (.inr (.inl ⟨_, rfl⟩))⟩
  | ins k fs => obtain ⟨_, dx, gs, e, _⟩ := this; exact ⟨_, e, trivial, .inr (.inr (.inr ⟨_, _, _, rfl⟩))⟩
def Fixed : HO → Prop
  | .lst _ => False
  | .dK _ => False
  | .dT _ => False
  | .ins _ _ _ => False
  | _ => True
theorem SR.fixed (s : SR c ι S H) {a : Addr} {o : HO} (e : H a = some o) (f : Fixed o) : ¬ Live ι S a := fun l => by
  obtain ⟨u, q, _, z⟩ := s.at_ l
  rw [e] at q; cases q
  rcases z with ⟨_, z⟩ | ⟨_, z⟩ | ⟨_, z⟩ | ⟨_, _, _, z⟩ <;> (subst z; exact f)
theorem SqT.stepR (s : SR c ι S H) (st : Step ι S H ι' S' H') {a : Addr} {vs : List V} (h : SqT c.K H a vs) : SqT c.K H' a vs := by
  rcases h with (h | ⟨o, h⟩) | h
  · exact .inl (.inl (st.keep _ _ h (s.fixed h trivial) (fun _ z => nomatch z)))
  · exact .inl (.inr ⟨o, st.keep _ _ h (s.fixed h trivial) (fun _ z => nomatch z)⟩)
  · exact .inr h
theorem notLive_step (st : Step ι S H ι' S' H') {a : Addr} {o : HO} (h : H a = some o) (n : ¬ Live ι S a) (t : ∀ ps, o ≠ .tbl ps := by intro _ z; cases z) : ¬ Live ι' S' a := fun l => by
  rcases st.live a l with z | z
  · exact n z
  · obtain ⟨ps, e⟩ := z o h; exact t ps e
mutual
theorem RV.step (s : SR c ι S H) (st : Step ι S H ι' S' H') : ∀ (d : D) (v : V), RV c ι S H d v → RV c ι' S' H' d v
  | .non, _, h => h
  | .bl _, _, h => h
  | .int _, _, h => h
  | .str _, _, h => h
  | .tup xs, v, h => by
    obtain ⟨a, vs, e, q, r⟩ := h
    exact ⟨a, vs, e, SqT.stepR s st q, RVs.step s st xs vs r⟩
  | .lst xs, v, h => by
    obtain ⟨a, vs, e, q, n, r⟩ := h
    exact ⟨a, vs, e, st.keep _ _ q n.1 (fun _ z => nomatch z), ⟨notLive_step st q n.1, n.2⟩, RVs.step s st xs vs r⟩
  | .scr ns, v, h => by
    obtain ⟨a, e, ⟨q | ⟨o, q⟩, n⟩ | q⟩ := h
    · exact ⟨a, e, .inl ⟨.inl (st.keep _ _ q n.1 (fun _ z => nomatch z)), notLive_step st q n.1, n.2⟩⟩
    · exact ⟨a, e, .inl ⟨.inr ⟨o, st.keep _ _ q n.1 (fun _ z => nomatch z)⟩, notLive_step st q n.1, n.2⟩⟩
    · exact ⟨a, e, .inr q⟩
  | .ref n, v, h => by
    obtain ⟨a, e, q⟩ := h
    obtain ⟨r, rfl⟩ := st.pre
    exact ⟨a, e, get_pre q r⟩
theorem RVs.step (s : SR c ι S H) (st : Step ι S H ι' S' H') : ∀ (ds : List D) (vs : List V), RVs c ι S H ds vs → RVs c ι' S' H' ds vs
  | [], [], _ => trivial
  | [], _ :: _, h => h.elim
  | _ :: _, [], h => h.elim
  | d :: ds, v :: vs, h => ⟨RV.step s st d v h.1, RVs.step s st ds vs h.2⟩
end
theorem RKs.step {κ : Type} (s : SR c ι S H) (st : Step ι S H ι' S' H') : ∀ (ds : List (κ × D)) (vs : List (κ × V)), RKs c ι S H ds vs → RKs c ι' S' H' ds vs
  | [], [], _ => trivial
  | [], _ :: _, h => h.elim
  | _ :: _, [], h => h.elim
  | d :: ds, v :: vs, h => ⟨⟨h.1.1, RV.step s st _ _ h.1.2⟩, RKs.step s st ds vs h.2⟩
theorem RFs.step (s : SR c ι S H) (st : Step ι S H ι' S' H') : ∀ (ds : List (Nat × D)) (vs : List (Str × V)), RFs c ι S H ds vs → RFs c ι' S' H' ds vs
  | [], [], _ => trivial
  | [], _ :: _, h => h.elim
  | _ :: _, [], h => h.elim
  | d :: ds, v :: vs, h => ⟨⟨h.1.1, RV.step s st _ _ h.1.2⟩, RFs.step s st ds vs h.2⟩
/-- an object that still stands as it did -/
theorem OR.step (s : SR c ι S H) (st : Step ι S H ι' S' H') {o : O} {a : Addr} (e : H' a = H a) (h : OR c ι S H o a) : OR c ι' S' H' o a := by
  cases o with
  | dead => trivial
  | lst xs => obtain ⟨vs, q, r⟩ := h; exact ⟨vs, e.trans q, RVs.step s st _ _ r⟩
  | dic xs => obtain ⟨vs, q, r⟩ := h; exact ⟨vs, e.trans q, RKs.step s st _ _ r⟩
  | dit xs => obtain ⟨vs, q, r⟩ := h; exact ⟨vs, e.trans q, RKs.step s st _ _ r⟩
  | ins k fs => obtain ⟨hk, dx, gs, q, r⟩ := h; exact ⟨hk, dx, gs, e.trans q, RFs.step s st _ _ r⟩
theorem RVs.length : ∀ {ds : List D} {vs : List V}, RVs c ι S H ds vs → ds.length = vs.length
  | [], [], _ => rfl
  | [], _ :: _, h => h.elim
  | _ :: _, [], h => h.elim
  | d :: ds, v :: vs, h => by simp [RVs.length h.2]
theorem RVs.get : ∀ {ds : List D} {vs : List V} {i : Nat} {d : D}, RVs c ι S H ds vs → ds[i]? = some d → ∃ v, vs[i]? = some v ∧ RV c ι S H d v
  | [], [], _, _, _, e => by simp at e
  | [], _ :: _, _, _, h, _ => h.elim
  | _ :: _, [], _, _, h, _ => h.elim
  | d :: ds, v :: vs, 0, _, h, e => by simp at e; subst e; exact ⟨v, by simp, h.1⟩
  | d :: ds, v :: vs, i + 1, _, h, e => by
    obtain ⟨w, h1, h2⟩ := RVs.get h.2 (i := i) (by simpa using e)
    exact ⟨w, by simpa using h1, h2⟩
theorem RVs.append : ∀ {ds es : List D} {vs ws : List V}, RVs c ι S H ds vs → RVs c ι S H es ws → RVs c ι S H (ds ++ es) (vs ++ ws)
  | [], _, [], _, _, h => h
  | [], _, _ :: _, _, h, _ => h.elim
  | _ :: _, _, [], _, h, _ => h.elim
  | d :: ds, es, v :: vs, ws, h, k => ⟨h.1, RVs.append h.2 k⟩
theorem RVs.drop : ∀ {ds : List D} {vs : List V} (n : Nat), RVs c ι S H ds vs → RVs c ι S H (ds.drop n) (vs.drop n)
  | _, _, 0, h => by simpa using h
  | [], [], n + 1, _ => trivial
  | [], _ :: _, _ + 1, h => h.elim
  | _ :: _, [], _ + 1, h => h.elim
  | d :: ds, v :: vs, n + 1, h => by simpa using RVs.drop n h.2
theorem RVs.take : ∀ {ds : List D} {vs : List V} (n : Nat), RVs c ι S H ds vs → RVs c ι S H (ds.take n) (vs.take n)
  | _, _, 0, h => by simp [RVs]
  | [], [], n + 1, _ => trivial
  | [], _ :: _, _ + 1, h => h.elim
  | _ :: _, [], _ + 1, h => h.elim
  | d :: ds, v :: vs, n + 1, h => ⟨h.1, RVs.take n h.2⟩
theorem RVs.set {d : D} {v : V} (r : RV c ι S H d v) : ∀ {ds : List D} {vs : List V} (n : Nat), RVs c ι S H ds vs → RVs c ι S H (ds.set n d) (vs.set n v)
  | [], [], _, _ => trivial
  | [], _ :: _, _, h => h.elim
  | _ :: _, [], _, h => h.elim
  | _ :: ds, _ :: vs, 0, h => ⟨r, h.2⟩
  | _ :: ds, _ :: vs, n + 1, h => ⟨h.1, RVs.set r n h.2⟩
theorem RVs.eraseIdx : ∀ {ds : List D} {vs : List V} (n : Nat), RVs c ι S H ds vs → RVs c ι S H (ds.eraseIdx n) (vs.eraseIdx n)
  | [], [], _, _ => trivial
  | [], _ :: _, _, h => h.elim
  | _ :: _, [], _, h => h.elim
  | _ :: ds, _ :: vs, 0, h => h.2
  | _ :: ds, _ :: vs, n + 1, h => ⟨h.1, RVs.eraseIdx n h.2⟩
theorem RVs.dropLast {ds : List D} {vs : List V} (h : RVs c ι S H ds vs) : RVs c ι S H ds.dropLast vs.dropLast := by
  rw [List.dropLast_eq_take, List.dropLast_eq_take, h.length]
  exact h.take _
theorem RVs.reverse : ∀ {ds : List D} {vs : List V}, RVs c ι S H ds vs → RVs c ι S H ds.reverse vs.reverse
  | [], [], _ => trivial
  | [], _ :: _, h => h.elim
  | _ :: _, [], h => h.elim
  | d :: ds, v :: vs, h => by
    rw [List.reverse_cons, List.reverse_cons]
    exact RVs.append (RVs.reverse h.2) ⟨h.1, trivial⟩
theorem RVs.rep {ds : List D} {vs : List V} (h : RVs c ι S H ds vs) : ∀ n : Nat, RVs c ι S H (List.replicate n ds).flatten (List.replicate n vs).flatten
  | 0 => trivial
  | n + 1 => by
    rw [List.replicate_succ, List.replicate_succ, List.flatten_cons, List.flatten_cons]
    exact RVs.append h (RVs.rep h n)
theorem RVs.ints : ∀ {ns : List Int} {vs : List V}, RVs c ι S H (ns.map .int) vs → vs = ns.map .int
  | [], [], _ => rfl
  | [], _ :: _, h => h.elim
  | _ :: _, [], h => h.elim
  | n :: ns, v :: vs, h => by
    have e : v = .int n := h.1
    rw [e, RVs.ints h.2]; rfl
theorem RVs.of_ints : ∀ ns : List Int, RVs c ι S H (ns.map .int) (ns.map .int)
  | [] => trivial
  | n :: ns => ⟨rfl, RVs.of_ints ns⟩
theorem RVs.strs : ∀ {ns : List Str} {vs : List V}, RVs c ι S H (ns.map .str) vs → vs = ns.map .str
  | [], [], _ => rfl
  | [], _ :: _, h => h.elim
  | _ :: _, [], h => h.elim
  | n :: ns, v :: vs, h => by
    have e : v = .str n := h.1
    rw [e, RVs.strs h.2]; rfl
theorem RVs.of_strs : ∀ ns : List Str, RVs c ι S H (ns.map .str) (ns.map .str)
  | [] => trivial
  | n :: ns => ⟨rfl, RVs.of_strs ns⟩
theorem RVs.of_all {f : Nat → D} {g : Nat → V} (h : ∀ i, RV c ι S H (f i) (g i)) : ∀ l : List Nat, RVs c ι S H (l.map f) (l.map g)
  | [] => trivial
  | i :: l => ⟨h i, RVs.of_all h l⟩

theorem zed_step (s : SR c ι S H) (st : Step ι S H ι' S' H') : ∀ a ∈ c.z, (∃ vs, H' a = some (.lst vs)) ∧ ¬ Live ι' S' a := fun a ha => by
  obtain ⟨⟨vs, h1⟩, h2⟩ := s.zed a ha
  exact ⟨⟨vs, st.keep _ _ h1 h2 (fun _ z => nomatch z)⟩, notLive_step st h1 h2⟩
/-! ### new things, changed things -/
theorem Live.mono {a : Addr} (h : Live ι S a) (hl : ι.length = S.length) (r : List Addr) (q : List O) : Live (ι ++ r) (S ++ q) a := by
  obtain ⟨n, o, h1, h2, h3⟩ := h
  refine ⟨n, o, get_pre h1 r, ?_, h3⟩
  have := (List.getElem?_eq_some_iff.mp h2).1
  rw [List.getElem?_append_left this]; exact h2
theorem Live.snoc {a p : Addr} {o : O} (hl : ι.length = S.length) (h : Live (ι ++ [p]) (S ++ [o]) a) : Live ι S a ∨ a = p := by
  obtain ⟨n, u, h1, h2, h3⟩ := h
  by_cases hn : n < ι.length
  · rw [List.getElem?_append_left hn] at h1
    rw [List.getElem?_append_left (by omega)] at h2
    exact .inl ⟨n, u, h1, h2, h3⟩
  · have hn2 : n = ι.length := by
      have := (List.getElem?_eq_some_iff.mp h1).1
      simp at this; omega
    rw [hn2, List.getElem?_append_right (by omega)] at h1
    simp at h1
    exact .inr h1.symm
theorem tabs_new {T : List (Addr × Str)} {p : Addr} {o : HO} (t : LamX.Tabs T H) (hp : H p = none) : LamX.Tabs T (upd H p o) :=
  t.ext fun b u e => by rw [upd_ne (ne_of_none e hp)]; exact e
theorem step_new {p : Addr} {o : HO} (hp : H p = none) : Step ι S H ι S (upd H p o) :=
  ⟨⟨[], by simp⟩, fun a u e _ _ => by rw [upd_ne (ne_of_none e hp)]; exact e, fun _ h => .inl h, fun a e => by
    by_cases q : a = p
    · subst q; exact Gone.none hp
    · intro o h; exact e o (by rw [upd_ne q]; exact h)⟩
/-- a value's new object -/
theorem SR.new {p : Addr} {o : HO} (s : SR c ι S H) (hp : H p = none) : SR c ι S (upd H p o) := by
  refine ⟨s.len, s.inj, fun n a u h1 h2 => ?_, tabs_new s.tab hp, zed_step s (step_new hp)⟩
  have q := s.obj n a u h1 h2
  cases u with
  | dead => trivial
  | lst xs => exact OR.step s (step_new hp) (upd_ne (fun z => by subst z; obtain ⟨_, e, _⟩ := q; rw [hp] at e; cases e)) q
  | dic xs => exact OR.step s (step_new hp) (upd_ne (fun z => by subst z; obtain ⟨_, e, _⟩ := q; rw [hp] at e; cases e)) q
  | dit xs => exact OR.step s (step_new hp) (upd_ne (fun z => by subst z; obtain ⟨_, e, _⟩ := q; rw [hp] at e; cases e)) q
  | ins k fs => exact OR.step s (step_new hp) (upd_ne (fun z => by subst z; obtain ⟨_, _, _, e, _⟩ := q; rw [hp] at e; cases e)) q
theorem SR.notLive_none (s : SR c ι S H) {a : Addr} (h : H a = none) : ¬ Live ι S a := fun l => by
  obtain ⟨o, e, _⟩ := s.at_ l
  rw [h] at e; cases e
/-- an object with identity is new -/
theorem step_newO {p : Addr} {o : HO} {u : O} (s : SR c ι S H) (hp : H p = none) : Step ι S H (ι ++ [p]) (S ++ [u]) (upd H p o) := by
  refine ⟨⟨[p], rfl⟩, (step_new (ι := ι) (S := S) hp).keep, fun a h => ?_, (step_new (ι := ι) (S := S) hp).free⟩
  rcases Live.snoc s.len h with z | z
  · exact .inl z
  · subst z; exact .inr (Gone.none hp)
theorem SR.newO {p : Addr} {o : HO} {u : O} (s : SR c ι S H) (hp : H p = none) (hu : OR c (ι ++ [p]) (S ++ [u]) (upd H p o) u p) : SR c (ι ++ [p]) (S ++ [u]) (upd H p o) := by
  have st := step_newO (o := o) (u := u) s hp
  refine ⟨by simp [s.len], fun n m a x y h1 h2 h3 h4 h5 h6 => ?_, fun n a x h1 h2 => ?_, tabs_new s.tab hp, zed_step s st⟩
  · have low : ∀ {k : Nat} {z : O}, (ι ++ [p])[k]? = some a → (S ++ [u])[k]? = some z → z ≠ .dead → (k < ι.length ∧ ι[k]? = some a ∧ S[k]? = some z ∧ Live ι S a) ∨ (k = ι.length ∧ a = p) := fun {k z} q1 q2 q3 => by
      by_cases hk : k < ι.length
      · rw [List.getElem?_append_left hk] at q1
        rw [List.getElem?_append_left (by have := s.len; omega)] at q2
        exact .inl ⟨hk, q1, q2, k, z, q1, q2, q3⟩
      · have hk2 : k = ι.length := by
          have := (List.getElem?_eq_some_iff.mp q1).1
          simp at this; omega
        rw [hk2, List.getElem?_append_right (by omega)] at q1
        simp at q1
        exact .inr ⟨hk2, q1.symm⟩
    rcases low h1 h3 h4 with ⟨_, a1, a2, l⟩ | ⟨e1, e2⟩
    · rcases low h2 h5 h6 with ⟨_, b1, b2, _⟩ | ⟨_, f2⟩
      · exact s.inj n m a x y a1 b1 a2 h4 b2 h6
      · subst f2; exact absurd l (s.notLive_none hp)
    · rcases low h2 h5 h6 with ⟨_, _, _, l⟩ | ⟨f1, _⟩
      · subst e2; exact absurd l (s.notLive_none hp)
      · omega
  · by_cases hn : n < ι.length
    · rw [List.getElem?_append_left hn] at h1
      rw [List.getElem?_append_left (by have := s.len; omega)] at h2
      have q := s.obj n a x h1 h2
      cases x with
      | dead => trivial
      | lst xs => exact OR.step s st (upd_ne (fun z => by subst z; obtain ⟨_, e, _⟩ := q; rw [hp] at e; cases e)) q
      | dic xs => exact OR.step s st (upd_ne (fun z => by subst z; obtain ⟨_, e, _⟩ := q; rw [hp] at e; cases e)) q
      | dit xs => exact OR.step s st (upd_ne (fun z => by subst z; obtain ⟨_, e, _⟩ := q; rw [hp] at e; cases e)) q
      | ins k fs => exact OR.step s st (upd_ne (fun z => by subst z; obtain ⟨_, _, _, e, _⟩ := q; rw [hp] at e; cases e)) q
    · have hn2 : n = ι.length := by
        have := (List.getElem?_eq_some_iff.mp h1).1
        simp at this; omega
      rw [hn2, List.getElem?_append_right (by omega)] at h1
      rw [hn2, s.len, List.getElem?_append_right (by omega)] at h2
      simp at h1 h2
      subst h1 h2
      exact hu
/-- an object changes -/
theorem step_set {n : Nat} {a : Addr} {o o' : O} {u : HO} (h1 : ι[n]? = some a) (h2 : S[n]? = some o) (h3 : o ≠ .dead) (hu : ∀ ps, u ≠ .tbl ps := by intro _ z; cases z) : Step ι S H ι (S.set n o') (upd H a u) := by
  have hl : Live ι S a := ⟨n, o, h1, h2, h3⟩
  refine ⟨⟨[], by simp⟩, fun b x e nl _ => ?_, fun b h => ?_, fun b e => ?_⟩
  · rw [upd_ne (fun z => nl (by rw [z]; exact hl))]; exact e
  · obtain ⟨m, x, q1, q2, q3⟩ := h
    by_cases hm : m = n
    · subst hm; rw [h1] at q1; cases q1; exact .inl hl
    · rw [List.getElem?_set_ne (Ne.symm hm)] at q2
      exact .inl ⟨m, x, q1, q2, q3⟩
  · by_cases q : b = a
    · subst q
      obtain ⟨ps, z⟩ := e u upd_same
      exact absurd z (hu ps)
    · intro o h; exact e o (by rw [upd_ne q]; exact h)
theorem tabs_set {T : List (Addr × Str)} {a : Addr} {o : HO} (t : LamX.Tabs T H) (h : ∀ u, H a = some u → ¬ Fixed u) : LamX.Tabs T (upd H a o) := fun p hp => by
  obtain ⟨ps, h1, h2, h3⟩ := t p hp
  have ne : ∀ b u, H b = some u → Fixed u → b ≠ a := fun b u e f z => by subst z; exact h u e f
  refine ⟨ps, by rw [upd_ne (ne _ _ h1 trivial)]; exact h1, h2, fun pos cv hc => ?_⟩
  obtain ⟨k, e1, e2⟩ := h3 pos cv hc
  exact ⟨k, e1, by rw [upd_ne (ne _ _ e2 trivial)]; exact e2⟩
theorem SR.notFixed (s : SR c ι S H) {a : Addr} (l : Live ι S a) : ∀ u, H a = some u → ¬ Fixed u := fun u e f => s.fixed e f l
theorem SR.set {n : Nat} {a : Addr} {o o' : O} {u : HO} (s : SR c ι S H) (h1 : ι[n]? = some a) (h2 : S[n]? = some o) (h3 : o ≠ .dead) (hu : OR c ι (S.set n o') (upd H a u) o' a) (ht : ∀ ps, u ≠ .tbl ps := by intro _ z; cases z) : SR c ι (S.set n o') (upd H a u) := by
  have st := step_set (H := H) (o' := o') (u := u) h1 h2 h3 ht
  have hl : Live ι S a := ⟨n, o, h1, h2, h3⟩
  have hn : n < S.length := (List.getElem?_eq_some_iff.mp h2).1
  refine ⟨by simp [s.len], fun i j b x y q1 q2 q3 q4 q5 q6 => ?_, fun i b x q1 q2 => ?_, tabs_set s.tab (s.notFixed hl), zed_step s st⟩
  · have low : ∀ {k : Nat} {z : O}, (S.set n o')[k]? = some z → z ≠ .dead → ∃ z', S[k]? = some z' ∧ z' ≠ .dead := fun {k z} w1 w2 => by
      by_cases hk : k = n
      · subst hk; exact ⟨o, h2, h3⟩
      · rw [List.getElem?_set_ne (Ne.symm hk)] at w1; exact ⟨z, w1, w2⟩
    obtain ⟨x', a1, a2⟩ := low q3 q4
    obtain ⟨y', b1, b2⟩ := low q5 q6
    exact s.inj i j b x' y' q1 q2 a1 a2 b1 b2
  · by_cases hi : i = n
    · subst hi
      rw [h1] at q1; cases q1
      rw [List.getElem?_set_self hn] at q2; cases q2
      exact hu
    · rw [List.getElem?_set_ne (Ne.symm hi)] at q2
      cases x with
      | dead => trivial
      | lst _ => exact OR.step s st (upd_ne fun z => hi (s.inj i n a _ _ (by rw [← z]; exact q1) h1 q2 (by simp) h2 h3)) (s.obj i b _ q1 q2)
      | dic _ => exact OR.step s st (upd_ne fun z => hi (s.inj i n a _ _ (by rw [← z]; exact q1) h1 q2 (by simp) h2 h3)) (s.obj i b _ q1 q2)
      | dit _ => exact OR.step s st (upd_ne fun z => hi (s.inj i n a _ _ (by rw [← z]; exact q1) h1 q2 (by simp) h2 h3)) (s.obj i b _ q1 q2)
      | ins _ _ => exact OR.step s st (upd_ne fun z => hi (s.inj i n a _ _ (by rw [← z]; exact q1) h1 q2 (by simp) h2 h3)) (s.obj i b _ q1 q2)
/-- a list object is a list from now on -/
theorem step_dead {n : Nat} : Step ι S H ι (S.set n .dead) H := by
  refine ⟨⟨[], by simp⟩, fun b x e _ _ => e, fun b h => ?_, fun _ e => e⟩
  obtain ⟨m, x, q1, q2, q3⟩ := h
  by_cases hm : m = n
  · subst hm
    by_cases hl : m < S.length
    · rw [List.getElem?_set_self hl] at q2; cases q2; exact absurd rfl q3
    · rw [List.getElem?_eq_none (by simpa using hl)] at q2; cases q2
  · rw [List.getElem?_set_ne (Ne.symm hm)] at q2
    exact .inl ⟨m, x, q1, q2, q3⟩
theorem SR.dead {n : Nat} (s : SR c ι S H) : SR c ι (S.set n .dead) H := by
  refine ⟨by simp [s.len], fun i j b x y q1 q2 q3 q4 q5 q6 => ?_, fun i b x q1 q2 => ?_, s.tab, zed_step s step_dead⟩
  · have low : ∀ {k : Nat} {z : O}, (S.set n .dead)[k]? = some z → z ≠ .dead → S[k]? = some z := fun {k z} w1 w2 => by
      by_cases hk : k = n
      · subst hk
        by_cases hl : k < S.length
        · rw [List.getElem?_set_self hl] at w1; cases w1; exact absurd rfl w2
        · rw [List.getElem?_eq_none (by simpa using hl)] at w1; cases w1
      · rw [List.getElem?_set_ne (Ne.symm hk)] at w1; exact w1
    exact s.inj i j b x y q1 q2 (low q3 q4) q4 (low q5 q6) q6
  · by_cases hi : i = n
    · subst hi
      by_cases hl : i < S.length
      · rw [List.getElem?_set_self hl] at q2; cases q2; trivial
      · rw [List.getElem?_eq_none (by simpa using hl)] at q2; cases q2
    · rw [List.getElem?_set_ne (Ne.symm hi)] at q2
      exact OR.step s step_dead rfl (s.obj i b x q1 q2)
theorem SR.notz (s : SR c ι S H) {a : Addr} (h : H a = none) : a ∉ c.z := fun ha => by
  obtain ⟨⟨vs, e⟩, _⟩ := s.zed a ha
  rw [h] at e; cases e
/-! ### a list that is being made -/
section
variable {z : List Addr} {d₀ : Addr}
mutual
theorem RV.prot (s : SR (c.at z) ι S H) (st : Step ι S H ι' S' H') (hD : H d₀ = none) : ∀ (d : D) (v : V), RV (c.at z) ι S H d v → RV (c.at (d₀ :: z)) ι' S' H' d v
  | .non, _, h => h
  | .bl _, _, h => h
  | .int _, _, h => h
  | .str _, _, h => h
  | .tup xs, v, h => by
    obtain ⟨a, vs, e, q, r⟩ := h
    exact ⟨a, vs, e, SqT.stepR s st q, RVs.prot s st hD xs vs r⟩
  | .lst xs, v, h => by
    obtain ⟨a, vs, e, q, n, r⟩ := h
    refine ⟨a, vs, e, st.keep _ _ q n.1 (fun _ z => nomatch z), ⟨notLive_step st q n.1, fun hm => ?_⟩, RVs.prot s st hD xs vs r⟩
    rcases List.mem_cons.mp hm with rfl | hm
    · rw [hD] at q; cases q
    · exact n.2 hm
  | .scr ns, v, h => by
    obtain ⟨a, e, ⟨q | ⟨o, q⟩, n⟩ | q⟩ := h
    · refine ⟨a, e, .inl ⟨.inl (st.keep _ _ q n.1 (fun _ z => nomatch z)), notLive_step st q n.1, fun hm => ?_⟩⟩
      rcases List.mem_cons.mp hm with rfl | hm
      · rw [hD] at q; cases q
      · exact n.2 hm
    · refine ⟨a, e, .inl ⟨.inr ⟨o, st.keep _ _ q n.1 (fun _ z => nomatch z)⟩, notLive_step st q n.1, fun hm => ?_⟩⟩
      rcases List.mem_cons.mp hm with rfl | hm
      · rw [hD] at q; cases q
      · exact n.2 hm
    · exact ⟨a, e, .inr q⟩
  | .ref n, v, h => by
    obtain ⟨a, e, q⟩ := h
    obtain ⟨r, rfl⟩ := st.pre
    exact ⟨a, e, get_pre q r⟩
theorem RVs.prot (s : SR (c.at z) ι S H) (st : Step ι S H ι' S' H') (hD : H d₀ = none) : ∀ (ds : List D) (vs : List V), RVs (c.at z) ι S H ds vs → RVs (c.at (d₀ :: z)) ι' S' H' ds vs
  | [], [], _ => trivial
  | [], _ :: _, h => h.elim
  | _ :: _, [], h => h.elim
  | d :: ds, v :: vs, h => ⟨RV.prot s st hD d v h.1, RVs.prot s st hD ds vs h.2⟩
end
theorem RKs.prot {κ : Type} (s : SR (c.at z) ι S H) (st : Step ι S H ι' S' H') (hD : H d₀ = none) : ∀ (ds : List (κ × D)) (vs : List (κ × V)), RKs (c.at z) ι S H ds vs → RKs (c.at (d₀ :: z)) ι' S' H' ds vs
  | [], [], _ => trivial
  | [], _ :: _, h => h.elim
  | _ :: _, [], h => h.elim
  | d :: ds, v :: vs, h => ⟨⟨h.1.1, RV.prot s st hD _ _ h.1.2⟩, RKs.prot s st hD ds vs h.2⟩
theorem RFs.prot (s : SR (c.at z) ι S H) (st : Step ι S H ι' S' H') (hD : H d₀ = none) : ∀ (ds : List (Nat × D)) (vs : List (Str × V)), RFs (c.at z) ι S H ds vs → RFs (c.at (d₀ :: z)) ι' S' H' ds vs
  | [], [], _ => trivial
  | [], _ :: _, h => h.elim
  | _ :: _, [], h => h.elim
  | d :: ds, v :: vs, h => ⟨⟨h.1.1, RV.prot s st hD _ _ h.1.2⟩, RFs.prot s st hD ds vs h.2⟩
/-- it is begun -/
theorem SR.begin_ (s : SR (c.at z) ι S H) (hD : H d₀ = none) (us : List V) : SR (c.at (d₀ :: z)) ι S (upd H d₀ (.lst us)) := by
  have st : Step ι S H ι S (upd H d₀ (.lst us)) := step_new hD
  have s1 := s.new (o := .lst us) hD
  refine ⟨s.len, s.inj, fun n a u h1 h2 => ?_, s1.tab, fun a ha => ?_⟩
  · have q := s.obj n a u h1 h2
    have ne : Live ι S a → upd H d₀ (.lst us) a = H a := fun l => upd_ne (fun z => s.notLive_none hD (by rw [← z]; exact l))
    cases u with
    | dead => trivial
    | lst xs => obtain ⟨vs, e, r⟩ := q; exact ⟨vs, (ne ⟨n, _, h1, h2, by simp⟩).trans e, RVs.prot s st hD _ _ r⟩
    | dic xs => obtain ⟨vs, e, r⟩ := q; exact ⟨vs, (ne ⟨n, _, h1, h2, by simp⟩).trans e, RKs.prot s st hD _ _ r⟩
    | dit xs => obtain ⟨vs, e, r⟩ := q; exact ⟨vs, (ne ⟨n, _, h1, h2, by simp⟩).trans e, RKs.prot s st hD _ _ r⟩
    | ins k fs => obtain ⟨hk, dx, gs, e, r⟩ := q; exact ⟨hk, dx, gs, (ne ⟨n, _, h1, h2, by simp⟩).trans e, RFs.prot s st hD _ _ r⟩
  · rcases List.mem_cons.mp ha with rfl | ha
    · exact ⟨⟨us, upd_same⟩, s.notLive_none hD⟩
    · exact s1.zed a ha
mutual
theorem RV.grow {us : List V} (hm : d₀ ∈ c.z) (hl : ∃ us', H d₀ = some (.lst us')) : ∀ (d : D) (v : V), RV c ι S H d v → RV c ι S (upd H d₀ (.lst us)) d v
  | .non, _, h => h
  | .bl _, _, h => h
  | .int _, _, h => h
  | .str _, _, h => h
  | .tup xs, v, h => by
    obtain ⟨a, vs, e, q, r⟩ := h
    obtain ⟨us', hl'⟩ := hl
    refine ⟨a, vs, e, ?_, RVs.grow hm ⟨us', hl'⟩ xs vs r⟩
    rcases q with (q | ⟨o, q⟩) | q
    · exact .inl (.inl (by rw [upd_ne (ne_of q hl' (by intro z; cases z))]; exact q))
    · exact .inl (.inr ⟨o, by rw [upd_ne (ne_of q hl' (by intro z; cases z))]; exact q⟩)
    · exact .inr q
  | .lst xs, v, h => by
    obtain ⟨a, vs, e, q, n, r⟩ := h
    exact ⟨a, vs, e, by rw [upd_ne (fun z => n.2 (by rw [z]; exact hm))]; exact q, n, RVs.grow hm hl xs vs r⟩
  | .scr ns, v, h => by
    obtain ⟨a, e, ⟨q | ⟨o, q⟩, n⟩ | q⟩ := h
    · exact ⟨a, e, .inl ⟨.inl (by rw [upd_ne (fun z => n.2 (by rw [z]; exact hm))]; exact q), n⟩⟩
    · exact ⟨a, e, .inl ⟨.inr ⟨o, by rw [upd_ne (fun z => n.2 (by rw [z]; exact hm))]; exact q⟩, n⟩⟩
    · exact ⟨a, e, .inr q⟩
  | .ref n, v, h => h
theorem RVs.grow {us : List V} (hm : d₀ ∈ c.z) (hl : ∃ us', H d₀ = some (.lst us')) : ∀ (ds : List D) (vs : List V), RVs c ι S H ds vs → RVs c ι S (upd H d₀ (.lst us)) ds vs
  | [], [], _ => trivial
  | [], _ :: _, h => h.elim
  | _ :: _, [], h => h.elim
  | d :: ds, v :: vs, h => ⟨RV.grow hm hl d v h.1, RVs.grow hm hl ds vs h.2⟩
end
theorem RKs.grow {κ : Type} {us : List V} (hm : d₀ ∈ c.z) (hl : ∃ us', H d₀ = some (.lst us')) : ∀ (ds : List (κ × D)) (vs : List (κ × V)), RKs c ι S H ds vs → RKs c ι S (upd H d₀ (.lst us)) ds vs
  | [], [], _ => trivial
  | [], _ :: _, h => h.elim
  | _ :: _, [], h => h.elim
  | d :: ds, v :: vs, h => ⟨⟨h.1.1, RV.grow hm hl _ _ h.1.2⟩, RKs.grow hm hl ds vs h.2⟩
theorem RFs.grow {us : List V} (hm : d₀ ∈ c.z) (hl : ∃ us', H d₀ = some (.lst us')) : ∀ (ds : List (Nat × D)) (vs : List (Str × V)), RFs c ι S H ds vs → RFs c ι S (upd H d₀ (.lst us)) ds vs
  | [], [], _ => trivial
  | [], _ :: _, h => h.elim
  | _ :: _, [], h => h.elim
  | d :: ds, v :: vs, h => ⟨⟨h.1.1, RV.grow hm hl _ _ h.1.2⟩, RFs.grow hm hl ds vs h.2⟩
/-- it is longer -/
theorem SR.grow {us : List V} (s : SR c ι S H) (hm : d₀ ∈ c.z) : SR c ι S (upd H d₀ (.lst us)) := by
  obtain ⟨hl, hn⟩ := s.zed d₀ hm
  refine ⟨s.len, s.inj, fun n a u h1 h2 => ?_, ?_, fun a ha => ?_⟩
  · have q := s.obj n a u h1 h2
    have ne : Live ι S a → upd H d₀ (.lst us) a = H a := fun l => upd_ne (fun z => hn (by rw [← z]; exact l))
    cases u with
    | dead => trivial
    | lst xs => obtain ⟨vs, e, r⟩ := q; exact ⟨vs, (ne ⟨n, _, h1, h2, by simp⟩).trans e, RVs.grow hm hl _ _ r⟩
    | dic xs => obtain ⟨vs, e, r⟩ := q; exact ⟨vs, (ne ⟨n, _, h1, h2, by simp⟩).trans e, RKs.grow hm hl _ _ r⟩
    | dit xs => obtain ⟨vs, e, r⟩ := q; exact ⟨vs, (ne ⟨n, _, h1, h2, by simp⟩).trans e, RKs.grow hm hl _ _ r⟩
    | ins k fs => obtain ⟨hk, dx, gs, e, r⟩ := q; exact ⟨hk, dx, gs, (ne ⟨n, _, h1, h2, by simp⟩).trans e, RFs.grow hm hl _ _ r⟩
  · obtain ⟨us', hl'⟩ := hl
    exact tabs_set s.tab (fun u e f => by rw [hl'] at e; cases e; exact f)
  · obtain ⟨⟨vs, h1⟩, h2⟩ := s.zed a ha
    by_cases h : a = d₀
    · subst h; exact ⟨⟨us, upd_same⟩, h2⟩
    · exact ⟨⟨vs, by rw [upd_ne h]; exact h1⟩, h2⟩
mutual
theorem RV.unprot : ∀ (d : D) (v : V), RV (c.at (d₀ :: z)) ι S H d v → RV (c.at z) ι S H d v
  | .non, _, h => h
  | .bl _, _, h => h
  | .int _, _, h => h
  | .str _, _, h => h
  | .tup xs, v, h => by
    obtain ⟨a, vs, e, q, r⟩ := h
    exact ⟨a, vs, e, q, RVs.unprot xs vs r⟩
  | .lst xs, v, h => by
    obtain ⟨a, vs, e, q, n, r⟩ := h
    exact ⟨a, vs, e, q, ⟨n.1, fun hm => n.2 (List.mem_cons_of_mem _ hm)⟩, RVs.unprot xs vs r⟩
  | .scr ns, v, h => by
    obtain ⟨a, e, ⟨q, n⟩ | q⟩ := h
    · exact ⟨a, e, .inl ⟨q, n.1, fun hm => n.2 (List.mem_cons_of_mem _ hm)⟩⟩
    · exact ⟨a, e, .inr q⟩
  | .ref n, v, h => h
theorem RVs.unprot : ∀ (ds : List D) (vs : List V), RVs (c.at (d₀ :: z)) ι S H ds vs → RVs (c.at z) ι S H ds vs
  | [], [], _ => trivial
  | [], _ :: _, h => h.elim
  | _ :: _, [], h => h.elim
  | d :: ds, v :: vs, h => ⟨RV.unprot d v h.1, RVs.unprot ds vs h.2⟩
end
theorem RKs.unprot {κ : Type} : ∀ (ds : List (κ × D)) (vs : List (κ × V)), RKs (c.at (d₀ :: z)) ι S H ds vs → RKs (c.at z) ι S H ds vs
  | [], [], _ => trivial
  | [], _ :: _, h => h.elim
  | _ :: _, [], h => h.elim
  | d :: ds, v :: vs, h => ⟨⟨h.1.1, RV.unprot _ _ h.1.2⟩, RKs.unprot ds vs h.2⟩
theorem RFs.unprot : ∀ (ds : List (Nat × D)) (vs : List (Str × V)), RFs (c.at (d₀ :: z)) ι S H ds vs → RFs (c.at z) ι S H ds vs
  | [], [], _ => trivial
  | [], _ :: _, h => h.elim
  | _ :: _, [], h => h.elim
  | d :: ds, v :: vs, h => ⟨⟨h.1.1, RV.unprot _ _ h.1.2⟩, RFs.unprot ds vs h.2⟩
/-- it is done -/
theorem SR.done_ (s : SR (c.at (d₀ :: z)) ι S H) : SR (c.at z) ι S H := by
  refine ⟨s.len, s.inj, fun n a u h1 h2 => ?_, s.tab, fun a ha => s.zed a (List.mem_cons_of_mem _ ha)⟩
  have q := s.obj n a u h1 h2
  cases u with
  | dead => trivial
  | lst xs => obtain ⟨vs, e, r⟩ := q; exact ⟨vs, e, RVs.unprot _ _ r⟩
  | dic xs => obtain ⟨vs, e, r⟩ := q; exact ⟨vs, e, RKs.unprot _ _ r⟩
  | dit xs => obtain ⟨vs, e, r⟩ := q; exact ⟨vs, e, RKs.unprot _ _ r⟩
  | ins k fs => obtain ⟨hk, dx, gs, e, r⟩ := q; exact ⟨hk, dx, gs, e, RFs.unprot _ _ r⟩
/-- other things are left as they were by it -/
theorem Step.grow {us : List V} (st : Step ι S H ι' S' H') (hD : H d₀ = none) : Step ι S H ι' S' (upd H' d₀ (.lst us)) := by
  refine ⟨st.pre, fun a o e n t => ?_, st.live, fun a e => ?_⟩
  · rw [upd_ne (ne_of_none e hD)]; exact st.keep a o e n t
  · by_cases h : a = d₀
    · subst h; exact Gone.none hD
    · exact st.free a fun o q => e o (by rw [upd_ne h]; exact q)
end
end
end Y

end

section
set_option Elab.async false
set_option linter.all false
set_option maxRecDepth 100000
set_option maxHeartbeats 1000000
namespace Y
open PySem L2

/-! ### what is wanted behind a run -/
section
variable (c : Cfg)
def EnvR (ι : List Addr) (S : Sto) (H : Hp) (env : Env) (σ : L2.St) : Prop := env.length = σ.length ∧ ∀ i d, env.get i = some d → ∃ v, σ[i]? = some (some v) ∧ RV c ι S H d v
/-- behind a run that began at ι S H -/
def Post {α β : Type} (rel : List Addr → Sto → Hp → α → β → Prop) (ι : List Addr) (S : Sto) (H : Hp) (r : R α) (E : Nat → Hp → Prop) (Q : β → Hp → Prop) : Prop := match r with
  | .ok d S' => ∀ v ι' H', Step ι S H ι' S' H' → SR c ι' S' H' → rel ι' S' H' d v → Q v H'
  | .exc k S' => ∀ ι' H', Step ι S H ι' S' H' → SR c ι' S' H' → E k H'
  | .bad => False
abbrev PostV := Post c (fun ι S H => RV c ι S H)
abbrev PostA := Post c (fun ι S H => RVs c ι S H)
def tEv (ea : Nat → Addr) (G : Rules) (W : XK) (e : E) : TE := fun σ H Q => ∃ z ι S env, SR (c.at z) ι S H ∧ EnvR (c.at z) ι S H env σ ∧ PostV (c.at z) ι S H (evE G e env S) (fun k H' => W (.ref (ea k)) none H') Q
def tAv (ea : Nat → Addr) (G : Rules) (W : XK) (es : List E) : TA := fun σ H Q => ∃ z ι S env, SR (c.at z) ι S H ∧ EnvR (c.at z) ι S H env σ ∧ PostA (c.at z) ι S H (evEs G es env S) (fun k H' => W (.ref (ea k)) none H') Q
/-- what a def keeps -/
def spF (ea : Nat → Addr) (cl : Call) (f : Nat) : Sp := fun vs H Q E => ∃ z ι S ds, SR (c.at z) ι S H ∧ RVs (c.at z) ι S H ds vs ∧ PostV (c.at z) ι S H (cl f ds S) (fun k H' => E (.ref (ea k)) none H') Q
end
section
variable {c : Cfg} {ι ι' ι1 : List Addr} {S S' S1 : Sto} {H H' H1 : Hp} {α β γ δ : Type} {rel : List Addr → Sto → Hp → α → β → Prop} {rel' : List Addr → Sto → Hp → γ → δ → Prop}
theorem EnvR.step {env : Env} {σ : L2.St} (e : EnvR c ι S H env σ) (s : SR c ι S H) (st : Step ι S H ι' S' H') : EnvR c ι' S' H' env σ :=
  ⟨e.1, fun i d h => let ⟨v, h1, h2⟩ := e.2 i d h; ⟨v, h1, RV.step s st d v h2⟩⟩
theorem Post.step {r : R α} {E : Nat → Hp → Prop} {Q : β → Hp → Prop} (h : Post c rel ι S H r E Q) (st : Step ι S H ι1 S1 H1) : Post c rel ι1 S1 H1 r E Q := by
  cases r with
  | ok d S' => exact fun v ι' H' x s q => h v ι' H' (st.trans x) s q
  | exc k S' => exact fun ι' H' x s => h ι' H' (st.trans x) s
  | bad => exact h
theorem Post.imp {r : R α} {E : Nat → Hp → Prop} {Q Q' : β → Hp → Prop} (h : Post c rel ι S H r E Q) (k : ∀ v H', Q v H' → Q' v H') : Post c rel ι S H r E Q' := by
  cases r with
  | ok d S' => exact fun v ι' H' x s q => k _ _ (h v ι' H' x s q)
  | exc k S' => exact h
  | bad => exact h
/-- the first of two runs -/
theorem Post.bind {r : R α} {f : α → Sto → R γ} {E : Nat → Hp → Prop} {Q : δ → Hp → Prop} {Q1 : β → Hp → Prop} (h : Post c rel' ι S H (r.bind f) E Q)
    (k : ∀ d S1 v ι1 H1, Step ι S H ι1 S1 H1 → SR c ι1 S1 H1 → rel ι1 S1 H1 d v → Post c rel' ι1 S1 H1 (f d S1) E Q → Q1 v H1) : Post c rel ι S H r E Q1 := by
  cases r with
  | ok d S' => exact fun v ι' H' x s q => k d S' v ι' H' x s q (Post.step h x)
  | exc k S' => exact h
  | bad => exact h
/-- at the end -/
theorem Post.ret {d : α} {E : Nat → Hp → Prop} {Q : β → Hp → Prop} (h : Post c rel ι S H (.ok d S) E Q) (s : SR c ι S H) {v : β} (q : rel ι S H d v) : Q v H := h v ι H Step.refl s q
theorem Post.to {d : α} {E : Nat → Hp → Prop} {Q : β → Hp → Prop} (h : Post c rel ι S H (.ok d S') E Q) (st : Step ι S H ι' S' H') (s : SR c ι' S' H') {v : β} (q : rel ι' S' H' d v) : Q v H' := h v ι' H' st s q
theorem Post.opt {o : Option α} {E : Nat → Hp → Prop} {Q : β → Hp → Prop} (h : Post c rel ι S H (opt o S') E Q) : ∃ a, o = some a ∧ Post c rel ι S H (.ok a S') E Q := by
  cases o with
  | none => exact h.elim
  | some a => exact ⟨a, rfl, h⟩
end
theorem evEs_length {G : Rules} : ∀ (es : List E) (env : Env) (S : Sto) (ds : List D) (S' : Sto), evEs G es env S = .ok ds S' → ds.length = es.length
  | [], env, S, ds, S', h => by simp only [evEs] at h; cases h; rfl
  | e :: es, env, S, ds, S', h => by
    simp only [evEs] at h
    cases h1 : evE G e env S with
    | bad => rw [h1] at h; cases h
    | exc k S1 => rw [h1] at h; cases h
    | ok d S1 =>
      rw [h1] at h
      simp only [R.bind_ok] at h
      cases h2 : evEs G es env S1 with
      | bad => rw [h2] at h; cases h
      | exc k S1 => rw [h2] at h; cases h
      | ok ds2 S2 =>
        rw [h2] at h
        simp only [R.bind_ok] at h
        cases h
        simpa using evEs_length es env S1 ds2 S' h2
/-! ### names, constants, displays -/
section
variable {X : Cx} {c : Cfg} {ea : Nat → Addr} {G : Rules} {W : XK}
abbrev Snd (X : Cx) (c : Cfg) (ea : Nat → Addr) (G : Rules) (W : XK) (e : Expr) (ir : E) : Prop := PE X e (tEv c ea G W ir)
abbrev SndA (X : Cx) (c : Cfg) (ea : Nat → Addr) (G : Rules) (W : XK) (es : List Expr) (irs : List E) : Prop := PA X es (tAv c ea G W irs)
theorem PE.mono {e : Expr} {t t' : TE} (h : PE X e t) (k : ∀ σ H Q, t' σ H Q → t σ H Q) : PE X e t' := ⟨fun pins s σ H Q I q => h.run pins s σ H Q I (k σ H Q q)⟩
theorem PT.mono {e : Expr} {t t' : TT} (h : PT X e t) (k : ∀ σ H Q, t' σ H Q → t σ H Q) : PT X e t' := ⟨fun pins s σ H Q I q => h.run pins s σ H Q I (k σ H Q q)⟩
theorem PA.mono {es : List Expr} {t t' : TA} (h : PA X es t) (k : ∀ σ H Q, t' σ H Q → t σ H Q) : PA X es t' := ⟨fun pos pins s σ H Q I q => h.run pos pins s σ H Q I (k σ H Q q)⟩
theorem PS.mono {e : Stmt} {t t' : TS} (h : PS X e t) (k : ∀ D σ H, t' D σ H → t D σ H) : PS X e t' := ⟨fun pins s σ H D I q => h.run pins s σ H D I (k D σ H q)⟩
theorem PSs.mono {e : List Stmt} {t t' : TS} (h : PSs X e t) (k : ∀ D σ H, t' D σ H → t D σ H) : PSs X e t' := ⟨fun pins s σ H D I q => h.run pins s σ H D I (k D σ H q)⟩
theorem sd_var {i : Nat} {x : Str} {pos : Pos} (hN : X.N[i]? = some x) (hv : Vis X.env.scope x) (hd : (x == ("__debug__" : Str)) = false) (hcd : (x == ("__classdict__" : Str)) = false) : Snd X c ea G W (.Name x pos) (.var i) := by
  refine PE.mono (pe_var hN hv hd hcd) fun σ H Q ⟨z, ι, S, env, s, e, p⟩ => ?_
  obtain ⟨d, h1, h2⟩ := Post.opt p
  obtain ⟨v, q1, q2⟩ := e.2 i d h1
  exact ⟨v, q1, h2.ret s q2⟩
theorem sd_con {d : D} {v : V} {e : Expr} (h : PE X e (tC v)) (r : ∀ z ι S H, RV (c.at z) ι S H d v) : Snd X c ea G W e (.kon d) :=
  PE.mono h fun σ H Q ⟨z, ι, S, env, s, e, p⟩ => Post.ret p s (r z ι S H)
theorem sd_gtup {xs : List Str} {a : Addr} {e : Expr} (h : PE X e (tC (.ref a))) (r : ∀ H, SqT c.K H a (xs.map .str)) : Snd X c ea G W e (.gtup xs) :=
  PE.mono h fun σ H Q ⟨z, ι, S, env, s, e, p⟩ => Post.ret p s ⟨a, _, rfl, r H, RVs.of_strs xs⟩
theorem sa_nil : SndA X c ea G W [] [] := PA.mono pa_nil fun σ H Q ⟨z, ι, S, env, s, e, p⟩ => Post.ret p s (v := []) trivial
theorem sa_cons {e : Expr} {es : List Expr} {i : E} {is : List E} (h1 : Snd X c ea G W e i) (h2 : SndA X c ea G W es is) (hs : starEach (e :: es) X.env = (false, eval e X.env) :: starEach es X.env) : SndA X c ea G W (e :: es) (i :: is) := by
  refine PA.mono (pa_cons h1 h2 hs) fun σ H Q ⟨z, ι, S, env, s, e, p⟩ => ?_
  refine ⟨z, ι, S, env, s, e, Post.bind p fun d S1 v ι1 H1 st s1 r1 p1 => ?_⟩
  refine ⟨z, ι1, S1, env, s1, e.step s st, Post.bind p1 fun ds S2 vs ι2 H2 st2 s2 r2 p2 => ?_⟩
  exact p2.ret s2 (v := v :: vs) ⟨RV.step s1 st2 _ _ r1, r2⟩
/-- arguments, then what is made of them; the number of arguments is known -/
theorem Post.args {es : List E} {env : Env} {ι : List Addr} {S : Sto} {H : Hp} {γ δ : Type} {rel' : List Addr → Sto → Hp → γ → δ → Prop} {f : List D → Sto → R γ} {k : Nat → Hp → Prop} {Q : δ → Hp → Prop} {Q1 : List V → Hp → Prop}
    (h : Post c rel' ι S H ((evEs G es env S).bind f) k Q) (hk : ∀ ds S1 vs ι1 H1, ds.length = es.length → Step ι S H ι1 S1 H1 → SR c ι1 S1 H1 → RVs c ι1 S1 H1 ds vs → Post c rel' ι1 S1 H1 (f ds S1) k Q → Q1 vs H1) : PostA c ι S H (evEs G es env S) k Q1 := by
  cases hr : evEs G es env S with
  | ok ds S' =>
    rw [hr] at h
    exact fun v ι' H' x s q => hk ds S' v ι' H' (evEs_length es env S ds S' hr) x s q (Post.step h x)
  | exc k S' => rw [hr] at h; exact h
  | bad => rw [hr] at h; exact h
theorem line_of {n : Nat} (h : n ≤ 1000000) : n ≤ sizeLine := Nat.le_trans h (by decide)
theorem line_lt {n : Nat} (h : n < 1000000) : n < sizeLine := Nat.lt_of_lt_of_le h (by decide)
theorem sd_tup {es : List Expr} {is : List E} {k : Nat} {pos : Pos} (h : SndA X c ea G W es is) (hl : is.length ≤ 1000) : Snd X c ea G W (.Tuple es k pos) (.tup is) := by
  refine PE.mono (pe_tup h) fun σ H Q ⟨z, ι, S, env, s, e, p⟩ => ⟨z, ι, S, env, s, e, Post.args p fun ds S1 vs ι1 H1 hn st s1 r p1 => ⟨?_, fun q hq => ?_⟩⟩
  · exact line_of (by have := r.length; omega)
  · exact p1.to (step_new hq) (s1.new hq) ⟨q, vs, rfl, .inl (.inl upd_same), RVs.step s1 (step_new hq) _ _ r⟩
theorem rv_newlist {ι : List Addr} {S : Sto} {H : Hp} {q : Addr} {ds : List D} {vs : List V} (s : SR c ι S H) (hq : H q = none) (r : RVs c ι S H ds vs) : RV c ι S (upd H q (.lst vs)) (.lst ds) (.ref q) :=
  ⟨q, vs, rfl, upd_same, ⟨fun l => s.notLive_none hq l, s.notz hq⟩, RVs.step s (step_new hq) _ _ r⟩
theorem sd_lst {es : List Expr} {is : List E} {pos : Pos} (h : SndA X c ea G W es is) (hl : is.length ≤ 1000) : Snd X c ea G W (.List es pos) (.lst is) := by
  refine PE.mono (pe_lst h) fun σ H Q ⟨z, ι, S, env, s, e, p⟩ => ⟨z, ι, S, env, s, e, Post.args p fun ds S1 vs ι1 H1 hn st s1 r p1 => ⟨?_, fun q hq => ?_⟩⟩
  · exact line_of (by have := r.length; omega)
  · exact p1.to (step_new hq) (s1.new hq) (rv_newlist s1 hq r)
theorem snoc_get {ι : List Addr} {S : Sto} (hl : ι.length = S.length) (q : Addr) : (ι ++ [q])[S.length]? = some q := by
  rw [← hl, List.getElem?_append_right (Nat.le_refl _)]; simp
theorem sd_newL {es : List Expr} {is : List E} {pos : Pos} (h : SndA X c ea G W es is) (hl : is.length ≤ 1000) : Snd X c ea G W (.List es pos) (.newL is) := by
  refine PE.mono (pe_lst h) fun σ H Q ⟨z, ι, S, env, s, e, p⟩ => ⟨z, ι, S, env, s, e, Post.args p fun ds S1 vs ι1 H1 hn st s1 r p1 => ⟨?_, fun q hq => ?_⟩⟩
  · exact line_of (by have := r.length; omega)
  · have st := step_newO (o := .lst vs) (u := .lst ds) s1 hq
    exact p1.to st (s1.newO hq ⟨vs, upd_same, RVs.step s1 st _ _ r⟩) ⟨q, rfl, snoc_get s1.len q⟩

/-! ### operators -/
theorem sd_neg {a : Expr} {i : E} {pos : Pos} (h : Snd X c ea G W a i) : Snd X c ea G W (.UnaryOp .USub a pos) (.neg i) := by
  refine PE.mono (pe_un un_neg h) fun σ H Q ⟨z, ι, S, env, s, e, p⟩ => ⟨z, ι, S, env, s, e, Post.bind p fun d S1 v ι1 H1 st s1 r p1 => ?_⟩
  cases d with
  | int n => obtain rfl : v = .int n := r; exact ⟨n, rfl, p1.ret s1 rfl⟩
  | _ => exact p1.elim
/-- an object that may be read as a list -/
theorem view_list {ι : List Addr} {S : Sto} {H : Hp} {d : D} {v : V} {xs : List D} (s : SR c ι S H) (r : RV c ι S H d v) (h : view S d = .lst xs) : ∃ a vs, v = .ref a ∧ H a = some (.lst vs) ∧ RVs c ι S H xs vs := by
  cases d with
  | lst ys =>
    cases h
    obtain ⟨a, vs, e, q, _, rs⟩ := r
    exact ⟨a, vs, e, q, rs⟩
  | ref n =>
    unfold view at h
    obtain ⟨a, e, q⟩ := r
    cases hS : S[n]? with
    | none => simp [hS] at h
    | some o =>
      cases o with
      | lst ys =>
        simp [hS] at h
        subst h
        obtain ⟨vs, q2, rs⟩ := s.obj n a _ q hS
        exact ⟨a, vs, e, q2, rs⟩
      | _ => simp [hS] at h
  | _ => simp [view] at h
/-- any other reading is the value itself -/
theorem view_else {S : Sto} {d : D} (h : ∀ xs, view S d ≠ .lst xs) : view S d = d := by
  cases d with
  | ref n =>
    unfold view at h ⊢
    cases hS : S[n]? with
    | none => simp [hS]
    | some o => cases o <;> simp_all
  | _ => rfl
theorem view_int {S : Sto} {d : D} {i : Int} (h : view S d = .int i) : d = .int i := by
  rw [← h]; exact (view_else (fun xs z => by rw [h] at z; cases z)).symm
theorem view_str {S : Sto} {d : D} {i : Str} (h : view S d = .str i) : d = .str i := by
  rw [← h]; exact (view_else (fun xs z => by rw [h] at z; cases z)).symm
theorem view_tup {S : Sto} {d : D} {i : List D} (h : view S d = .tup i) : d = .tup i := by
  rw [← h]; exact (view_else (fun xs z => by rw [h] at z; cases z)).symm
theorem view_ref {S : Sto} {d : D} {i : Nat} (h : view S d = .ref i) : d = .ref i := by
  rw [← h]; exact (view_else (fun xs z => by rw [h] at z; cases z)).symm
theorem view_scr {S : Sto} {d : D} {i : List Int} (h : view S d = .scr i) : d = .scr i := by
  rw [← h]; exact (view_else (fun xs z => by rw [h] at z; cases z)).symm
/-- an operator by its values -/
theorem sd_op2 {op : Operator} {r : R2} {a b : Expr} {i j : E} {pos : Pos} {o : BOp} (ho : OpR X (binaryOp op) r) (ha : Snd X c ea G W a i) (hb : Snd X c ea G W b j)
    (h : ∀ z ι S H x y vx vy d Q, SR (c.at z) ι S H → RV (c.at z) ι S H x vx → RV (c.at z) ι S H y vy → bop o (view S x) (view S y) = some d → PostV (c.at z) ι S H (.ok d S) (fun k H' => W (.ref (ea k)) none H') Q → r vx vy H Q) : Snd X c ea G W (.BinOp a op b pos) (.bin o i j) := by
  refine PE.mono (pe_op ho ha hb) fun σ H Q ⟨z, ι, S, env, s, e, p⟩ => ⟨z, ι, S, env, s, e, Post.bind p fun x S1 vx ι1 H1 st s1 r1 p1 => ?_⟩
  refine ⟨z, ι1, S1, env, s1, e.step s st, Post.bind p1 fun y S2 vy ι2 H2 st2 s2 r2 p2 => ?_⟩
  obtain ⟨d, h1, h2⟩ := Post.opt p2
  exact h z ι2 S2 H2 x y vx vy d Q s2 (RV.step s1 st2 _ _ r1) r2 h1 h2
theorem opsAdd : OpR X (binaryOp .Add) (fun x y H Q => rI0 (fun i j => .int (i + j)) x y H Q ∨ (∃ i j, x = .str i ∧ y = .str j ∧ i.length + j.length ≤ sizeLine ∧ Q (.str (i ++ j)) H) ∨ rCat x y H Q ∨ rCatA X.K x y H Q) := op_add.or (op_add_str.or (op_cat.or op_catA))
theorem sd_add {a b : Expr} {i j : E} {pos : Pos} (hK : X.K = c.K) (ha : Snd X c ea G W a i) (hb : Snd X c ea G W b j) : Snd X c ea G W (.BinOp a .Add b pos) (.bin .add i j) := by
  refine sd_op2 opsAdd ha hb fun z ι S H x y vx vy d Q s rx ry h p => ?_
  cases hx : view S x with
  | int n =>
    cases hy : view S y with
    | int m =>
      have ex := view_int hx; have ey := view_int hy
      subst ex ey
      simp only [hx, hy, bop, Option.some.injEq] at h
      subst h
      obtain rfl : vx = .int n := rx
      obtain rfl : vy = .int m := ry
      exact .inl ⟨n, m, rfl, rfl, p.ret s rfl⟩
    | _ => simp [hx, hy, bop] at h
  | str n =>
    cases hy : view S y with
    | str m =>
      have ex := view_str hx; have ey := view_str hy
      subst ex ey
      simp only [hx, hy, bop] at h
      split at h
      · rename_i hl
        cases h
        obtain rfl : vx = .str n := rx
        obtain rfl : vy = .str m := ry
        exact .inr (.inl ⟨n, m, rfl, rfl, line_of hl, p.ret s rfl⟩)
      · cases h
    | _ => simp [hx, hy, bop] at h
  | lst n =>
    cases hy : view S y with
    | lst m =>
      simp only [hx, hy, bop] at h
      split at h
      · rename_i hl
        cases h
        obtain ⟨a, vs, rfl, q1, w1⟩ := view_list s rx hx
        obtain ⟨b, us, rfl, q2, w2⟩ := view_list s ry hy
        refine .inr (.inr (.inl ⟨a, b, vs, us, rfl, rfl, q1, q2, line_of (by rw [← w1.length, ← w2.length]; exact hl), fun q hq => ?_⟩))
        exact p.to (step_new hq) (s.new hq) (rv_newlist s hq (w1.append w2))
      · cases h
    | _ => simp [hx, hy, bop] at h
  | tup n =>
    cases hy : view S y with
    | tup m =>
      have ex := view_tup hx; have ey := view_tup hy
      subst ex ey
      simp only [hx, hy, bop] at h
      split at h
      · rename_i hl
        cases h
        obtain ⟨a, vs, rfl, q1, w1⟩ := rx
        obtain ⟨b, us, rfl, q2, w2⟩ := ry
        have q1 : SqT X.K H a vs := by rw [hK]; exact q1
        have q2 : SqT X.K H b us := by rw [hK]; exact q2
        refine .inr (.inr (.inr ⟨a, b, vs, us, rfl, rfl, q1, q2, line_of (by rw [← w1.length, ← w2.length]; exact hl), fun e => ?_, fun e1 e2 => ?_, fun e1 e2 q hq => ?_⟩))
        · subst e
          have : n = [] := by have := w1.length; cases n <;> simp_all
          subst this
          exact p.ret s ⟨b, us, rfl, (by show SqT c.K H b us; rw [← hK]; exact q2), w2⟩
        · subst e2
          have : m = [] := by have := w2.length; cases m <;> simp_all
          subst this
          exact p.ret s (v := .ref a) ⟨a, vs, rfl, (by show SqT c.K H a vs; rw [← hK]; exact q1), by simpa using w1⟩
        · exact p.to (step_new hq) (s.new hq) ⟨q, _, rfl, .inl (.inl upd_same), RVs.step s (step_new hq) _ _ (w1.append w2)⟩
      · cases h
    | _ => simp [hx, hy, bop] at h
  | _ => simp [hx, bop] at h
theorem sd_sub {a b : Expr} {i j : E} {pos : Pos} (ha : Snd X c ea G W a i) (hb : Snd X c ea G W b j) : Snd X c ea G W (.BinOp a .Sub b pos) (.bin .sub i j) := by
  refine sd_op2 op_sub ha hb fun z ι S H x y vx vy d Q s rx ry h p => ?_
  cases hx : view S x <;> simp only [hx, bop, reduceCtorEq] at h
  cases hy : view S y <;> simp only [hy, bop, reduceCtorEq, Option.some.injEq] at h
  have ex := view_int hx; have ey := view_int hy
  subst ex ey h
  obtain rfl : vx = .int _ := rx
  obtain rfl : vy = .int _ := ry
  exact ⟨_, _, rfl, rfl, p.ret s rfl⟩
theorem opsMul : OpR X (binaryOp .Mult) (fun x y H Q => rI CMul (fun i j => .int (i * j)) x y H Q ∨ rI CMulW (fun i j => .int (i * j)) x y H Q ∨ rRep x y H Q) := op_mul.or (op_mulW.or op_rep)
theorem abs_lt {i : Int} {n : Nat} (h : i.natAbs < n) : -(n : Int) < i ∧ i < (n : Int) := by omega
theorem sd_mul {a b : Expr} {i j : E} {pos : Pos} (ha : Snd X c ea G W a i) (hb : Snd X c ea G W b j) : Snd X c ea G W (.BinOp a .Mult b pos) (.bin .mul i j) := by
  refine sd_op2 opsMul ha hb fun z ι S H x y vx vy d Q s rx ry h p => ?_
  cases hx : view S x <;> simp only [hx, bop, reduceCtorEq] at h
  · cases hy : view S y <;> simp only [hy, bop, reduceCtorEq] at h
    have ex := view_int hx; have ey := view_int hy
    subst ex ey
    obtain rfl : vx = .int _ := rx
    obtain rfl : vy = .int _ := ry
    split at h
    · rename_i hc
      cases h
      simp only [Bool.or_eq_true, Bool.and_eq_true, decide_eq_true_eq] at hc
      rcases hc with (hc | hc) | hc
      · have := abs_lt hc
        exact .inl ⟨_, _, rfl, rfl, .inr (by simpa using this), p.ret s rfl⟩
      · have := abs_lt hc
        exact .inl ⟨_, _, rfl, rfl, .inl (by simpa using this), p.ret s rfl⟩
      · exact .inr (.inl ⟨_, _, rfl, rfl, wide_mul hc.1 hc.2 (by decide) (by decide) (by decide), p.ret s rfl⟩)
    · cases h
  · cases hy : view S y <;> simp only [hy, bop, reduceCtorEq] at h
    have ey := view_int hy
    subst ey
    split at h
    · rename_i hc
      cases h
      simp only [Bool.and_eq_true, decide_eq_true_eq] at hc
      obtain ⟨a, vs, rfl, q1, w1⟩ := view_list s rx hx
      obtain rfl : vy = .int _ := ry
      have h1 := hc.1
      unfold cap at h1
      refine .inr (.inr ⟨a, _, vs, rfl, rfl, q1, by omega, by omega, line_of (by rw [← w1.length]; exact hc.2), fun q hq => ?_⟩)
      exact p.to (step_new hq) (s.new hq) (rv_newlist s hq (w1.rep _))
    · cases h
theorem sd_fdiv {a b : Expr} {i j : E} {pos : Pos} (ha : Snd X c ea G W a i) (hb : Snd X c ea G W b j) : Snd X c ea G W (.BinOp a .FloorDiv b pos) (.bin .fdiv i j) := by
  refine sd_op2 op_fdivW ha hb fun z ι S H x y vx vy d Q s rx ry h p => ?_
  cases hx : view S x <;> simp only [hx, bop, reduceCtorEq] at h
  cases hy : view S y <;> simp only [hy, bop, reduceCtorEq] at h
  have ex := view_int hx; have ey := view_int hy
  subst ex ey
  obtain rfl : vx = .int _ := rx
  obtain rfl : vy = .int _ := ry
  split at h
  · rename_i hc
    cases h
    simp only [Bool.and_eq_true, decide_eq_true_eq] at hc
    exact ⟨_, _, rfl, rfl, wide_div hc.1 hc.2 (by decide) (by decide), p.ret s rfl⟩
  · cases h
theorem sd_mod {a b : Expr} {i j : E} {pos : Pos} (ha : Snd X c ea G W a i) (hb : Snd X c ea G W b j) : Snd X c ea G W (.BinOp a .Mod b pos) (.bin .mod i j) := by
  refine sd_op2 op_mod ha hb fun z ι S H x y vx vy d Q s rx ry h p => ?_
  cases hx : view S x <;> simp only [hx, bop, reduceCtorEq] at h
  cases hy : view S y <;> simp only [hy, bop, reduceCtorEq] at h
  have ex := view_int hx; have ey := view_int hy
  subst ex ey
  obtain rfl : vx = .int _ := rx
  obtain rfl : vy = .int _ := ry
  split at h
  · rename_i hc
    cases h
    exact ⟨_, _, rfl, rfl, hc, p.ret s rfl⟩
  · cases h
theorem sd_pow {a b : Expr} {i j : E} {pos : Pos} (ha : Snd X c ea G W a i) (hb : Snd X c ea G W b j) : Snd X c ea G W (.BinOp a .Pow b pos) (.bin .pow i j) := by
  refine sd_op2 op_pow ha hb fun z ι S H x y vx vy d Q s rx ry h p => ?_
  cases hx : view S x <;> simp only [hx, bop, reduceCtorEq] at h
  cases hy : view S y <;> simp only [hy, bop, reduceCtorEq] at h
  have ex := view_int hx; have ey := view_int hy
  subst ex ey
  obtain rfl : vx = .int _ := rx
  obtain rfl : vy = .int _ := ry
  split at h
  · rename_i hc
    cases h
    simp only [Bool.and_eq_true, decide_eq_true_eq] at hc
    exact ⟨_, _, rfl, rfl, ⟨hc.1.1, by omega, hc.2⟩, p.ret s rfl⟩
  · cases h

/-! ### data compared -/
mutual
def toPy : D → PyData
  | .non => .none
  | .bl b => .bool b
  | .int i => .int i
  | .str x => .str x
  | .tup xs => .tuple (toPys xs)
  | .lst xs => .list (toPys xs)
  | .scr ns => .list (ns.map .int)
  | .ref _ => .none
def toPys : List D → List PyData
  | [] => []
  | d :: ds => toPy d :: toPys ds
end
theorem okd_cons {n : Nat} {d : D} {ds : List D} (h : (d :: ds).all (D.okd n) = true) : d.okd n = true ∧ ds.all (D.okd n) = true := by simpa using h
mutual
theorem dp_of {ι : List Addr} {S : Sto} {H : Hp} (s : SR c ι S H) : ∀ (d : D) (n : Nat) (v : V), d.okd n = true → RV c ι S H d v → Dp c.K H v (toPy d)
  | .non, n, v, _, r => by obtain rfl : v = .non := r; exact .non
  | .bl b, n, v, _, r => by obtain rfl : v = .bl b := r; exact .bl b
  | .int i, n, v, _, r => by obtain rfl : v = .int i := r; exact .int i
  | .str x, n, v, _, r => by obtain rfl : v = .str x := r; exact .str x
  | .tup xs, n, v, h, r => by
    obtain ⟨a, vs, rfl, q, rs⟩ := r
    cases n with
    | zero => simp [D.okd] at h
    | succ n => exact .tup q (dps_of s xs n vs (by simpa [D.okd] using h) rs)
  | .lst xs, n, v, h, r => by
    obtain ⟨a, vs, rfl, q, _, rs⟩ := r
    cases n with
    | zero => simp [D.okd] at h
    | succ n => exact .lst (.inl (.inl q)) (dps_of s xs n vs (by simpa [D.okd] using h) rs)
  | .scr ns, n, v, h, r => by cases n <;> simp [D.okd] at h
  | .ref k, n, v, h, r => by cases n <;> simp [D.okd] at h
theorem dps_of {ι : List Addr} {S : Sto} {H : Hp} (s : SR c ι S H) : ∀ (ds : List D) (n : Nat) (vs : List V), (∀ x ∈ ds, x.okd n = true) → RVs c ι S H ds vs → DpAll c.K H vs (toPys ds)
  | [], n, [], _, _ => .nil
  | [], _, _ :: _, _, h => h.elim
  | _ :: _, _, [], _, h => h.elim
  | d :: ds, n, v :: vs, h, r => .cons (dp_of s d n v (h d (by simp)) r.1) (dps_of s ds n vs (fun x hx => h x (by simp [hx])) r.2)
end
mutual
theorem py_shape : ∀ (d : D) (n : Nat), d.okd n = true → (toPy d).canLay0 = true ∧ (toPy d).depth ≤ n
  | .non, n, _ => by simp [toPy, PyData.canLay0, PyData.depth]
  | .bl b, n, _ => by simp [toPy, PyData.canLay0, PyData.depth]
  | .int i, n, _ => by simp [toPy, PyData.canLay0, PyData.depth]
  | .str x, n, h => by simp [toPy, PyData.canLay0, PyData.depth]; cases n <;> simpa [D.okd] using h
  | .tup xs, n, h => by
    cases n with
    | zero => simp [D.okd] at h
    | succ n =>
      obtain ⟨a, b⟩ := pys_shape xs n (by simpa [D.okd] using h)
      simp only [toPy, PyData.canLay0, PyData.depth]
      exact ⟨a, by omega⟩
  | .lst xs, n, h => by
    cases n with
    | zero => simp [D.okd] at h
    | succ n =>
      obtain ⟨a, b⟩ := pys_shape xs n (by simpa [D.okd] using h)
      simp only [toPy, PyData.canLay0, PyData.depth]
      exact ⟨a, by omega⟩
  | .scr ns, n, h => by cases n <;> simp [D.okd] at h
  | .ref k, n, h => by cases n <;> simp [D.okd] at h
theorem pys_shape : ∀ (ds : List D) (n : Nat), (∀ x ∈ ds, x.okd n = true) → PyData.canLayAll0 (toPys ds) = true ∧ PyData.depthAll (toPys ds) ≤ n
  | [], n, _ => by simp [toPys, PyData.canLayAll0, PyData.depthAll]
  | d :: ds, n, h => by
    obtain ⟨a, b⟩ := py_shape d n (h d (by simp))
    obtain ⟨a', b'⟩ := pys_shape ds n (fun x hx => h x (by simp [hx]))
    simp only [toPys, PyData.canLayAll0, PyData.depthAll, a, a', Bool.and_self, true_and]
    omega
end
theorem shaped_of {d : D} {n : Nat} (h : d.okd n = true) (hn : n ≤ 64) : SeqAt.shaped (toPy d) = true := by
  obtain ⟨a, b⟩ := py_shape d n h
  unfold SeqAt.shaped
  rw [a, Bool.true_and]
  exact decide_eq_true (by omega)
mutual
theorem eqv_py : ∀ (a b : D) (n m : Nat), a.okd n = true → b.okd m = true → PyData.eqv (toPy a) (toPy b) = a.eqv b
  | .non, b, n, m, _, hb => by cases b <;> first | rfl | (cases m <;> simp [D.okd] at hb)
  | .bl _, b, n, m, _, hb => by cases b <;> first | rfl | (cases m <;> simp [D.okd] at hb)
  | .int _, b, n, m, _, hb => by cases b <;> first | rfl | (cases m <;> simp [D.okd] at hb)
  | .str _, b, n, m, _, hb => by cases b <;> first | rfl | (cases m <;> simp [D.okd] at hb)
  | .scr _, b, n, m, h, _ => by cases n <;> simp [D.okd] at h
  | .ref _, b, n, m, h, _ => by cases n <;> simp [D.okd] at h
  | .tup xs, b, n, m, h, hb => by
    cases n with
    | zero => simp [D.okd] at h
    | succ n =>
      cases b with
      | tup ys =>
        cases m with
        | zero => simp [D.okd] at hb
        | succ m =>
          simp only [toPy, PyData.eqv, D.eqv]
          exact eqvs_py xs ys n m (by simpa [D.okd] using h) (by simpa [D.okd] using hb)
      | scr _ => cases m <;> simp [D.okd] at hb
      | ref _ => cases m <;> simp [D.okd] at hb
      | _ => simp [toPy, PyData.eqv, D.eqv]
  | .lst xs, b, n, m, h, hb => by
    cases n with
    | zero => simp [D.okd] at h
    | succ n =>
      cases b with
      | lst ys =>
        cases m with
        | zero => simp [D.okd] at hb
        | succ m =>
          simp only [toPy, PyData.eqv, D.eqv]
          exact eqvs_py xs ys n m (by simpa [D.okd] using h) (by simpa [D.okd] using hb)
      | scr _ => cases m <;> simp [D.okd] at hb
      | ref _ => cases m <;> simp [D.okd] at hb
      | _ => simp [toPy, PyData.eqv, D.eqv]
theorem eqvs_py : ∀ (a b : List D) (n m : Nat), (∀ x ∈ a, x.okd n = true) → (∀ x ∈ b, x.okd m = true) → PyData.eqvAll (toPys a) (toPys b) = D.eqvs a b
  | [], [], _, _, _, _ => by simp [toPys, PyData.eqvAll, D.eqvs]
  | [], _ :: _, _, _, _, _ => by simp [toPys, PyData.eqvAll, D.eqvs]
  | _ :: _, [], _, _, _, _ => by simp [toPys, PyData.eqvAll, D.eqvs]
  | a :: as, b :: bs, n, m, h, h' => by
    simp only [toPys, PyData.eqvAll, D.eqvs]
    rw [eqv_py a b n m (h a (by simp)) (h' b (by simp)), eqvs_py as bs n m (fun x hx => h x (by simp [hx])) (fun x hx => h' x (by simp [hx]))]
end
end
end Y

end

section
set_option Elab.async false
set_option linter.all false
set_option maxRecDepth 100000
set_option maxHeartbeats 1000000
namespace Y
open PySem L2
section
variable {X : Cx} {c : Cfg} {ea : Nat → Addr} {G : Rules} {W : XK} {ι : List Addr} {S : Sto} {H : Hp}
theorem dpv_of (s : SR c ι S H) {x : D} {v : V} {n : Nat} (r : RV c ι S H x v) (h : (view S x).okd n = true) : Dp c.K H v (toPy (view S x)) := by
  by_cases hl : ∃ xs, view S x = .lst xs
  · obtain ⟨xs, hx⟩ := hl
    rw [hx] at h ⊢
    obtain ⟨a, vs, rfl, q, rs⟩ := view_list s r hx
    cases n with
    | zero => simp [D.okd] at h
    | succ n => exact .lst (.inl (.inl q)) (dps_of s xs n vs (by simpa [D.okd] using h) rs)
  · have e := view_else (S := S) (d := x) fun xs z => hl ⟨xs, z⟩
    rw [e] at h ⊢
    exact dp_of s x n v h r
theorem dp_ints (K : PySem.W.Frag) (H : Hp) : ∀ ns : List Int, DpAll K H (ns.map V.int) (ns.map PyData.int)
  | [] => .nil
  | n :: ns => .cons (.int n) (dp_ints K H ns)
theorem ints_shape : ∀ ns : List Int, PyData.canLayAll0 (ns.map PyData.int) = true ∧ PyData.depthAll (ns.map PyData.int) = 0
  | [] => by simp [PyData.canLayAll0, PyData.depthAll]
  | n :: ns => by
    obtain ⟨a, b⟩ := ints_shape ns
    simp [PyData.canLayAll0, PyData.depthAll, PyData.canLay0, PyData.depth, a, b]
theorem ints_shaped (ns : List Int) : SeqAt.shaped (.list (ns.map .int)) = true := by
  obtain ⟨a, b⟩ := ints_shape ns
  unfold SeqAt.shaped
  simp [PyData.canLay0, PyData.depth, a, b]
theorem scr_sq {ns : List Int} {v : V} (r : RV c ι S H (.scr ns) v) : ∃ a, v = .ref a ∧ SqL c.K H a (ns.map .int) := by
  obtain ⟨a, e, ⟨q, _⟩ | q⟩ := r
  · exact ⟨a, e, .inl q⟩
  · exact ⟨a, e, .inr q⟩
def rEqA (K : PySem.W.Frag) : R2 := fun x y H Q => rEq x y H Q ∨ rEqD K x y H Q
def rNeA (K : PySem.W.Frag) : R2 := fun x y H Q => rNe x y H Q ∨ rNeD K x y H Q
theorem op_eqA (hu : X.A.units + 64 < cLine) : OpR X (compareOp .Eq) (rEqA X.K) := op_eq.or (op_eqD hu)
theorem op_neA (hu : X.A.units + 64 < cLine) : OpR X (compareOp .NotEq) (rNeA X.K) := op_ne.or (op_neD hu)
theorem eqD_cases {a b : D} {k : Bool} (h : eqD a b = some k) : (∃ ns, a = .scr ns ∧ b = .lst [] ∧ k = ns.isEmpty) ∨ (∃ x y, a = .str x ∧ b = .str y ∧ k = (x == y)) ∨ (a.okd 8 = true ∧ b.okd 8 = true ∧ k = a.eqv b) := by
  unfold eqD at h
  split at h
  · exact .inl ⟨_, rfl, rfl, (Option.some.inj h).symm⟩
  · exact .inr (.inl ⟨_, _, rfl, rfl, (Option.some.inj h).symm⟩)
  · split at h
    · rename_i hc
      simp only [Bool.and_eq_true] at hc
      exact .inr (.inr ⟨hc.1, hc.2, (Option.some.inj h).symm⟩)
    · cases h
theorem str_dec (x y : Str) : decide (V.str x = V.str y) = (x == y) := by
  rw [Bool.eq_iff_iff]; simp
/-- == by its values, whatever is made of the answer -/
theorem eq_by (s : SR c ι S H) {x y : D} {vx vy : V} {k : Bool} (rx : RV c ι S H x vx) (ry : RV c ι S H y vy) (h : eqD (view S x) (view S y) = some k) :
    (scal vx vy = true ∧ decide (vx = vy) = k) ∨ ∃ d e, Dp c.K H vx d ∧ Dp c.K H vy e ∧ SeqAt.shaped d = true ∧ SeqAt.shaped e = true ∧ PyData.eqv d e = k := by
  rcases eqD_cases h with ⟨ns, h1, h2, rfl⟩ | ⟨p, q, h1, h2, rfl⟩ | ⟨h1, h2, rfl⟩
  · have e1 := view_scr h1
    subst e1
    obtain ⟨a, rfl, q⟩ := scr_sq rx
    refine .inr ⟨.list (ns.map .int), _, .lst q (dp_ints _ _ _), dpv_of s ry (n := 1) (by rw [h2]; rfl), ints_shaped ns, shaped_of (n := 1) (by rw [h2]; rfl) (by decide), ?_⟩
    rw [h2]
    cases ns <;> simp [toPy, toPys, PyData.eqv, PyData.eqvAll]
  · have e1 := view_str h1; have e2 := view_str h2
    subst e1 e2
    obtain rfl : vx = .str p := rx
    obtain rfl : vy = .str q := ry
    exact .inl ⟨rfl, str_dec p q⟩
  · exact .inr ⟨_, _, dpv_of s rx h1, dpv_of s ry h2, shaped_of h1 (by decide), shaped_of h2 (by decide), eqv_py _ _ 8 8 h1 h2⟩
theorem eqA_by (s : SR c ι S H) {x y : D} {vx vy : V} {k : Bool} {Q : VK} (rx : RV c ι S H x vx) (ry : RV c ι S H y vy) (h : eqD (view S x) (view S y) = some k) (q : Q (.bl k) H) : rEqA c.K vx vy H Q := by
  rcases eq_by s rx ry h with ⟨h1, rfl⟩ | ⟨d, e, h1, h2, h3, h4, rfl⟩
  · exact .inl ⟨h1, q⟩
  · exact .inr ⟨d, e, h1, h2, h3, h4, q⟩
theorem neA_by (s : SR c ι S H) {x y : D} {vx vy : V} {k : Bool} {Q : VK} (rx : RV c ι S H x vx) (ry : RV c ι S H y vy) (h : eqD (view S x) (view S y) = some k) (q : Q (.bl (!k)) H) : rNeA c.K vx vy H Q := by
  rcases eq_by s rx ry h with ⟨h1, rfl⟩ | ⟨d, e, h1, h2, h3, h4, rfl⟩
  · exact .inl ⟨h1, q⟩
  · exact .inr ⟨d, e, h1, h2, h3, h4, q⟩
/-! in -/
def rInC : R2 := fun y x H Q => ∃ a o, x = .ref a ∧ DGet H a y o ∧ Q (.bl o.isSome) H
def rNotInC : R2 := fun y x H Q => ∃ a o, x = .ref a ∧ DGet H a y o ∧ Q (.bl (!o.isSome)) H
theorem op_inC (hu : X.A.units + 1 < cLine) : OpR X (compareOp .In) rInC := by
  intro pins s σ H x y v u Q I rx ry h
  obtain ⟨a, o, rfl, g, q⟩ := h
  cases ry
  exact d_in hu I g rx fun s' I' => ⟨.bl _, H, I', rfl, q⟩
theorem op_notInC (hu : X.A.units + 1 < cLine) : OpR X (compareOp .NotIn) rNotInC := by
  intro pins s σ H x y v u Q I rx ry h
  obtain ⟨a, o, rfl, g, q⟩ := h
  cases ry
  exact d_notIn hu I g rx fun s' I' => ⟨.bl _, H, I', rfl, q⟩
def rSign (neg : Bool) : R2 := fun x y H Q => ∃ (c : Nat) (z : Str), x = .str ⟨#[c]⟩ ∧ y = .str z ∧ Q (.bl (if neg then !decide (c ∈ z.cps.toList) else decide (c ∈ z.cps.toList))) H
def rInA (K : PySem.W.Frag) : R2 := fun x y H Q => rInD K x y H Q ∨ rIn K false x y H Q ∨ rSign false x y H Q ∨ rInC x y H Q
def rNotInA (K : PySem.W.Frag) : R2 := fun x y H Q => rNotInD K x y H Q ∨ rIn K true x y H Q ∨ rSign true x y H Q ∨ rNotInC x y H Q
theorem op_inA (hu : X.A.units + 65 < cLine) : OpR X (compareOp .In) (rInA X.K) := (op_inD hu).or (op_in_seq.or (OpR.or (r := rSign false) op_in_sign (op_inC (by omega))))
theorem op_notInA (hu : X.A.units + 65 < cLine) : OpR X (compareOp .NotIn) (rNotInA X.K) := (op_notInD hu).or (op_notIn_seq.or (OpR.or (r := rSign true) op_notIn_sign (op_notInC (by omega))))
theorem flat_rv {x : D} {v : V} (h : flatD x = true) (r : RV c ι S H x v) : flatV v = true := by
  cases x <;> simp [flatD] at h <;> (have e : v = _ := r; subst e; rfl)
theorem flat_eq {x y : D} {v u : V} (h : flatD x = true) (h' : flatD y = true) (r : RV c ι S H x v) (r' : RV c ι S H y u) : eqV v u = x.eqv y := by
  cases x <;> simp [flatD] at h <;> cases y <;> simp [flatD] at h' <;> (have e : v = _ := r; have e' : u = _ := r'; subst e e'; rfl)
theorem flats_rv : ∀ {xs : List D} {vs : List V}, xs.all flatD = true → RVs c ι S H xs vs → vs.all flatV = true
  | [], [], _, _ => rfl
  | [], _ :: _, _, h => h.elim
  | _ :: _, [], _, h => h.elim
  | x :: xs, v :: vs, h, r => by
    simp only [List.all_cons, Bool.and_eq_true] at h ⊢
    exact ⟨flat_rv h.1 r.1, flats_rv h.2 r.2⟩
theorem flats_any {y : D} {u : V} (h' : flatD y = true) (r' : RV c ι S H y u) : ∀ {xs : List D} {vs : List V}, xs.all flatD = true → RVs c ι S H xs vs → (vs.any fun z => eqV z u) = xs.any fun z => z.eqv y
  | [], [], _, _ => rfl
  | [], _ :: _, _, h => h.elim
  | _ :: _, [], _, h => h.elim
  | x :: xs, v :: vs, h, r => by
    simp only [List.all_cons, Bool.and_eq_true] at h
    simp only [List.any_cons]
    rw [flat_eq h.1 h' r.1 r', flats_any h' r' h.2 r.2]
theorem any_py {y : D} (hy : y.okd 7 = true) : ∀ {xs : List D}, xs.all (D.okd 7) = true → ((toPys xs).any fun z => PyData.eqv z (toPy y)) = xs.any fun z => z.eqv y
  | [], _ => rfl
  | x :: xs, h => by
    obtain ⟨h1, h2⟩ := okd_cons h
    simp only [toPys, List.any_cons]
    rw [eqv_py x y 7 7 h1 hy, any_py hy h2]
theorem key_rv {x : D} {v : V} {k : Key} (h : keyD x = some k) (r : RV c ι S H x v) : v = kV k := by
  cases x <;> simp [keyD] at h <;> (subst h; exact r)
theorem getK_cons {κ α : Type} [DecidableEq κ] (kv : κ × α) (r : List (κ × α)) (k : κ) : getK (kv :: r) k = if kv.1 = k then some kv.2 else getK r k := by
  unfold getK
  by_cases e : kv.1 = k <;> simp [List.find?_cons, e]
theorem valV_cons {κ : Type} [DecidableEq κ] (kv : κ × V) (r : List (κ × V)) (k : κ) : valV (kv :: r) k = if kv.1 = k then some kv.2 else valV r k := by
  by_cases e : kv.1 = k
  · rw [valV_pos e, if_pos e]
  · rw [valV_neg e, if_neg e]
theorem rk_get {κ : Type} [DecidableEq κ] (k : κ) : ∀ {kvs : List (κ × D)} {ws : List (κ × V)}, RKs c ι S H kvs ws → match getK kvs k, valV ws k with
    | some d, some v => RV c ι S H d v
    | none, none => True
    | _, _ => False
  | [], [], _ => trivial
  | [], _ :: _, h => h.elim
  | _ :: _, [], h => h.elim
  | p :: kvs, q :: ws, h => by
    rw [getK_cons, valV_cons, ← h.1.1]
    by_cases e : p.1 = k
    · rw [if_pos e, if_pos e]; exact h.1.2
    · rw [if_neg e, if_neg e]; exact rk_get k h.2
theorem rk_some {κ : Type} [DecidableEq κ] {k : κ} {d : D} {kvs : List (κ × D)} {ws : List (κ × V)} (h : RKs c ι S H kvs ws) (e : getK kvs k = some d) : ∃ v, valV ws k = some v ∧ RV c ι S H d v := by
  have := rk_get k h
  rw [e] at this
  cases q : valV ws k with
  | none => rw [q] at this; exact this.elim
  | some v => rw [q] at this; exact ⟨v, rfl, this⟩
theorem rk_none {κ : Type} [DecidableEq κ] {k : κ} {kvs : List (κ × D)} {ws : List (κ × V)} (h : RKs c ι S H kvs ws) (e : getK kvs k = none) : valV ws k = none := by
  have := rk_get k h
  rw [e] at this
  cases q : valV ws k with
  | none => rfl
  | some v => rw [q] at this; exact this.elim
theorem rk_isSome {κ : Type} [DecidableEq κ] (k : κ) {kvs : List (κ × D)} {ws : List (κ × V)} (h : RKs c ι S H kvs ws) : (valV ws k).isSome = (getK kvs k).isSome := by
  cases e : getK kvs k with
  | none => simp [rk_none h e]
  | some d => obtain ⟨v, q, _⟩ := rk_some h e; rw [q]; rfl
theorem dic_at (s : SR c ι S H) {n : Nat} {v : V} {kvs : List (Key × D)} (r : RV c ι S H (.ref n) v) (h : S[n]? = some (.dic kvs)) : ∃ a ws, v = .ref a ∧ ι[n]? = some a ∧ H a = some (.dK ws) ∧ RKs c ι S H kvs ws := by
  obtain ⟨a, e, q⟩ := r
  obtain ⟨ws, h1, h2⟩ := s.obj n a _ q h
  exact ⟨a, ws, e, q, h1, h2⟩
/-- in, by its values -/
theorem in_by (s : SR c ι S H) {x y : D} {vx vy : V} {k neg : Bool} {Q : VK} (rx : RV c ι S H x vx) (ry : RV c ι S H y vy) (h : isIn S x (view S y) = some k) (q : Q (.bl (if neg then !k else k)) H) : if neg then rNotInA c.K vx vy H Q else rInA c.K vx vy H Q := by
  cases hy : view S y with
  | lst xs =>
    rw [hy] at h
    simp only [isIn] at h
    split at h
    · rename_i hc
      simp only [Bool.and_eq_true] at hc
      cases h
      have hk : D.okd 8 (view S y) = true := by rw [hy]; exact hc.2
      have d1 := dp_of s x 7 vx hc.1 rx
      have d2 := dpv_of s ry hk
      have s2 := shaped_of hk (by decide)
      rw [hy] at d2 s2
      simp only [toPy] at d2 s2
      cases neg
      · exact .inl ⟨toPy x, toPys xs, d1, d2, shaped_of hc.1 (by decide), s2, by rw [any_py hc.1 hc.2]; exact q⟩
      · exact .inl ⟨toPy x, toPys xs, d1, d2, shaped_of hc.1 (by decide), s2, by rw [any_py hc.1 hc.2]; exact q⟩
    · cases h
  | tup xs =>
    have e := view_tup hy
    subst e
    rw [hy] at h
    simp only [isIn] at h
    split at h
    · rename_i hc
      simp only [Bool.and_eq_true] at hc
      cases h
      obtain ⟨a, vs, rfl, q1, rs⟩ := ry
      have e := flats_any hc.1 rx hc.2 rs
      cases neg
      · exact .inr (.inl ⟨a, vs, rfl, .inr q1, flat_rv hc.1 rx, flats_rv hc.2 rs, by show Q (.bl (inV vx vs)) H; unfold inV; rw [e]; exact q⟩)
      · exact .inr (.inl ⟨a, vs, rfl, .inr q1, flat_rv hc.1 rx, flats_rv hc.2 rs, by show Q (.bl (!inV vx vs)) H; unfold inV; rw [e]; exact q⟩)
    · cases h
  | str z =>
    have e := view_str hy
    subst e
    obtain rfl : vy = .str z := ry
    rw [hy] at h
    simp only [isIn] at h
    split at h
    · rename_i y'
      split at h
      · rename_i k' hk
        cases h
        obtain ⟨arr⟩ := y'
        have e : arr = #[k'] := by
          have := congrArg List.toArray hk
          simpa using this
        subst e
        obtain rfl : vx = .str ⟨#[k']⟩ := rx
        cases neg
        · exact .inr (.inr (.inl ⟨_, _, rfl, rfl, q⟩))
        · exact .inr (.inr (.inl ⟨_, _, rfl, rfl, q⟩))
      · cases h
    · cases h
  | ref n =>
    have e := view_ref hy
    subst e
    rw [hy] at h
    simp only [isIn] at h
    cases hS : S[n]? with
    | none => simp [hS] at h
    | some o =>
      cases o with
      | dic kvs =>
        simp only [hS, Option.map_eq_some_iff] at h
        obtain ⟨ky, h1, rfl⟩ := h
        obtain ⟨a, ws, rfl, _, h2, h3⟩ := dic_at s ry hS
        have e := key_rv h1 rx
        subst e
        have e := rk_isSome ky h3
        cases neg
        · exact .inr (.inr (.inr ⟨a, _, rfl, DGet.k h2, by rw [e]; exact q⟩))
        · exact .inr (.inr (.inr ⟨a, _, rfl, DGet.k h2, by rw [e]; exact q⟩))
      | _ => simp [hS] at h
  | _ => simp [hy, isIn] at h

/-- the model's comparison for each of ours -/
def COp.py : COp → CmpOp
  | .eq => .Eq
  | .ne => .NotEq
  | .lt => .Lt
  | .le => .LtE
  | .gt => .Gt
  | .ge => .GtE
  | .isin => .In
  | .notin => .NotIn
def rCop (K : PySem.W.Frag) : COp → R2
  | .eq => rEqA K
  | .ne => rNeA K
  | .lt => rI0 fun i j => .bl (decide (i < j))
  | .le => rI0 fun i j => .bl (decide (i ≤ j))
  | .gt => rI0 fun i j => .bl (decide (j < i))
  | .ge => rI0 fun i j => .bl (decide (j ≤ i))
  | .isin => rInA K
  | .notin => rNotInA K
theorem op_cop (hu : X.A.units + 65 < cLine) : ∀ o : COp, OpR X (compareOp o.py) (rCop X.K o)
  | .eq => op_eqA (by omega)
  | .ne => op_neA (by omega)
  | .lt => op_lt
  | .le => op_le
  | .gt => op_gt
  | .ge => op_ge
  | .isin => op_inA hu
  | .notin => op_notInA hu
theorem cop_by (s : SR c ι S H) {o : COp} {x y : D} {vx vy : V} {k : Bool} {Q : VK} (rx : RV c ι S H x vx) (ry : RV c ι S H y vy) (h : cop S o x y = some k) (q : Q (.bl k) H) : rCop c.K o vx vy H Q := by
  cases o with
  | eq => exact eqA_by s rx ry (by cases x <;> cases y <;> exact h) q
  | ne =>
    have h : (eqD (view S x) (view S y)).map (! ·) = some k := by cases x <;> cases y <;> exact h
    simp only [Option.map_eq_some_iff] at h
    obtain ⟨k', h1, rfl⟩ := h
    exact neA_by s rx ry h1 q
  | isin => exact in_by (neg := false) s rx ry (by cases x <;> cases y <;> exact h) q
  | notin =>
    have h : (isIn S x (view S y)).map (! ·) = some k := by cases x <;> cases y <;> exact h
    simp only [Option.map_eq_some_iff] at h
    obtain ⟨k', h1, rfl⟩ := h
    exact in_by (neg := true) s rx ry h1 q
  | lt =>
    cases x <;> cases y <;> simp only [cop, reduceCtorEq, Option.some.injEq] at h
    obtain rfl : vx = .int _ := rx
    obtain rfl : vy = .int _ := ry
    subst h
    exact ⟨_, _, rfl, rfl, q⟩
  | le =>
    cases x <;> cases y <;> simp only [cop, reduceCtorEq, Option.some.injEq] at h
    obtain rfl : vx = .int _ := rx
    obtain rfl : vy = .int _ := ry
    subst h
    exact ⟨_, _, rfl, rfl, q⟩
  | gt =>
    cases x <;> cases y <;> simp only [cop, reduceCtorEq, Option.some.injEq] at h
    obtain rfl : vx = .int _ := rx
    obtain rfl : vy = .int _ := ry
    subst h
    exact ⟨_, _, rfl, rfl, q⟩
  | ge =>
    cases x <;> cases y <;> simp only [cop, reduceCtorEq, Option.some.injEq] at h
    obtain rfl : vx = .int _ := rx
    obtain rfl : vy = .int _ := ry
    subst h
    exact ⟨_, _, rfl, rfl, q⟩
/-- what both readings of a comparison ask -/
theorem cmp_t {a b : TE} {o : COp} {i j : E} (ha : a = tEv c ea G W i) (hb : b = tEv c ea G W j) {σ : L2.St} {H : Hp} {Q : VK} (h : tEv c ea G W (.cmp o i j) σ H Q) : tOp (rCop c.K o) a b σ H Q := by
  subst ha hb
  obtain ⟨z, ι, S, env, s, e, p⟩ := h
  refine ⟨z, ι, S, env, s, e, Post.bind p fun x S1 vx ι1 H1 st s1 r1 p1 => ?_⟩
  refine ⟨z, ι1, S1, env, s1, e.step s st, Post.bind p1 fun y S2 vy ι2 H2 st2 s2 r2 p2 => ?_⟩
  obtain ⟨d, h1, h2⟩ := Post.opt p2
  simp only [Option.map_eq_some_iff] at h1
  obtain ⟨k, h1, rfl⟩ := h1
  exact cop_by s2 (RV.step s1 st2 _ _ r1) r2 h1 (h2.ret s2 rfl)
theorem sd_cmp {a b : Expr} {o : COp} {i j : E} {pos : Pos} (hK : X.K = c.K) (hu : X.A.units + 65 < cLine) (ha : Snd X c ea G W a i) (hb : Snd X c ea G W b j) (hm : behindInMarks o.py b = false) : Snd X c ea G W (.Compare a [o.py] [b] pos) (.cmp o i j) :=
  PE.mono (pe_cmpR (op_cop hu o) ha hb hm) fun σ H Q h => by rw [hK]; exact cmp_t rfl rfl h
/-- a test -/
abbrev SndT (X : Cx) (c : Cfg) (ea : Nat → Addr) (G : Rules) (W : XK) (e : Expr) (ir : E) : Prop := PT X e (L2.tB (tEv c ea G W ir))
theorem st_cmp {a b : Expr} {o : COp} {i j : E} {pos : Pos} (hK : X.K = c.K) (hu : X.A.units + 65 < cLine) (ha : Snd X c ea G W a i) (hb : Snd X c ea G W b j) (hm : behindInMarks o.py b = false) : SndT X c ea G W (.Compare a [o.py] [b] pos) (.cmp o i j) :=
  PT.mono (pt_cmpR (op_cop hu o) ha hb hm) fun σ H Q h => by rw [hK]; exact cmp_t rfl rfl h
theorem isn_rv {x : D} {v : V} (r : RV c ι S H x v) : decide (v = V.non) = nonD x := by
  cases x with
  | non => obtain rfl : v = .non := r; rfl
  | bl _ => obtain rfl : v = .bl _ := r; rfl
  | int _ => obtain rfl : v = .int _ := r; rfl
  | str _ => obtain rfl : v = .str _ := r; rfl
  | tup _ => obtain ⟨a, _, rfl, _⟩ := r; rfl
  | lst _ => obtain ⟨a, _, rfl, _⟩ := r; rfl
  | scr _ => obtain ⟨a, rfl, _⟩ := r; rfl
  | ref _ => obtain ⟨a, rfl, _⟩ := r; rfl
theorem isn_t {i : E} {σ : L2.St} {H : Hp} {Q : VK} (h : tEv c ea G W (.isN i) σ H Q) : tIsN (tEv c ea G W i) σ H Q := by
  obtain ⟨z, ι, S, env, s, e, p⟩ := h
  refine ⟨z, ι, S, env, s, e, Post.bind p fun x S1 vx ι1 H1 st s1 r1 p1 => ?_⟩
  rw [isn_rv r1]
  exact p1.ret s1 rfl
theorem notn_t {i : E} {σ : L2.St} {H : Hp} {Q : VK} (h : tEv c ea G W (.notN i) σ H Q) : tNotN (tEv c ea G W i) σ H Q := by
  obtain ⟨z, ι, S, env, s, e, p⟩ := h
  refine ⟨z, ι, S, env, s, e, Post.bind p fun x S1 vx ι1 H1 st s1 r1 p1 => ?_⟩
  rw [isn_rv r1]
  exact p1.ret s1 rfl
theorem sd_isn {a : Expr} {i : E} {j : Nat} {pos pos' : Pos} (ha : Snd X c ea G W a i) : Snd X c ea G W (.Compare a [.Is] [.Constant .none j pos'] pos) (.isN i) := PE.mono (pe_cmp (pc_isN ha)) fun σ H Q h => isn_t h
theorem st_isn {a : Expr} {i : E} {j : Nat} {pos pos' : Pos} (ha : Snd X c ea G W a i) : SndT X c ea G W (.Compare a [.Is] [.Constant .none j pos'] pos) (.isN i) := PT.mono (pt_cmp (pc_isN ha)) fun σ H Q h => isn_t h
theorem sd_notn {a : Expr} {i : E} {j : Nat} {pos pos' : Pos} (ha : Snd X c ea G W a i) : Snd X c ea G W (.Compare a [.IsNot] [.Constant .none j pos'] pos) (.notN i) := PE.mono (pe_cmp (pc_notN ha)) fun σ H Q h => notn_t h
theorem st_notn {a : Expr} {i : E} {j : Nat} {pos pos' : Pos} (ha : Snd X c ea G W a i) : SndT X c ea G W (.Compare a [.IsNot] [.Constant .none j pos'] pos) (.notN i) := PT.mono (pt_cmp (pc_notN ha)) fun σ H Q h => notn_t h
theorem chain_t {o o' : COp} {i j k : E} {σ : L2.St} {H : Hp} {Q : VK} (h : tEv c ea G W (.chain o o' i j k) σ H Q) : tChain (rCop c.K o) (rCop c.K o') (tEv c ea G W i) (tEv c ea G W j) (tEv c ea G W k) σ H Q := by
  obtain ⟨z, ι, S, env, s, e, p⟩ := h
  refine ⟨z, ι, S, env, s, e, Post.bind p fun x S1 vx ι1 H1 st s1 r1 p1 => ?_⟩
  refine ⟨z, ι1, S1, env, s1, e.step s st, Post.bind p1 fun y S2 vy ι2 H2 st2 s2 r2 p2 => ?_⟩
  cases hk : cop S2 o x y with
  | none => rw [hk] at p2; exact p2.elim
  | some b =>
    rw [hk] at p2
    simp only [opt_some, R.bind_ok] at p2
    refine cop_by s2 (RV.step s1 st2 _ _ r1) r2 hk ⟨b, rfl, ?_⟩
    cases b with
    | false => simp only [Bool.false_eq_true, if_false]; exact p2.ret s2 rfl
    | true =>
      simp only [if_true]
      refine ⟨z, ι2, S2, env, s2, (e.step s st).step s1 st2, Post.bind p2 fun z S3 vz ι3 H3 st3 s3 r3 p3 => ?_⟩
      obtain ⟨d, h1, h2⟩ := Post.opt p3
      simp only [Option.map_eq_some_iff] at h1
      obtain ⟨k, h1, rfl⟩ := h1
      exact cop_by s3 (RV.step s2 st3 _ _ r2) r3 h1 (h2.ret s3 rfl)
theorem sd_chain {a b d : Expr} {o o' : COp} {i j k : E} {pos : Pos} (hK : X.K = c.K) (hu : X.A.units + 65 < cLine) (ha : Snd X c ea G W a i) (hb : Snd X c ea G W b j) (hd : Snd X c ea G W d k) (hm : lastMarks [o.py, o'.py] [b, d] = false) : Snd X c ea G W (.Compare a [o.py, o'.py] [b, d] pos) (.chain o o' i j k) :=
  PE.mono (pe_chain (op_cop hu o) (op_cop hu o') ha hb hd hm) fun σ H Q h => by rw [hK]; exact chain_t h
theorem st_chain {a b d : Expr} {o o' : COp} {i j k : E} {pos : Pos} (hK : X.K = c.K) (hu : X.A.units + 65 < cLine) (ha : Snd X c ea G W a i) (hb : Snd X c ea G W b j) (hd : Snd X c ea G W d k) (hm : lastMarks [o.py, o'.py] [b, d] = false) : SndT X c ea G W (.Compare a [o.py, o'.py] [b, d] pos) (.chain o o' i j k) :=
  PT.mono (pt_chain (op_cop hu o) (op_cop hu o') ha hb hd hm) fun σ H Q h => by rw [hK]; exact chain_t h

/-! ### and, or, not, if -/
theorem tB_bind {r : R D} {f : Bool → Sto → R D} {E : Nat → Hp → Prop} {Q : VK} {Q1 : VK} (h : PostV c ι S H (Y.tB r f) E Q) (k : ∀ b S1 ι1 H1, Step ι S H ι1 S1 H1 → SR c ι1 S1 H1 → PostV c ι1 S1 H1 (f b S1) E Q → Q1 (.bl b) H1) : PostV c ι S H r E Q1 :=
  Post.bind h fun d S1 v ι1 H1 st s1 r1 p1 => by
    cases d with
    | bl b => obtain rfl : v = .bl b := r1; exact k b S1 ι1 H1 st s1 p1
    | _ => exact p1.elim
theorem and_t {i j : E} {σ : L2.St} {H : Hp} {Q : VK} (h : tEv c ea G W (.and i j) σ H Q) : tAndV (tEv c ea G W i) (tEv c ea G W j) σ H Q := by
  obtain ⟨z, ι, S, env, s, e, p⟩ := h
  refine ⟨z, ι, S, env, s, e, tB_bind p fun b S1 ι1 H1 st s1 p1 => ⟨b, rfl, ?_⟩⟩
  cases b with
  | false => simp only [Bool.false_eq_true, if_false]; exact p1.ret s1 rfl
  | true =>
    simp only [if_true]
    refine ⟨z, ι1, S1, env, s1, e.step s st, tB_bind p1 fun b S2 ι2 H2 st2 s2 p2 => p2.ret s2 rfl⟩
theorem or_t {i j : E} {σ : L2.St} {H : Hp} {Q : VK} (h : tEv c ea G W (.or i j) σ H Q) : tOrV (tEv c ea G W i) (tEv c ea G W j) σ H Q := by
  obtain ⟨z, ι, S, env, s, e, p⟩ := h
  refine ⟨z, ι, S, env, s, e, tB_bind p fun b S1 ι1 H1 st s1 p1 => ⟨b, rfl, ?_⟩⟩
  cases b with
  | true => simp only [if_true]; exact p1.ret s1 rfl
  | false =>
    simp only [Bool.false_eq_true, if_false]
    refine ⟨z, ι1, S1, env, s1, e.step s st, tB_bind p1 fun b S2 ι2 H2 st2 s2 p2 => p2.ret s2 rfl⟩
theorem not_t {i : E} {σ : L2.St} {H : Hp} {Q : VK} (h : tEv c ea G W (.not i) σ H Q) : tNotV (tEv c ea G W i) σ H Q := by
  obtain ⟨z, ι, S, env, s, e, p⟩ := h
  exact ⟨z, ι, S, env, s, e, tB_bind p fun b S1 ι1 H1 st s1 p1 => ⟨b, rfl, p1.ret s1 rfl⟩⟩
theorem sd_and {a b : Expr} {rest : List Expr} {i j : E} {pos : Pos} (ha : Snd X c ea G W a i) (hb : Snd X c ea G W (.BoolOp .And (b :: rest) pos) j) : Snd X c ea G W (.BoolOp .And (a :: b :: rest) pos) (.and i j) := PE.mono (pe_and ha hb) fun σ H Q h => and_t h
theorem sd_or {a b : Expr} {rest : List Expr} {i j : E} {pos : Pos} (ha : Snd X c ea G W a i) (hb : Snd X c ea G W (.BoolOp .Or (b :: rest) pos) j) : Snd X c ea G W (.BoolOp .Or (a :: b :: rest) pos) (.or i j) := PE.mono (pe_or ha hb) fun σ H Q h => or_t h
theorem sd_one {a : Expr} {op : BoolOp} {i : E} {pos : Pos} (ha : Snd X c ea G W a i) : Snd X c ea G W (.BoolOp op [a] pos) i := pe_one ha
theorem sd_not {a : Expr} {i : E} {pos : Pos} (ha : Snd X c ea G W a i) : Snd X c ea G W (.UnaryOp .Not a pos) (.not i) := PE.mono (pe_not ha) fun σ H Q h => not_t h
abbrev SndW (X : Cx) (c : Cfg) (ea : Nat → Addr) (G : Rules) (W : XK) (e : Expr) (ir : E) : Prop := PW X e (L2.tB (tEv c ea G W ir))
theorem PW.mono {e : Expr} {t t' : TT} (h : PW X e t) (k : ∀ σ H Q, t' σ H Q → t σ H Q) : PW X e t' := ⟨fun wh pins s σ H Q I q => h.run wh pins s σ H Q I (k σ H Q q)⟩
theorem sw_and {a b : Expr} {rest : List Expr} {i j : E} {pos : Pos} (ha : SndT X c ea G W a i) (hb : SndW X c ea G W (.BoolOp .And (b :: rest) pos) j) : SndW X c ea G W (.BoolOp .And (a :: b :: rest) pos) (.and i j) := by
  refine PW.mono (pw_and ha hb) fun σ H Q ⟨z, ι, S, env, s, e, p⟩ => ?_
  refine ⟨z, ι, S, env, s, e, tB_bind p fun b S1 ι1 H1 st s1 p1 => ⟨b, rfl, ?_⟩⟩
  cases b with
  | false =>
    simp only [Bool.false_eq_true, if_false]
    obtain ⟨k, e, q⟩ := p1.ret s1 (v := .bl false) rfl
    cases e; exact q
  | true =>
    simp only [if_true]
    refine ⟨z, ι1, S1, env, s1, e.step s st, tB_bind p1 fun b S2 ι2 H2 st2 s2 p2 => p2.ret s2 rfl⟩
theorem sw_or {a b : Expr} {rest : List Expr} {i j : E} {pos : Pos} (ha : SndT X c ea G W a i) (hb : SndW X c ea G W (.BoolOp .Or (b :: rest) pos) j) : SndW X c ea G W (.BoolOp .Or (a :: b :: rest) pos) (.or i j) := by
  refine PW.mono (pw_or ha hb) fun σ H Q ⟨z, ι, S, env, s, e, p⟩ => ?_
  refine ⟨z, ι, S, env, s, e, tB_bind p fun b S1 ι1 H1 st s1 p1 => ⟨b, rfl, ?_⟩⟩
  cases b with
  | true =>
    simp only [if_true]
    obtain ⟨k, e, q⟩ := p1.ret s1 (v := .bl true) rfl
    cases e; exact q
  | false =>
    simp only [Bool.false_eq_true, if_false]
    refine ⟨z, ι1, S1, env, s1, e.step s st, tB_bind p1 fun b S2 ι2 H2 st2 s2 p2 => p2.ret s2 rfl⟩
theorem sw_and1 {a : Expr} {i : E} {pos : Pos} (ha : SndT X c ea G W a i) : SndW X c ea G W (.BoolOp .And [a] pos) i := pw_and1 ha
theorem sw_or1 {a : Expr} {i : E} {pos : Pos} (ha : SndT X c ea G W a i) : SndW X c ea G W (.BoolOp .Or [a] pos) i := pw_or1 ha
theorem st_not {a : Expr} {i : E} {pos : Pos} (ha : SndT X c ea G W a i) : SndT X c ea G W (.UnaryOp .Not a pos) (.not i) := by
  refine PT.mono (pt_not ha) fun σ H Q ⟨z, ι, S, env, s, e, p⟩ => ?_
  refine ⟨z, ι, S, env, s, e, tB_bind p fun b S1 ι1 H1 st s1 p1 => ⟨b, rfl, ?_⟩⟩
  obtain ⟨k, e, q⟩ := p1.ret s1 (v := .bl (!b)) rfl
  cases e; exact q
theorem sd_ite {t a b : Expr} {h i j : E} {pos : Pos} (ht : SndT X c ea G W t h) (ha : Snd X c ea G W a i) (hb : Snd X c ea G W b j) : Snd X c ea G W (.IfExp t a b pos) (.ite h i j) := by
  refine PE.mono (pe_ifExp ht ha hb) fun σ H Q ⟨z, ι, S, env, s, e, p⟩ => ?_
  refine ⟨z, ι, S, env, s, e, tB_bind p fun b S1 ι1 H1 st s1 p1 => ⟨b, rfl, ?_⟩⟩
  cases b with
  | true => simp only [if_true]; exact ⟨z, ι1, S1, env, s1, e.step s st, p1⟩
  | false => simp only [Bool.false_eq_true, if_false]; exact ⟨z, ι1, S1, env, s1, e.step s st, p1⟩
theorem st_ite {t a b : Expr} {h i j : E} {pos : Pos} (ht : SndT X c ea G W t h) (ha : SndT X c ea G W a i) (hb : SndT X c ea G W b j) : SndT X c ea G W (.IfExp t a b pos) (.ite h i j) := by
  refine ⟨fun pins s σ H Q I q => ?_⟩
  obtain ⟨z, ι, S, env, sr, e, p⟩ := q
  show wpAny _ _ (do if ← isTrue t X.env (eval t X.env) then isTrue a X.env (eval a X.env) else isTrue b X.env (eval b X.env)) _ _ _
  refine wpAny_bind (thn (ht.run pins s σ H (fun k H1 => ∃ ι1 S1, SR (c.at z) ι1 S1 H1 ∧ EnvR (c.at z) ι1 S1 H1 env σ ∧ PostV (c.at z) ι1 S1 H1 (match k with | true => evE G i env S1 | false => evE G j env S1) (fun k H' => W (.ref (ea k)) none H') (fun x H2 => ∃ c, x = .bl c ∧ Q c H2)) I ⟨z, ι, S, env, sr, e, tB_bind p fun b S1 ι1 H1 st s1 p1 => ⟨b, rfl, ι1, S1, s1, e.step sr st, p1⟩⟩) fun k s1 ⟨H1, I1, ι1, S1, q1, q2, q3⟩ => ?_)
  cases k with
  | true => exact ha.run pins s1 σ H1 Q I1 ⟨z, ι1, S1, env, q1, q2, q3⟩
  | false => exact hb.run pins s1 σ H1 Q I1 ⟨z, ι1, S1, env, q1, q2, q3⟩
end
end Y

end

section
set_option Elab.async false
set_option linter.all false
set_option maxRecDepth 100000
set_option maxHeartbeats 1000000
namespace Y
open PySem L2 PyProof.Rows
/-! ### what is seen of the text -/
def noStar : Expr → Bool
  | .Starred _ _ => false
  | _ => true
def noSlice : Expr → Bool
  | .Slice _ _ _ _ => false
  | _ => true
def noSet : Expr → Bool
  | .Set _ _ _ => false
  | _ => true
/-- no super().x -/
def attrOk : Expr → Bool
  | .Call (.Name _ _) [] [] _ => false
  | _ => true
theorem star_cons {e : Expr} {es : List Expr} {env : PySem.Env} (h : noStar e = true) : starEach (e :: es) env = (false, eval e env) :: starEach es env := by
  cases e <;> first | rfl | cases h
theorem star_any {pos : Pos} {env : PySem.Env} : ∀ {es : List Expr}, es.all noStar = true → (backTo pos (starEach es env)).any (·.1) = false
  | [], _ => rfl
  | e :: es, h => by
    simp only [List.all_cons, Bool.and_eq_true] at h
    rw [star_cons h.1]
    show (false || (backTo pos (starEach es env)).any (·.1)) = false
    rw [star_any h.2] <;> rfl
theorem star_all {pos : Pos} {env : PySem.Env} : ∀ {es : List Expr}, es.all noStar = true → (backTo pos (starEach es env)).all (fun x => !x.1) = true
  | [], _ => rfl
  | e :: es, h => by
    simp only [List.all_cons, Bool.and_eq_true] at h
    rw [star_cons h.1]
    show (true && (backTo pos (starEach es env)).all (fun x => !x.1)) = true
    rw [star_all h.2] <;> rfl
theorem attr_base {o : Expr} {m : Str} {env : PySem.Env} {wh : Sem Value} (h : attrOk o = true) : attributeBase o m env wh = wh := by
  cases o with
  | Call f as ks pos =>
    cases f with
    | Name x p =>
      cases as with
      | nil =>
        cases ks with
        | nil => cases h
        | cons _ _ => rfl
      | cons _ _ => rfl
    | _ => rfl
  | _ => rfl
theorem plain_ix {e : Expr} (h : noSlice e = true) : PlainIx e := fun o i => by cases e <;> first | rfl | cases h
theorem marks_ok {op : CmpOp} {e : Expr} (h : noSet e = true) : behindInMarks op e = false := by cases e <;> first | rfl | cases h
theorem marks2_ok {op op' : CmpOp} {b e : Expr} (h : noSet e = true) : lastMarks [op, op'] [b, e] = false := by
  show lastMarks [op'] [e] = false
  exact marks_ok h
theorem mcall_eq {o : Expr} {m : Str} {apos pos : Pos} {env : PySem.Env} {args : List Expr} (hb : attrOk o = true) (hl : (apos.endLine == pos.line) = true) (ha : args.all noStar = true) (hn : args.length < 20) :
    eval (.Call (.Attribute o m apos) args [] pos) env = (do
      let ov ← eval o env
      standAt apos.atName
      let (f, first) ← holding [ov] (getMethod ov m (plainOf o env))
      callWith pos f first (backTo pos (starEach args env)) (backToKw pos (keywordEach [] env))) := by
  have hf : methodCallForm (args.length + 0) (backTo pos (starEach args env)) (backToKw pos (keywordEach [] env)) = true := by
    unfold methodCallForm
    rw [star_all ha]
    show (true && true && decide (args.length + 0 + 0 < 30)) = true
    simp; omega
  show (do
    let ov ← attributeBase o m env (eval o env)
    standAt apos.atName
    methodCall o m apos pos env ov (args.length + 0) (backTo pos (starEach args env)) (backToKw pos (keywordEach [] env))) = _
  rw [attr_base hb]
  have e : ∀ ov, methodCall o m apos pos env ov (args.length + 0) (backTo pos (starEach args env)) (backToKw pos (keywordEach [] env)) = (do
      let (f, first) ← holding [ov] (getMethod ov m (plainOf o env))
      callWith pos f first (backTo pos (starEach args env)) (backToKw pos (keywordEach [] env))) := fun ov => mcall_line hf hl
  simp only [e]
section
variable {X : Cx} {c : Cfg} {ea : Nat → Addr} {G : Rules} {W : XK} {ι : List Addr} {S : Sto} {H : Hp}
/-! ### subscripts, slices, attributes -/
def rDGet : R2 := fun x y H Q => ∃ a v, x = .ref a ∧ DGet H a y (some v) ∧ Q v H
theorem ix_dget (hu : X.A.units + 1 < cLine) : IxR X rDGet := by
  intro value slice pins s σ H x y v u Q I rx ry h hs
  obtain ⟨a, r, rfl, g, q⟩ := h
  obtain rfl : v = Value.ref a := rx
  exact tail_any (dict_typeIs I g) PySem.F.slot_dict_getitem.lookup (d_getItem hu I g ry fun w' s3 I3 rw' => ⟨r, H, I3, rw', q⟩) hs
def rIxA (K : PySem.W.Frag) : R2 := fun x y H Q => rIx K x y H Q ∨ rDGet x y H Q
theorem ix_any (hu : X.A.units + 1 < cLine) : IxR X (rIxA X.K) := ix_seq.or (ix_dget hu)
theorem rv_at {xs : List D} {vs : List V} {i : Int} {d : D} (r : RVs c ι S H xs vs) (h : getI xs i = some d) : ∃ v, atI vs i = some v ∧ RV c ι S H d v := by
  unfold getI atI at h
  unfold atI
  rw [← r.length]
  cases q : ixN xs.length i with
  | none => rw [q] at h; cases h
  | some j =>
    rw [q] at h
    obtain ⟨v, h1, h2⟩ := r.get (i := j) (d := d) (by simpa using h)
    exact ⟨v, by simpa using h1, h2⟩
theorem ints_at {ns : List Int} {i j : Int} (h : getI ns i = some j) : atI (ns.map V.int) i = some (.int j) := by
  unfold getI atI at h
  unfold atI
  rw [List.length_map]
  cases q : ixN ns.length i with
  | none => rw [q] at h; cases h
  | some k =>
    rw [q] at h
    simp only [Option.bind_some] at h ⊢
    rw [List.getElem?_map, h] <;> rfl
theorem ix_by (s : SR c ι S H) {x y d : D} {vx vy : V} (rx : RV c ι S H x vx) (ry : RV c ι S H y vy) (h : index S x y = some d) {Q : VK} (q : ∀ v, RV c ι S H d v → Q v H) : rIxA c.K vx vy H Q := by
  unfold index at h
  cases hx : view S x with
  | lst xs =>
    rw [hx] at h
    cases y <;> simp only [reduceCtorEq] at h
    obtain rfl : vy = .int _ := ry
    obtain ⟨a, vs, rfl, q1, rs⟩ := view_list s rx hx
    obtain ⟨v, h1, h2⟩ := rv_at rs h
    exact .inl (.inl ⟨a, vs, _, v, rfl, rfl, .inl (.inl q1), h1, q v h2⟩)
  | tup xs =>
    rw [hx] at h
    have e := view_tup hx
    subst e
    cases y <;> simp only [reduceCtorEq] at h
    obtain rfl : vy = .int _ := ry
    obtain ⟨a, vs, rfl, q1, rs⟩ := rx
    obtain ⟨v, h1, h2⟩ := rv_at rs h
    exact .inl (.inr (.inl ⟨a, vs, _, v, rfl, rfl, q1, h1, q v h2⟩))
  | scr ns =>
    rw [hx] at h
    have e := view_scr hx
    subst e
    cases y <;> simp only [reduceCtorEq, Option.map_eq_some_iff] at h
    obtain rfl : vy = .int _ := ry
    obtain ⟨a, rfl, q1⟩ := scr_sq rx
    obtain ⟨k, h1, rfl⟩ := h
    exact .inl (.inl ⟨a, _, _, _, rfl, rfl, q1, ints_at h1, q _ rfl⟩)
  | str z =>
    rw [hx] at h
    have e := view_str hx
    subst e
    cases y <;> simp only [reduceCtorEq] at h
    obtain rfl : vy = .int _ := ry
    obtain rfl : vx = .str z := rx
    split at h
    · rename_i hz
      simp only [Option.map_eq_some_iff] at h
      obtain ⟨k, h1, rfl⟩ := h
      exact .inl (.inr (.inr ⟨z, _, k, rfl, rfl, line_of hz, h1, q _ rfl⟩))
    · cases h
  | ref n =>
    rw [hx] at h
    have e := view_ref hx
    subst e
    cases hS : S[n]? with
    | none => simp [hS] at h
    | some o =>
      cases o with
      | dic kvs =>
        simp only [hS, Option.bind_eq_some_iff] at h
        obtain ⟨k, h1, h2⟩ := h
        obtain ⟨a, ws, rfl, _, h3, h4⟩ := dic_at s rx hS
        have e := key_rv h1 ry
        subst e
        obtain ⟨v, h5, h6⟩ := rk_some h4 h2
        exact .inr ⟨a, v, rfl, by rw [← h5]; exact DGet.k h3, q v h6⟩
      | _ => simp [hS] at h
  | _ => simp [hx] at h
theorem sd_idx {a b : Expr} {i j : E} {pos : Pos} (hK : X.K = c.K) (hu : X.A.units + 1 < cLine) (ha : Snd X c ea G W a i) (hb : Snd X c ea G W b j) (hs : noSlice b = true) : Snd X c ea G W (.Subscript a b pos) (.idx i j) := by
  refine PE.mono (pe_ix (ix_any hu) ha hb (plain_ix hs)) fun σ H Q ⟨z, ι, S, env, s, e, p⟩ => ?_
  refine ⟨z, ι, S, env, s, e, Post.bind p fun x S1 vx ι1 H1 st s1 r1 p1 => ?_⟩
  refine ⟨z, ι1, S1, env, s1, e.step s st, Post.bind p1 fun y S2 vy ι2 H2 st2 s2 r2 p2 => ?_⟩
  obtain ⟨d, h1, h2⟩ := Post.opt p2
  rw [hK]
  exact ix_by s2 (RV.step s1 st2 _ _ r1) r2 h1 fun v r => h2.ret s2 r
/-- a part of a slice -/
def tOv (c : Cfg) (ea : Nat → Addr) (G : Rules) (W : XK) (is : List E) : TO := fun σ H Q => tAv c ea G W is σ H fun vs H' => ∃ o, (vs = [] ∧ o = none ∨ ∃ k, vs = [.int k] ∧ o = some k) ∧ Q o H'
theorem so_none : PO X none (tOv c ea G W []) := by
  refine ⟨fun pins s σ H Q I h => po_none.run pins s σ H Q I ?_⟩
  obtain ⟨z, ι, S, env, sr, e, p⟩ := h
  obtain ⟨o, h1, h2⟩ := p.ret sr (v := []) trivial
  rcases h1 with ⟨_, rfl⟩ | ⟨k, z, _⟩
  · exact h2
  · cases z
theorem so_some {e : Expr} {i : E} (h : Snd X c ea G W e i) : PO X (some e) (tOv c ea G W [i]) := by
  refine ⟨fun pins s σ H Q I q => (po_some h).run pins s σ H Q I ?_⟩
  obtain ⟨z, ι, S, env, sr, e, p⟩ := q
  refine ⟨z, ι, S, env, sr, e, Post.bind p fun d S1 v ι1 H1 st s1 r1 p1 => ?_⟩
  obtain ⟨o, h1, h2⟩ := p1.ret s1 (v := [v]) ⟨r1, trivial⟩
  rcases h1 with ⟨z, _⟩ | ⟨k, z, rfl⟩
  · cases z
  · cases z; exact ⟨k, rfl, h2⟩
theorem part_by {ds : List D} {vs : List V} {o : Option Int} (r : RVs c ι S H ds vs) (h : partD ds = some o) : (vs = [] ∧ o = none ∨ ∃ k, vs = [.int k] ∧ o = some k) := by
  unfold partD at h
  split at h
  · cases h
    cases vs with
    | nil => exact .inl ⟨rfl, rfl⟩
    | cons _ _ => exact r.elim
  · cases h
    cases vs with
    | nil => exact r.elim
    | cons v vs =>
      obtain ⟨r1, r2⟩ := r
      cases vs with
      | nil => obtain rfl : v = .int _ := r1; exact .inr ⟨_, rfl, rfl⟩
      | cons _ _ => exact r2.elim
  · cases h
def rSlAny (K : PySem.W.Frag) : V → Option Int → Option Int → Hp → VK → Prop := fun x lo hi H Q => rSlL K x lo hi H Q ∨ rSlA K x lo hi H Q ∨ rSlS x lo hi H Q
theorem sl_any : SlR X (rSlAny X.K) := sl_list.or (sl_tupA.or sl_str)
theorem cut_rv {xs : List D} {vs : List V} {lo hi : Option Int} (r : RVs c ι S H xs vs) : RVs c ι S H (cutD xs lo hi) (cutV vs lo hi) := by
  unfold cutD cutV
  rw [← r.length]
  exact (r.drop _).take _
theorem cut_whole {xs : List D} {lo hi : Option Int} (h : HT.sIx xs.length 0 lo = 0 ∧ HT.sIx xs.length xs.length hi = xs.length) : cutD xs lo hi = xs := by
  unfold cutD
  rw [h.1, h.2]; simp
theorem cut_str {z : Str} {lo hi : Option Int} : cutS z lo hi = ⟨(cutD z.cps.toList lo hi).toArray⟩ := by
  unfold cutS cutD
  simp [Str.length]
theorem sd_sli {a : Expr} {lo hi : Option Expr} {i : E} {is js : List E} {pos p2 : Pos} (hK : X.K = c.K) (ha : Snd X c ea G W a i) (hl : PO X lo (tOv c ea G W is)) (hh : PO X hi (tOv c ea G W js)) : Snd X c ea G W (.Subscript a (.Slice lo hi none p2) pos) (.sli i is js) := by
  refine PE.mono (pe_slice sl_any ha hl hh) fun σ H Q ⟨z, ι, S, env, s, e, p⟩ => ?_
  refine ⟨z, ι, S, env, s, e, Post.bind p fun x S1 vx ι1 H1 st s1 r1 p1 => ?_⟩
  refine ⟨z, ι1, S1, env, s1, e.step s st, Post.bind p1 fun ls S2 vls ι2 H2 st2 s2 r2 p2 => ?_⟩
  have e2 := (e.step s st).step s1 st2
  have r1' := RV.step s1 st2 _ _ r1
  cases hl : partD ls with
  | none => rw [hl] at p2; exact p2.elim
  | some l =>
    rw [hl] at p2
    simp only [opt_some, R.bind_ok] at p2
    refine ⟨l, part_by r2 hl, z, ι2, S2, env, s2, e2, Post.bind p2 fun hs S3 vhs ι3 H3 st3 s3 r3 p3 => ?_⟩
    have r1' := RV.step s2 st3 _ _ r1'
    cases hh : partD hs with
    | none => rw [hh] at p3; exact p3.elim
    | some h =>
      rw [hh] at p3
      simp only [opt_some, R.bind_ok] at p3
      refine ⟨h, part_by r3 hh, ?_⟩
      obtain ⟨d, h1, p4⟩ := Post.opt p3
      unfold slice at h1
      cases hx : view S3 x with
      | lst xs =>
        rw [hx] at h1
        cases h1
        obtain ⟨a, vs, rfl, q1, rs⟩ := view_list s3 r1' hx
        exact .inl ⟨a, vs, rfl, .inl (.inl q1), fun q hq => p4.to (step_new hq) (s3.new hq) (rv_newlist s3 hq (cut_rv rs))⟩
      | tup xs =>
        rw [hx] at h1
        cases h1
        have ex := view_tup hx
        subst ex
        obtain ⟨a, vs, rfl, q1, rs⟩ := r1'
        refine .inr (.inl ⟨a, vs, rfl, by rw [hK]; exact q1, fun hw => ?_, fun _ q hq => ?_⟩)
        · rw [← rs.length] at hw
          rw [cut_whole hw] at p4
          exact p4.ret s3 ⟨a, vs, rfl, q1, rs⟩
        · exact p4.to (step_new hq) (s3.new hq) ⟨q, _, rfl, .inl (.inl upd_same), RVs.step s3 (step_new hq) _ _ (cut_rv rs)⟩
      | str z =>
        rw [hx] at h1
        simp only at h1
        have ex := view_str hx
        subst ex
        obtain rfl : vx = .str z := r1'
        split at h1
        · rename_i hz
          cases h1
          refine .inr (.inr ⟨z, rfl, line_of hz, ?_⟩)
          rw [cut_str]
          exact p4.ret s3 rfl
        · cases h1
      | _ => rw [hx] at h1; cases h1
theorem sd_rev {a : Expr} {i : E} {k : Nat} {p1 p2 p3 pos : Pos} (hK : X.K = c.K) (ha : Snd X c ea G W a i) : Snd X c ea G W (.Subscript a (.Slice none none (some (.UnaryOp .USub (.Constant (.int 1) k p1) p2)) p3) pos) (.rev i) := by
  refine PE.mono (pe_revL ha) fun σ H Q ⟨z, ι, S, env, s, e, p⟩ => ?_
  refine ⟨z, ι, S, env, s, e, Post.bind p fun x S1 vx ι1 H1 st s1 r1 p1 => ?_⟩
  cases hx : view S1 x with
  | lst xs =>
    rw [hx] at p1
    obtain ⟨a, vs, rfl, q1, rs⟩ := view_list s1 r1 hx
    exact ⟨a, vs, rfl, .inl (.inl q1), fun q hq => p1.to (step_new hq) (s1.new hq) (rv_newlist s1 hq rs.reverse)⟩
  | _ => rw [hx] at p1; exact p1.elim
theorem ins_at (s : SR c ι S H) {n : Nat} {v : V} {k : Nat} {fs : List (Nat × D)} (r : RV c ι S H (.ref n) v) (h : S[n]? = some (.ins k fs)) : ∃ a dx gs, v = .ref a ∧ ι[n]? = some a ∧ k < c.ncl ∧ H a = some (.ins (c.ca k) dx gs) ∧ RFs c ι S H fs gs := by
  obtain ⟨a, e, q⟩ := r
  obtain ⟨hk, dx, gs, h1, h2⟩ := s.obj n a _ q h
  exact ⟨a, dx, gs, e, q, hk, h1, h2⟩
theorem rf_get {f : Nat} : ∀ {fs : List (Nat × D)} {gs : List (Str × V)} {d : D}, RFs c ι S H fs gs → fs.lookup f = some d → ∃ v, gs.lookup (c.fn f) = some v ∧ RV c ι S H d v
  | [], [], _, _, h => by simp at h
  | [], _ :: _, _, h, _ => h.elim
  | _ :: _, [], _, h, _ => h.elim
  | (g, d') :: fs, (x, v) :: gs, d, h, e => by
    obtain ⟨⟨h1, h2⟩, h3⟩ := h
    simp only at h1 h2
    subst h1
    by_cases hg : f = g
    · subst hg
      simp [List.lookup] at e
      subst e
      exact ⟨v, by simp [List.lookup], h2⟩
    · have hb : (f == g) = false := by simpa using hg
      have hb2 : (c.fn f == c.fn g) = false := by
        have : c.fn f ≠ c.fn g := fun z => hg (c.inj _ _ z)
        simpa using this
      simp only [List.lookup, hb] at e
      obtain ⟨w, q1, q2⟩ := rf_get h3 e
      exact ⟨w, by simp only [List.lookup, hb2]; exact q1, q2⟩
theorem rf_put {f : Nat} {d : D} {v : V} (r : RV c ι S H d v) : ∀ {fs : List (Nat × D)} {gs : List (Str × V)}, RFs c ι S H fs gs → RFs c ι S H (putA f d fs) (putF (c.fn f) v gs)
  | [], [], _ => ⟨⟨rfl, r⟩, trivial⟩
  | [], _ :: _, h => h.elim
  | _ :: _, [], h => h.elim
  | (g, d') :: fs, (x, w) :: gs, h => by
    obtain ⟨⟨h1, h2⟩, h3⟩ := h
    simp only at h1 h2
    subst h1
    unfold putA putF
    by_cases hg : g = f
    · subst hg
      rw [if_pos rfl, if_pos rfl]
      exact ⟨⟨rfl, r⟩, h3⟩
    · rw [if_neg hg, if_neg fun z => hg (c.inj _ _ z)]
      exact ⟨⟨rfl, h2⟩, rf_put r h3⟩
theorem rf_len : ∀ {fs : List (Nat × D)} {gs : List (Str × V)}, RFs c ι S H fs gs → fs.length = gs.length
  | [], [], _ => rfl
  | [], _ :: _, h => h.elim
  | _ :: _, [], h => h.elim
  | _ :: fs, _ :: gs, h => by simp [rf_len h.2]
theorem rf_no {x : Str} (hx : ∀ f, c.fn f ≠ x) : ∀ {fs : List (Nat × D)} {gs : List (Str × V)}, RFs c ι S H fs gs → gs.lookup x = none
  | [], [], _ => rfl
  | [], _ :: _, h => h.elim
  | _ :: _, [], h => h.elim
  | (g, d') :: fs, (y, w) :: gs, h => by
    obtain ⟨⟨h1, _⟩, h3⟩ := h
    simp only at h1
    subst h1
    have hb : (x == c.fn g) = false := by simpa using fun z => hx g z.symm
    simp only [List.lookup, hb]
    exact rf_no hx h3
theorem sd_attr {a : Expr} {i : E} {f : Nat} {pos : Pos} (hK : X.K = c.K) (hc : ∀ k, k < c.ncl → Cls c.K (c.ca k)) (hn : ∀ k, k < c.ncl → NoAttr c.K (c.ca k) (c.fn f)) (ha : Snd X c ea G W a i) (hb : attrOk a = true) : Snd X c ea G W (.Attribute a (c.fn f) pos) (.attr i f) := by
  refine PE.mono (pe_fld ha (attr_base hb)) fun σ H Q ⟨z, ι, S, env, s, e, p⟩ => ?_
  refine ⟨z, ι, S, env, s, e, Post.bind p fun x S1 vx ι1 H1 st s1 r1 p1 => ?_⟩
  obtain ⟨d, h1, p2⟩ := Post.opt p1
  unfold Y.attr at h1
  cases x with
  | ref n =>
    cases hS : S1[n]? with
    | none => simp [hS] at h1
    | some o =>
      cases o with
      | ins k fs =>
        simp only [hS] at h1
        obtain ⟨a, dx, gs, rfl, _, hk, q1, q2⟩ := ins_at s1 r1 hS
        obtain ⟨v, q3, q4⟩ := rf_get q2 h1
        rw [hK]
        exact ⟨a, _, dx, gs, v, rfl, q1, hc k hk, hn k hk, q3, p2.ret s1 q4⟩
      | _ => simp [hS] at h1
  | _ => simp at h1
end
end Y

end

section
set_option Elab.async false
set_option linter.all false
set_option maxRecDepth 100000
set_option maxHeartbeats 1000000
namespace Y
open PySem L2 PyProof.Rows
section
variable {X : Cx} {c : Cfg} {ea : Nat → Addr} {G : Rules} {W : XK} {ι : List Addr} {S : Sto} {H : Hp}
abbrev FnS (X : Cx) (c : Cfg) (ea : Nat → Addr) (G : Rules) (k f : Nat) (fa : Addr) (fd : FuncData) (ps : List Str) : Prop := FnOk X.prog X.w X.K X.mg X.base (L2N.CX X.prog X.w) k fa fd ps (spF c ea G.call f)
theorem call_sp {z : List Addr} {f : Nat} {ds : List D} {vs : List V} {Q : VK} (s : SR (c.at z) ι S H) (r : RVs (c.at z) ι S H ds vs) (p : PostV (c.at z) ι S H (G.call f ds S) (fun k H' => W (.ref (ea k)) none H') Q) : spF c ea G.call f (vs ++ []) H Q W := by
  rw [List.append_nil]
  exact ⟨z, ι, S, ds, s, r, p⟩
theorem sd_call {x : Str} {e : Expr} {es : List Expr} {is : List E} {k f : Nat} {fa : Addr} {fd : FuncData} {ps : List Str} {p pos : Pos} (F : FnS X c ea G k f fa fd ps) (hr : Room k X.A) (hg : Gl X x) (hm : X.mg x = some (.ref fa)) (hk : PySem.W.keepIn X.K (.ref fa) = true) (hb : Binds X.K fd ps []) (hx : Passes (L2N.CX X.prog X.w) X W)
    (ha : SndA X c ea G W (e :: es) is) (hs : (e :: es).all noStar = true) (hd : (x == ("__debug__" : Str)) = false) : Snd X c ea G W (.Call (.Name x p) (e :: es) [] pos) (.call f is) := by
  have hs' := hs
  simp only [List.all_cons, Bool.and_eq_true] at hs'
  refine PE.mono (pe_call F hr hg hm hk hb .nil hx ha hd (star_cons hs'.1) (star_any hs'.2)) fun σ H Q ⟨z, ι, S, env, s, e, p⟩ => ?_
  exact ⟨z, ι, S, env, s, e, Post.bind p fun ds S1 vs ι1 H1 st s1 r1 p1 => call_sp s1 r1 p1⟩
theorem sd_call0 {x : Str} {k f : Nat} {fa : Addr} {fd : FuncData} {ps : List Str} {p pos : Pos} (F : FnS X c ea G k f fa fd ps) (hr : Room k X.A) (hg : Gl X x) (hm : X.mg x = some (.ref fa)) (hk : PySem.W.keepIn X.K (.ref fa) = true) (hb : Binds X.K fd ps []) (hx : Passes (L2N.CX X.prog X.w) X W)
    (hd : (x == ("__debug__" : Str)) = false) : Snd X c ea G W (.Call (.Name x p) [] [] pos) (.call f []) := by
  refine PE.mono (pe_call0 F hr hg hm hk hb .nil hx hd) fun σ H Q ⟨z, ι, S, env, s, e, p⟩ => ?_
  exact call_sp (ds := []) (vs := []) s trivial p
/-- what is known of a method -/
structure MethS (X : Cx) (c : Cfg) (ea : Nat → Addr) (G : Rules) (lv : Nat) (m : Nat) (mn : Str) : Prop where
  lt : ∀ k f, G.meth k m = some f → k < c.ncl
  at_ : ∀ k f, k < c.ncl → G.meth k m = some f → ∃ (fa : Addr) (fd : FuncData) (ps : List Str), Meth c.K (c.ca k) mn fa ∧ FnS X c ea G lv f fa fd ps ∧ Binds X.K fd ps []
  no : ∀ f, c.fn f ≠ mn
/-- the receiver's run, and what it is -/
theorem recv {m : Nat} {i : E} {is : List E} {env : Env} {Q : VK} {E : Nat → Hp → Prop} (p : PostV c ι S H (evE G (.meth m i is) env S) E Q) : ∃ n S1 k fs f, evE G i env S = .ok (.ref n) S1 ∧ S1[n]? = some (.ins k fs) ∧ G.meth k m = some f ∧
    PostV c ι S H ((evEs G is env S1).bind fun ds S => G.call f (.ref n :: ds) S) E Q := by
  simp only [evE] at p
  cases h : evE G i env S with
  | bad => rw [h] at p; exact p.elim
  | exc _ _ => rw [h] at p; exact p.elim
  | ok x S1 =>
    rw [h] at p
    simp only [R.calm, R.bind_ok] at p
    cases x with
    | ref n =>
      simp only at p
      cases h2 : S1[n]? with
      | none => rw [h2] at p; exact p.elim
      | some o =>
        rw [h2] at p
        cases o with
        | ins k fs =>
          simp only at p
          cases h3 : G.meth k m with
          | none => rw [h3] at p; exact p.elim
          | some f => rw [h3] at p; exact ⟨n, S1, k, fs, f, rfl, h2, h3, p⟩
        | _ => exact p.elim
    | _ => exact p.elim
theorem sd_meth {o : Expr} {mn : Str} {e : Expr} {es : List Expr} {i : E} {is : List E} {lv m : Nat} {apos pos : Pos} (hK : X.K = c.K) (M : MethS X c ea G lv m mn) (hc : ∀ k, k < c.ncl → Cls c.K (c.ca k)) (hr : Room lv X.A) (hx : Passes (L2N.CX X.prog X.w) X W)
    (ho : Snd X c ea G W o i) (ha : SndA X c ea G W (e :: es) is) (hs : (e :: es).all noStar = true) (hat : attrOk o = true) (hl : (apos.endLine == pos.line) = true) (hn : (e :: es).length < 20) : Snd X c ea G W (.Call (.Attribute o mn apos) (e :: es) [] pos) (.meth m i is) := by
  refine ⟨fun pins s σ H Q I h => ?_⟩
  obtain ⟨z, ι, S, env, sr, en, p⟩ := h
  obtain ⟨n, S1, k, fs, f, h1, h2, h3, p⟩ := recv p
  have hs' := hs
  simp only [List.all_cons, Bool.and_eq_true] at hs'
  have hk := M.lt k f h3
  obtain ⟨fa, fd, ps, q1, q2, q3⟩ := M.at_ k f hk h3
  refine (pe_meth ho (by rw [hK]; exact hc k hk) (by rw [hK]; exact q1) q2 hr q3 .nil hx ha (star_cons hs'.1) (star_any hs'.2) (mcall_eq hat hl hs hn)).run pins s σ H Q I ?_
  refine ⟨z, ι, S, env, sr, en, ?_⟩
  rw [h1]
  intro v ι1 H1 st s1 r1
  obtain ⟨a, dx, gs, rfl, h4, _, h5, h6⟩ := ins_at s1 r1 h2
  refine ⟨a, dx, gs, rfl, h5, rf_no (c := c.at z) M.no h6, z, ι1, S1, env, s1, en.step sr st, ?_⟩
  refine Post.bind (Post.step p st) fun ds S2 vs ι2 H2 st2 s2 r2 p2 => ?_
  rw [List.append_nil]
  exact ⟨z, ι2, S2, .ref n :: ds, s2, ⟨RV.step s1 st2 _ _ (show RV (c.at z) ι1 S1 H1 (.ref n) (.ref a) from ⟨a, rfl, h4⟩), r2⟩, p2⟩
theorem sd_meth0 {o : Expr} {mn : Str} {i : E} {lv m : Nat} {apos pos : Pos} (hK : X.K = c.K) (M : MethS X c ea G lv m mn) (hc : ∀ k, k < c.ncl → Cls c.K (c.ca k)) (hr : Room lv X.A) (hx : Passes (L2N.CX X.prog X.w) X W)
    (ho : Snd X c ea G W o i) (hat : attrOk o = true) (hl : (apos.endLine == pos.line) = true) : Snd X c ea G W (.Call (.Attribute o mn apos) [] [] pos) (.meth m i []) := by
  refine ⟨fun pins s σ H Q I h => ?_⟩
  obtain ⟨z, ι, S, env, sr, en, p⟩ := h
  obtain ⟨n, S1, k, fs, f, h1, h2, h3, p⟩ := recv p
  have hk := M.lt k f h3
  obtain ⟨fa, fd, ps, q1, q2, q3⟩ := M.at_ k f hk h3
  refine (pe_meth0 ho (by rw [hK]; exact hc k hk) (by rw [hK]; exact q1) q2 hr q3 .nil hx (mcall_eq (args := []) hat hl rfl (by decide))).run pins s σ H Q I ?_
  refine ⟨z, ι, S, env, sr, en, ?_⟩
  rw [h1]
  intro v ι1 H1 st s1 r1
  obtain ⟨a, dx, gs, rfl, h4, _, h5, h6⟩ := ins_at s1 r1 h2
  refine ⟨a, dx, gs, rfl, h5, rf_no (c := c.at z) M.no h6, ?_⟩
  exact ⟨z, ι1, S1, [.ref n], s1, ⟨⟨a, rfl, h4⟩, trivial⟩, Post.step p st⟩
/-- a class is made -/
theorem new_sp {k f : Nat} {ds : List D} {vs : List V} {Q : VK} {x dx : Addr} {z : List Addr} (hk : k < c.ncl) (s : SR (c.at z) ι S H) (r : RVs (c.at z) ι S H ds vs)
    (p : PostV (c.at z) ι S H ((G.call f (.ref S.length :: ds) (S ++ [.ins k []])).bind fun d S' => match d with | .non => .ok (.ref S.length) S' | _ => .bad) (fun k H' => W (.ref (ea k)) none H') Q) (hx : H x = none) (hdx : H dx = none) (hne : dx ≠ x) :
    spF c ea G.call f (.ref x :: (vs ++ [])) (upd (upd H dx (.own x)) x (.ins (c.ca k) dx [])) (fun v H2 => v = .non ∧ Q (.ref x) H2) W := by
  rw [List.append_nil]
  have st1 : Step ι S H ι S (upd H dx (.own x)) := step_new hdx
  have s1 : SR (c.at z) ι S (upd H dx (.own x)) := s.new hdx
  have hx1 : upd H dx (.own x) x = none := by rw [upd_ne hne.symm]; exact hx
  have st2 := step_newO (o := .ins (c.ca k) dx []) (u := .ins k []) s1 hx1
  have s2 := s1.newO (o := .ins (c.ca k) dx []) (u := .ins k []) hx1 ⟨hk, dx, [], upd_same, trivial⟩
  have st := st1.trans st2
  refine ⟨z, ι ++ [x], S ++ [.ins k []], .ref S.length :: ds, s2, ⟨⟨x, rfl, snoc_get s.len x⟩, RVs.step s st _ _ r⟩, ?_⟩
  refine Post.bind (Post.step p st) fun d S3 v ι3 H3 st3 s3 r3 p3 => ?_
  cases d with
  | non =>
    obtain rfl : v = .non := r3
    refine ⟨rfl, p3.ret s3 ⟨x, rfl, ?_⟩⟩
    obtain ⟨q, rfl⟩ := st3.pre
    exact get_pre (snoc_get s.len x) q
  | _ => exact p3.elim
theorem sd_new {x : Str} {e : Expr} {es : List Expr} {is : List E} {lv k : Nat} {fa : Addr} {fd : FuncData} {ps : List Str} {p pos : Pos} (hk : k < c.ncl) (M : Mk X.K (c.ca k) fa) (F : FnS X c ea G lv (G.init k) fa fd ps) (hr : Room (lv + 1) X.A) (hg : Gl X x) (hm : X.mg x = some (.ref (c.ca k))) (hb : Binds X.K fd ps []) (hx : Passes (L2N.CX X.prog X.w) X W)
    (ha : SndA X c ea G W (e :: es) is) (hs : (e :: es).all noStar = true) (hd : (x == ("__debug__" : Str)) = false) : Snd X c ea G W (.Call (.Name x p) (e :: es) [] pos) (.new k is) := by
  have hs' := hs
  simp only [List.all_cons, Bool.and_eq_true] at hs'
  refine PE.mono (pe_make M F hr hg hm hb .nil hx ha hd (star_cons hs'.1) (star_any hs'.2)) fun σ H Q ⟨z, ι, S, env, s, e, p⟩ => ?_
  exact ⟨z, ι, S, env, s, e, Post.bind p fun ds S1 vs ι1 H1 st s1 r1 p1 x dx h1 h2 h3 => new_sp hk s1 r1 p1 h1 h2 h3⟩

/-! ### built-ins -/
/-- a built-in by its values -/
theorem sd_bi {x : Str} {id : String} {b : Bi} {r : List V → Hp → VK → Prop} {e : Expr} {es : List Expr} {is : List E} {p pos : Pos} (hc : CallR X (.builtin id) r) (hg : Gl X x) (hm : X.mg x = none) (hv : bootBuiltins x = some (.builtin id)) (ha : SndA X c ea G W (e :: es) is) (hs : (e :: es).all noStar = true)
    (hn : x ≠ "__name__") (hd : (x == ("__debug__" : Str)) = false) (h : ∀ z ι S H ds vs d Q, SR (c.at z) ι S H → RVs (c.at z) ι S H ds vs → bi S b ds = some d → PostV (c.at z) ι S H (.ok d S) (fun k H' => W (.ref (ea k)) none H') Q → r vs H Q) : Snd X c ea G W (.Call (.Name x p) (e :: es) [] pos) (.bi b is) := by
  have hs' := hs
  simp only [List.all_cons, Bool.and_eq_true] at hs'
  refine PE.mono (pe_callB hc hg hm hv ha hn hd (star_cons hs'.1) (star_any hs'.2)) fun σ H Q ⟨z, ι, S, env, s, e, p⟩ => ?_
  refine ⟨z, ι, S, env, s, e, Post.bind p fun ds S1 vs ι1 H1 st s1 r1 p1 => ?_⟩
  obtain ⟨d, h1, h2⟩ := Post.opt p1
  exact h z ι1 S1 H1 ds vs d Q s1 r1 h1 h2
theorem sd_ty {x : Str} {id : String} {b : Bi} {r : List V → Hp → VK → Prop} {e : Expr} {es : List Expr} {is : List E} {p pos : Pos} (hc : CallR X (.type id) r) (hg : Gl X x) (hm : X.mg x = none) (hv : bootBuiltins x = some (.type id)) (ha : SndA X c ea G W (e :: es) is) (hs : (e :: es).all noStar = true)
    (hn : x ≠ "__name__") (hd : (x == ("__debug__" : Str)) = false) (h : ∀ z ι S H ds vs d Q, SR (c.at z) ι S H → RVs (c.at z) ι S H ds vs → bi S b ds = some d → PostV (c.at z) ι S H (.ok d S) (fun k H' => W (.ref (ea k)) none H') Q → r vs H Q) : Snd X c ea G W (.Call (.Name x p) (e :: es) [] pos) (.bi b is) := by
  have hs' := hs
  simp only [List.all_cons, Bool.and_eq_true] at hs'
  refine PE.mono (pe_callTy hc hg hm hv ha hn hd (star_cons hs'.1) (star_any hs'.2)) fun σ H Q ⟨z, ι, S, env, s, e, p⟩ => ?_
  refine ⟨z, ι, S, env, s, e, Post.bind p fun ds S1 vs ι1 H1 st s1 r1 p1 => ?_⟩
  obtain ⟨d, h1, h2⟩ := Post.opt p1
  exact h z ι1 S1 H1 ds vs d Q s1 r1 h1 h2
theorem rv1 {d : D} {vs : List V} (r : RVs c ι S H [d] vs) : ∃ v, vs = [v] ∧ RV c ι S H d v := by
  cases vs with
  | nil => exact r.elim
  | cons v vs => cases vs with
    | nil => exact ⟨v, rfl, r.1⟩
    | cons _ _ => exact r.2.elim
theorem rv2 {d e : D} {vs : List V} (r : RVs c ι S H [d, e] vs) : ∃ v u, vs = [v, u] ∧ RV c ι S H d v ∧ RV c ι S H e u := by
  cases vs with
  | nil => exact r.elim
  | cons v vs => obtain ⟨u, rfl, h⟩ := rv1 r.2; exact ⟨v, u, rfl, r.1, h⟩
theorem bi1 {b : Bi} {S : Sto} {ds : List D} {d : D} (h : bi S b ds = some d) (hb : b = .len ∨ b = .sum ∨ b = .sorted ∨ b = .all ∨ b = .tuple ∨ b = .list ∨ b = .nset ∨ b = .abs ∨ b = .int ∨ b = .listR ∨ b = .tupleR) : ∃ x, ds = [x] := by
  cases ds with
  | nil => rcases hb with rfl | rfl | rfl | rfl | rfl | rfl | rfl | rfl | rfl | rfl | rfl <;> simp [bi] at h
  | cons x ds =>
    cases ds with
    | nil => exact ⟨x, rfl⟩
    | cons y ds => rcases hb with rfl | rfl | rfl | rfl | rfl | rfl | rfl | rfl | rfl | rfl | rfl <;> simp [bi] at h
theorem len_by (hK : X.K = c.K) (ι S H ds vs d Q) (s : SR c ι S H) (r0 : RVs c ι S H ds vs) (h : bi S .len ds = some d) (p : PostV c ι S H (.ok d S) (fun k H' => W (.ref (ea k)) none H') Q) : ∃ x n, vs = [x] ∧ LenV X.K x H n ∧ Q (.int n) H := by
  obtain ⟨x, rfl⟩ := bi1 h (.inl rfl)
  obtain ⟨v, rfl, r⟩ := rv1 r0
  simp only [bi] at h
  cases hx : view S x with
  | lst xs =>
    rw [hx] at h; cases h
    obtain ⟨a, vs, rfl, q, rs⟩ := view_list s r hx
    exact ⟨_, xs.length, rfl, .inl ⟨vs, .inl (.inl q), rs.length⟩, p.ret s rfl⟩
  | tup xs =>
    rw [hx] at h; cases h
    have e := view_tup hx
    subst e
    obtain ⟨a, vs, rfl, q, rs⟩ := r
    exact ⟨_, xs.length, rfl, .inr ⟨vs, by rw [hK]; exact q, rs.length⟩, p.ret s rfl⟩
  | scr ns =>
    rw [hx] at h; cases h
    have e := view_scr hx
    subst e
    obtain ⟨a, rfl, q⟩ := scr_sq r
    exact ⟨_, ns.length, rfl, .inl ⟨_, by rw [hK]; exact q, by simp⟩, p.ret s rfl⟩
  | str z =>
    rw [hx] at h
    have e := view_str hx
    subst e
    obtain rfl : v = .str z := r
    simp only at h
    split at h
    · rename_i hz
      cases h
      exact ⟨_, z.length, rfl, ⟨line_of hz, rfl⟩, p.ret s rfl⟩
    · cases h
  | _ => rw [hx] at h; cases h
theorem ints_rv {ns : List Int} : ∀ {xs : List D} {vs : List V}, intsD xs = some ns → RVs c ι S H xs vs → xs = ns.map .int ∧ vs = ns.map .int := by
  intro xs
  induction xs generalizing ns with
  | nil =>
    intro vs h r
    cases h
    cases vs with
    | nil => exact ⟨rfl, rfl⟩
    | cons _ _ => exact r.elim
  | cons x xs ih =>
    intro vs h r
    cases x <;> simp only [intsD, reduceCtorEq, Option.map_eq_some_iff] at h
    obtain ⟨ms, h1, rfl⟩ := h
    cases vs with
    | nil => exact r.elim
    | cons v vs =>
      obtain ⟨e1, e2⟩ := ih h1 r.2
      have e : v = .int _ := r.1
      rw [e, e2, e1]; exact ⟨rfl, rfl⟩
theorem bls_rv {bs : List Bool} : ∀ {xs : List D} {vs : List V}, blsD xs = some bs → RVs c ι S H xs vs → vs = bs.map .bl := by
  intro xs
  induction xs generalizing bs with
  | nil =>
    intro vs h r
    cases h
    cases vs with
    | nil => rfl
    | cons _ _ => exact r.elim
  | cons x xs ih =>
    intro vs h r
    cases x <;> simp only [blsD, reduceCtorEq, Option.map_eq_some_iff] at h
    obtain ⟨ms, h1, rfl⟩ := h
    cases vs with
    | nil => exact r.elim
    | cons v vs =>
      have e : v = .bl _ := r.1
      rw [e, ih h1 r.2]; rfl
theorem foldl_max (is : List Int) : ∀ i : Int, (is.foldl max i) ∈ i :: is ∧ ∀ y ∈ i :: is, y ≤ is.foldl max i := by
  induction is with
  | nil => intro i; simp
  | cons j js ih =>
    intro i
    obtain ⟨h1, h2⟩ := ih (max i j)
    simp only [List.foldl_cons]
    refine ⟨?_, fun y hy => ?_⟩
    · simp only [List.mem_cons] at h1 ⊢
      rcases h1 with h1 | h1
      · rw [h1]; omega
      · exact .inr (.inr h1)
    · have hm : max i j ≤ js.foldl max (max i j) := h2 _ (by simp)
      simp only [List.mem_cons] at hy
      rcases hy with rfl | rfl | hy
      · omega
      · omega
      · exact h2 y (by simp [hy])
theorem foldl_min (is : List Int) : ∀ i : Int, (is.foldl min i) ∈ i :: is ∧ ∀ y ∈ i :: is, is.foldl min i ≤ y := by
  induction is with
  | nil => intro i; simp
  | cons j js ih =>
    intro i
    obtain ⟨h1, h2⟩ := ih (min i j)
    simp only [List.foldl_cons]
    refine ⟨?_, fun y hy => ?_⟩
    · simp only [List.mem_cons] at h1 ⊢
      rcases h1 with h1 | h1
      · rw [h1]; omega
      · exact .inr (.inr h1)
    · have hm : js.foldl min (min i j) ≤ min i j := h2 _ (by simp)
      simp only [List.mem_cons] at hy
      rcases hy with rfl | rfl | hy
      · omega
      · omega
      · exact h2 y (by simp [hy])
theorem maxI_spec {ns : List Int} {m : Int} (h : maxI ns = some m) : 0 < ns.length ∧ ∀ k, k ∈ ns → (∀ y ∈ ns, y ≤ k) → k = m := by
  cases ns with
  | nil => cases h
  | cons i is =>
    cases h
    obtain ⟨h1, h2⟩ := foldl_max is i
    refine ⟨by simp, fun k hk hy => ?_⟩
    have a := hy _ h1
    have b := h2 k hk
    omega
theorem minI_spec {ns : List Int} {m : Int} (h : minI ns = some m) : 0 < ns.length ∧ ∀ k, k ∈ ns → (∀ y ∈ ns, k ≤ y) → k = m := by
  cases ns with
  | nil => cases h
  | cons i is =>
    cases h
    obtain ⟨h1, h2⟩ := foldl_min is i
    refine ⟨by simp, fun k hk hy => ?_⟩
    have a := hy _ h1
    have b := h2 k hk
    omega
theorem max_by (hK : X.K = c.K) (ι S H ds vs d Q) (s : SR c ι S H) (r0 : RVs c ι S H ds vs) (h : bi S .max ds = some d) (p : PostV c ι S H (.ok d S) (fun k H' => W (.ref (ea k)) none H') Q) : (∃ i j, vs = [.int i, .int j] ∧ Q (.int (if j > i then j else i)) H) ∨ rMax X.K vs H Q := by
  cases ds with
  | nil => simp [bi] at h
  | cons x ds =>
    cases ds with
    | nil =>
      obtain ⟨v, rfl, r⟩ := rv1 r0
      have h : (match view S x with | .lst xs => ((intsD xs).bind maxI).map .int | _ => none) = some d := by cases x <;> exact h
      cases hx : view S x with
      | lst xs =>
        rw [hx] at h
        simp only [Option.map_eq_some_iff, Option.bind_eq_some_iff] at h
        obtain ⟨m, ⟨ns, h1, h2⟩, rfl⟩ := h
        obtain ⟨a, vs, rfl, q, rs⟩ := view_list s r hx
        obtain ⟨_, rfl⟩ := ints_rv h1 rs
        obtain ⟨h3, h4⟩ := maxI_spec h2
        refine .inr ⟨a, ns, rfl, .inl (.inl q), h3, fun k hk hy => ?_⟩
        rw [h4 k hk hy]
        exact p.ret s rfl
      | _ => rw [hx] at h; cases h
    | cons y ds =>
      cases ds with
      | nil =>
        cases x <;> cases y <;> simp only [bi, reduceCtorEq, Option.some.injEq] at h
        subst h
        obtain ⟨v, u, rfl, r1, r2⟩ := rv2 r0
        obtain rfl : v = .int _ := r1
        obtain rfl : u = .int _ := r2
        exact .inl ⟨_, _, rfl, p.ret s rfl⟩
      | cons _ _ => cases x <;> cases y <;> simp [bi] at h
theorem min_by (hK : X.K = c.K) (ι S H ds vs d Q) (s : SR c ι S H) (r0 : RVs c ι S H ds vs) (h : bi S .min ds = some d) (p : PostV c ι S H (.ok d S) (fun k H' => W (.ref (ea k)) none H') Q) : (∃ i j, vs = [.int i, .int j] ∧ Q (.int (if j < i then j else i)) H) ∨ rMin X.K vs H Q := by
  cases ds with
  | nil => simp [bi] at h
  | cons x ds =>
    cases ds with
    | nil =>
      obtain ⟨v, rfl, r⟩ := rv1 r0
      have h : (match view S x with | .lst xs => ((intsD xs).bind minI).map .int | _ => none) = some d := by cases x <;> exact h
      cases hx : view S x with
      | lst xs =>
        rw [hx] at h
        simp only [Option.map_eq_some_iff, Option.bind_eq_some_iff] at h
        obtain ⟨m, ⟨ns, h1, h2⟩, rfl⟩ := h
        obtain ⟨a, vs, rfl, q, rs⟩ := view_list s r hx
        obtain ⟨_, rfl⟩ := ints_rv h1 rs
        obtain ⟨h3, h4⟩ := minI_spec h2
        refine .inr ⟨a, ns, rfl, .inl (.inl q), h3, fun k hk hy => ?_⟩
        rw [h4 k hk hy]
        exact p.ret s rfl
      | _ => rw [hx] at h; cases h
    | cons y ds =>
      cases ds with
      | nil =>
        cases x <;> cases y <;> simp only [bi, reduceCtorEq, Option.some.injEq] at h
        subst h
        obtain ⟨v, u, rfl, r1, r2⟩ := rv2 r0
        obtain rfl : v = .int _ := r1
        obtain rfl : u = .int _ := r2
        exact .inl ⟨_, _, rfl, p.ret s rfl⟩
      | cons _ _ => cases x <;> cases y <;> simp [bi] at h
theorem sum_by (hK : X.K = c.K) (ι S H ds vs d Q) (s : SR c ι S H) (r0 : RVs c ι S H ds vs) (h : bi S .sum ds = some d) (p : PostV c ι S H (.ok d S) (fun k H' => W (.ref (ea k)) none H') Q) : rSum X.K vs H Q := by
  obtain ⟨x, rfl⟩ := bi1 h (by simp)
  obtain ⟨v, rfl, r⟩ := rv1 r0
  simp only [bi] at h
  cases hx : view S x with
  | lst xs =>
    rw [hx] at h
    simp only [Option.map_eq_some_iff] at h
    obtain ⟨ns, h1, rfl⟩ := h
    obtain ⟨a, vs, rfl, q, rs⟩ := view_list s r hx
    obtain ⟨_, rfl⟩ := ints_rv h1 rs
    exact ⟨a, ns, rfl, .inl (.inl q), p.ret s rfl⟩
  | _ => rw [hx] at h; cases h
theorem all_by (hK : X.K = c.K) (ι S H ds vs d Q) (s : SR c ι S H) (r0 : RVs c ι S H ds vs) (h : bi S .all ds = some d) (p : PostV c ι S H (.ok d S) (fun k H' => W (.ref (ea k)) none H') Q) : rAll X.K vs H Q := by
  obtain ⟨x, rfl⟩ := bi1 h (by simp)
  obtain ⟨v, rfl, r⟩ := rv1 r0
  simp only [bi] at h
  cases hx : view S x with
  | lst xs =>
    rw [hx] at h
    simp only [Option.map_eq_some_iff] at h
    obtain ⟨ns, h1, rfl⟩ := h
    obtain ⟨a, vs, rfl, q, rs⟩ := view_list s r hx
    have := bls_rv h1 rs
    subst this
    exact ⟨a, ns, rfl, .inl (.inl q), p.ret s rfl⟩
  | _ => rw [hx] at h; cases h
theorem insI_perm (i : Int) : ∀ l : List Int, (insI i l).Perm (i :: l)
  | [] => .refl _
  | j :: js => by
    unfold insI
    split
    · exact .refl _
    · exact ((insI_perm i js).cons j).trans (.swap i j js)
theorem sortI_perm : ∀ l : List Int, (sortI l).Perm l
  | [] => .refl _
  | i :: is => (insI_perm i (sortI is)).trans ((sortI_perm is).cons i)
theorem insI_sorted (i : Int) : ∀ l : List Int, l.Pairwise (· ≤ ·) → (insI i l).Pairwise (· ≤ ·)
  | [], _ => by simp [insI]
  | j :: js, h => by
    unfold insI
    rw [List.pairwise_cons] at h
    split
    · rename_i hij
      refine List.pairwise_cons.mpr ⟨fun y hy => ?_, List.pairwise_cons.mpr h⟩
      rcases List.mem_cons.mp hy with rfl | hy
      · exact hij
      · exact Int.le_trans hij (h.1 y hy)
    · rename_i hij
      refine List.pairwise_cons.mpr ⟨fun y hy => ?_, insI_sorted i js h.2⟩
      rcases List.mem_cons.mp ((insI_perm i js).mem_iff.mp hy) with rfl | hy
      · omega
      · exact h.1 y hy
theorem sortI_sorted : ∀ l : List Int, (sortI l).Pairwise (· ≤ ·)
  | [] => by simp [sortI]
  | i :: is => insI_sorted i _ (sortI_sorted is)
theorem sort_uniq {a b : List Int} (hp : a.Perm b) (ha : a.Pairwise (· ≤ ·)) (hb : b.Pairwise (· ≤ ·)) : a = b :=
  hp.eq_of_pairwise (fun x y _ _ h1 h2 => Int.le_antisymm h1 h2) ha hb
theorem sorted_by (hK : X.K = c.K) (ι S H ds vs d Q) (s : SR c ι S H) (r0 : RVs c ι S H ds vs) (h : bi S .sorted ds = some d) (p : PostV c ι S H (.ok d S) (fun k H' => W (.ref (ea k)) none H') Q) :
    rSortedI X.K vs H Q ∨ (∃ (a : Addr) (kvs : List (Key × V)) (ks : List Int), vs = [.ref a] ∧ Rd H a (.dK kvs) ∧ kvs.map (·.1) = ks.map Sum.inl ∧ ks.length < 64 ∧
    ∀ (ys : List Int) (p : Addr), ys.Perm ks → ys.Pairwise (· ≤ ·) → H p = none → Q (.ref p) (upd H p (.lst (ys.map V.int)))) := by
  obtain ⟨x, rfl⟩ := bi1 h (by simp)
  obtain ⟨v, rfl, r⟩ := rv1 r0
  simp only [bi] at h
  cases hx : view S x with
  | lst xs =>
    rw [hx] at h
    simp only [Option.map_eq_some_iff] at h
    obtain ⟨ns, h1, rfl⟩ := h
    obtain ⟨a, vs, rfl, q, rs⟩ := view_list s r hx
    obtain ⟨_, rfl⟩ := ints_rv h1 rs
    refine .inl ⟨a, ns, rfl, .inl (.inl q), fun ms b h2 h3 h4 => ?_⟩
    have e : ms = sortI ns := sort_uniq (h2.trans (sortI_perm ns).symm) h3 (sortI_sorted ns)
    subst e
    exact p.to (step_new h4) (s.new h4) (rv_newlist s h4 (RVs.of_ints _))
  | ref n =>
    have e := view_ref hx
    subst e
    rw [hx] at h
    simp only at h
    cases hS : S[n]? with
    | none => rw [hS] at h; cases h
    | some o =>
      rw [hS] at h
      cases o with
      | dic kvs =>
        simp only at h
        split at h
        · rename_i h64
          simp only [Option.map_eq_some_iff] at h
          obtain ⟨ns, h1, rfl⟩ := h
          obtain ⟨a, ws, rfl, _, q1, q2⟩ := dic_at s r hS
          have key : ∀ {kvs : List (Key × D)} {ws : List (Key × V)} {ns : List Int}, RKs c ι S H kvs ws → intsD (kvs.map fun kv => (match kv.1 with | .inl i => .int i | .inr x => .str x)) = some ns → ws.map (·.1) = ns.map Sum.inl ∧ ns.length = kvs.length := by
            intro kvs
            induction kvs with
            | nil =>
              intro ws ns h1 h2
              cases h2
              cases ws with
              | nil => exact ⟨rfl, rfl⟩
              | cons _ _ => exact h1.elim
            | cons kv kvs ih =>
              intro ws ns h1 h2
              cases ws with
              | nil => exact h1.elim
              | cons w ws =>
                obtain ⟨⟨e1, _⟩, h3⟩ := h1
                obtain ⟨k, d⟩ := kv
                cases k with
                | inl i =>
                  simp only [List.map_cons, intsD, Option.map_eq_some_iff] at h2
                  obtain ⟨ms, h4, rfl⟩ := h2
                  obtain ⟨e2, e3⟩ := ih h3 h4
                  simp only [List.map_cons, e2, List.length_cons, e3]
                  simp only at e1
                  exact ⟨by rw [← e1], trivial⟩
                | inr x => simp [intsD] at h2
          obtain ⟨e1, e2⟩ := key q2 h1
          refine .inr ⟨a, ws, ns, rfl, .inl q1, e1, by omega, fun ms b h2 h3 h4 => ?_⟩
          have e : ms = sortI ns := sort_uniq (h2.trans (sortI_perm ns).symm) h3 (sortI_sorted ns)
          subst e
          exact p.to (step_new h4) (s.new h4) (rv_newlist s h4 (RVs.of_ints _))
        · cases h
      | _ => cases h
  | _ => rw [hx] at h; cases h
end
end Y

end

section
set_option Elab.async false
set_option linter.all false
set_option maxRecDepth 100000
set_option maxHeartbeats 1000000
namespace Y
open PySem L2 PyProof.Rows
section
variable {X : Cx} {c : Cfg} {ea : Nat → Addr} {G : Rules} {W : XK} {ι : List Addr} {S : Sto} {H : Hp}
/-! ### isinstance -/
def Ty.nm : Ty → String
  | .int => "int"
  | .bool => "bool"
  | .str => "str"
  | .list => "list"
  | .tuple => "tuple"
  | .dict => "dict"
theorem kit_non (t : Ty) : kitB "NoneType" t.nm = some false := by cases t <;> decide +kernel
theorem kit_bool (t : Ty) : kitB "bool" t.nm = some (t == .bool || t == .int) := by cases t <;> decide +kernel
theorem kit_int (t : Ty) : kitB "int" t.nm = some (t == .int) := by cases t <;> decide +kernel
theorem kit_str (t : Ty) : kitB "str" t.nm = some (t == .str) := by cases t <;> decide +kernel
theorem kit_tup (t : Ty) : kitB "tuple" t.nm = some (t == .tuple) := by cases t <;> decide +kernel
theorem kit_lst (t : Ty) : kitB "list" t.nm = some (t == .list) := by cases t <;> decide +kernel
theorem kit_dic (t : Ty) : kitB "dict" t.nm = some (t == .dict) := by cases t <;> decide +kernel
/-- a value's type: its name, and all that isinstance says of it -/
theorem ty_of (s : SR c ι S H) {d : D} {v : V} (r : RV c ι S H d v) (h : ∃ t b, isTy S d t = some b) : ∃ n, TyX c.K H v (.type n) ∧ ∀ t b, isTy S d t = some b → kitB n t.nm = some b := by
  cases d with
  | non => obtain rfl : v = .non := r; exact ⟨_, .base .non, fun t b h => by rw [kit_non]; exact h⟩
  | bl x => obtain rfl : v = .bl x := r; exact ⟨_, .base (.bl x), fun t b h => by rw [kit_bool]; exact h⟩
  | int x => obtain rfl : v = .int x := r; exact ⟨_, .base (.int x), fun t b h => by rw [kit_int]; exact h⟩
  | str x => obtain rfl : v = .str x := r; exact ⟨_, .base (.str x), fun t b h => by rw [kit_str]; exact h⟩
  | tup xs =>
    obtain ⟨a, vs, rfl, q, _⟩ := r
    rcases q with (q | ⟨o, q⟩) | ⟨o, its, n, q1, q2, _⟩
    · exact ⟨_, .base (.tup q), fun t b h => by rw [kit_tup]; exact h⟩
    · exact ⟨_, .fTuple q, fun t b h => by rw [kit_tup]; exact h⟩
    · exact ⟨_, .kTuple q1 q2, fun t b h => by rw [kit_tup]; exact h⟩
  | lst xs =>
    obtain ⟨a, vs, rfl, q, _⟩ := r
    exact ⟨_, .base (.lst q), fun t b h => by rw [kit_lst]; exact h⟩
  | scr ns => obtain ⟨t, b, h⟩ := h; simp [isTy] at h
  | ref n =>
    obtain ⟨t, b, h⟩ := h
    simp only [isTy] at h
    cases hS : S[n]? with
    | none => rw [hS] at h; cases h
    | some o =>
      rw [hS] at h
      obtain ⟨a, rfl, q⟩ := r
      cases o with
      | lst xs =>
        obtain ⟨vs, q1, _⟩ := s.obj n a _ q hS
        exact ⟨_, .base (.lst q1), fun t b h => by rw [kit_lst]; simpa [isTy, hS] using h⟩
      | dic xs =>
        obtain ⟨vs, q1, _⟩ := s.obj n a _ q hS
        exact ⟨_, .base (.dK q1), fun t b h => by rw [kit_dic]; simpa [isTy, hS] using h⟩
      | _ => cases h
theorem sd_isi {a : Expr} {i : E} {t : Ty} {x : Str} {p p2 pos : Pos} (hK : X.K = c.K) (hg : Gl X "isinstance") (hm : X.mg "isinstance" = none) (hg2 : Gl X x) (hm2 : X.mg x = none) (hv : bootBuiltins x = some (.type t.nm)) (hn : x ≠ "__name__") (hd : (x == ("__debug__" : Str)) = false) (ha : Snd X c ea G W a i) (hs : noStar a = true) :
    Snd X c ea G W (.Call (.Name "isinstance" p) [a, .Name x p2] [] pos) (.isi i [t]) := by
  have hb : PE X (.Name x p2) (tC (.ty t.nm)) := pe_bltn hg2 hm2 hv rfl hn hd
  refine PE.mono (pe_callB call_isi hg hm (by decide +kernel) (pa_cons ha (pa_cons hb pa_nil rfl) (star_cons hs)) (by decide) (by decide) (star_cons hs) rfl) fun σ H Q ⟨z, ι, S, env, s, e, p⟩ => ?_
  refine ⟨z, ι, S, env, s, e, Post.bind p fun x S1 vx ι1 H1 st s1 r1 p1 => ?_⟩
  obtain ⟨d, h1, p2⟩ := Post.opt p1
  simp only [Option.map_eq_some_iff] at h1
  obtain ⟨b, h1, rfl⟩ := h1
  have h2 : isTy S1 x t = some b := by
    simp only [isTys] at h1
    cases q : isTy S1 x t with
    | none => rw [q] at h1; cases h1
    | some b' => rw [q] at h1; simpa using h1
  obtain ⟨n, h3, h4⟩ := ty_of s1 r1 ⟨t, b, h2⟩
  rw [hK]
  exact ⟨vx, .ty t.nm, .type n, .type t.nm, b, rfl, .ty _, h3, kit_ty (h4 t b h2), p2.ret s1 rfl⟩
theorem sd_isi2 {a : Expr} {i : E} {t u : Ty} {x y : Str} {k : Nat} {p p2 p3 p4 pos : Pos} (hK : X.K = c.K) (hg : Gl X "isinstance") (hm : X.mg "isinstance" = none) (hg2 : Gl X x) (hm2 : X.mg x = none) (hv : bootBuiltins x = some (.type t.nm)) (hn : x ≠ "__name__") (hd : (x == ("__debug__" : Str)) = false)
    (hg3 : Gl X y) (hm3 : X.mg y = none) (hv3 : bootBuiltins y = some (.type u.nm)) (hn3 : y ≠ "__name__") (hd3 : (y == ("__debug__" : Str)) = false) (ha : Snd X c ea G W a i) (hs : noStar a = true) :
    Snd X c ea G W (.Call (.Name "isinstance" p) [a, .Tuple [.Name x p2, .Name y p3] k p4] [] pos) (.isi i [t, u]) := by
  have hb : PE X (.Name x p2) (tC (.ty t.nm)) := pe_bltn hg2 hm2 hv rfl hn hd
  have hb3 : PE X (.Name y p3) (tC (.ty u.nm)) := pe_bltn hg3 hm3 hv3 rfl hn3 hd3
  refine PE.mono (pe_callB call_isiT hg hm (by decide +kernel) (pa_cons ha (pa_cons (pe_tup (x1 := k) (pos := p4) (pa_cons hb (pa_cons hb3 pa_nil rfl) rfl)) pa_nil rfl) (star_cons hs)) (by decide) (by decide) (star_cons hs) rfl) fun σ H Q ⟨z, ι, S, env, s, e, p⟩ => ?_
  refine ⟨z, ι, S, env, s, e, Post.bind p fun x S1 vx ι1 H1 st s1 r1 p1 => ⟨(by show 2 ≤ sizeLine; decide), fun q hq => ?_⟩⟩
  obtain ⟨d, h1, p2⟩ := Post.opt p1
  simp only [Option.map_eq_some_iff] at h1
  obtain ⟨b, h1, rfl⟩ := h1
  simp only [isTys] at h1
  cases q1 : isTy S1 x t with
  | none => rw [q1] at h1; cases h1
  | some b1 =>
    cases q2 : isTy S1 x u with
    | none => rw [q1, q2] at h1; cases h1
    | some b2 =>
      rw [q1, q2] at h1
      have h1 : (b1 || b2) = b := by simpa using h1
      have s2 := s1.new (o := .tup [.ty t.nm, .ty u.nm]) hq
      have st2 := step_new (ι := ι1) (S := S1) (o := .tup [.ty t.nm, .ty u.nm]) hq
      obtain ⟨n, h3, h4⟩ := ty_of s2 (RV.step s1 st2 _ _ r1) ⟨t, b1, q1⟩
      refine ⟨vx, q, [.ty t.nm, .ty u.nm], .type n, [.type t.nm, .type u.nm], b, rfl, upd_same, .cons (.ty _) (.cons (.ty _) .nil), by rw [hK]; exact h3, ?_, p2.to st2 s2 rfl⟩
      have k1 : PySem.W.kitOne X.K (.type n) (.type t.nm) = some b1 := kit_ty (h4 t b1 q1)
      have k2 : PySem.W.kitOne X.K (.type n) (.type u.nm) = some b2 := kit_ty (h4 u b2 q2)
      subst h1
      cases b1 with
      | true => exact kitAny_cons k1 (fun e => nomatch e) (fun _ => rfl)
      | false =>
        cases b2 with
        | true => exact kitAny_cons k1 (fun _ => kitAny_cons k2 (fun e => nomatch e) (fun _ => rfl)) (fun e => nomatch e)
        | false => exact kitAny_cons k1 (fun _ => kitAny_cons k2 (fun _ => kitAny_nil) (fun e => nomatch e)) (fun e => nomatch e)

/-! ### copies -/
theorem tuple_by (hK : X.K = c.K) (ι S H ds vs d Q) (s : SR c ι S H) (r0 : RVs c ι S H ds vs) (h : bi S .tuple ds = some d) (p : PostV c ι S H (.ok d S) (fun k H' => W (.ref (ea k)) none H') Q) :
    ∃ p ys, vs = [.ref p] ∧ ((SqL X.K H p ys ∧ ∀ l, H l = none → Q (.ref l) (upd H l (.tup ys))) ∨ (SqT X.K H p ys ∧ Q (.ref p) H)) := by
  obtain ⟨x, rfl⟩ := bi1 h (by simp)
  obtain ⟨v, rfl, r⟩ := rv1 r0
  simp only [bi] at h
  cases hx : view S x with
  | lst xs =>
    rw [hx] at h; cases h
    obtain ⟨a, vs, rfl, q, rs⟩ := view_list s r hx
    exact ⟨a, vs, rfl, .inl ⟨.inl (.inl q), fun l hl => p.to (step_new hl) (s.new hl) ⟨l, _, rfl, .inl (.inl upd_same), RVs.step s (step_new hl) _ _ rs⟩⟩⟩
  | tup xs =>
    rw [hx] at h; cases h
    have e := view_tup hx
    subst e
    obtain ⟨a, vs, rfl, q, rs⟩ := r
    exact ⟨a, vs, rfl, .inr ⟨by rw [hK]; exact q, p.ret s ⟨a, vs, rfl, q, rs⟩⟩⟩
  | _ => rw [hx] at h; cases h
theorem list_by (hK : X.K = c.K) (ι S H ds vs d Q) (s : SR c ι S H) (r0 : RVs c ι S H ds vs) (h : bi S .list ds = some d) (p : PostV c ι S H (.ok d S) (fun k H' => W (.ref (ea k)) none H') Q) :
    ∃ p ys, vs = [.ref p] ∧ (SqL X.K H p ys ∨ SqT X.K H p ys) ∧ ∀ l, H l = none → Q (.ref l) (upd H l (.lst ys)) := by
  obtain ⟨x, rfl⟩ := bi1 h (by simp)
  obtain ⟨v, rfl, r⟩ := rv1 r0
  simp only [bi] at h
  cases hx : view S x with
  | lst xs =>
    rw [hx] at h; cases h
    obtain ⟨a, vs, rfl, q, rs⟩ := view_list s r hx
    exact ⟨a, vs, rfl, .inl (.inl (.inl q)), fun l hl => p.to (step_new hl) (s.new hl) (rv_newlist s hl rs)⟩
  | tup xs =>
    rw [hx] at h; cases h
    have e := view_tup hx
    subst e
    obtain ⟨a, vs, rfl, q, rs⟩ := r
    exact ⟨a, vs, rfl, .inr (by rw [hK]; exact q), fun l hl => p.to (step_new hl) (s.new hl) (rv_newlist s hl rs)⟩
  | _ => rw [hx] at h; cases h
theorem abs_by (ι S H ds vs d Q) (s : SR c ι S H) (r0 : RVs c ι S H ds vs) (h : bi S .abs ds = some d) (p : PostV c ι S H (.ok d S) (fun k H' => W (.ref (ea k)) none H') Q) : ∃ i, vs = [.int i] ∧ Q (.int (if i < 0 then -i else i)) H := by
  obtain ⟨x, rfl⟩ := bi1 h (by simp)
  obtain ⟨v, rfl, r⟩ := rv1 r0
  cases x <;> simp only [bi, reduceCtorEq, Option.some.injEq] at h
  subst h
  obtain rfl : v = .int _ := r
  exact ⟨_, rfl, p.ret s rfl⟩
theorem int_by (ι S H ds vs d Q) (s : SR c ι S H) (r0 : RVs c ι S H ds vs) (h : bi S .int ds = some d) (p : PostV c ι S H (.ok d S) (fun k H' => W (.ref (ea k)) none H') Q) : (∃ i, vs = [.int i] ∧ Q (.int i) H) ∨ ∃ k, vs = [.bl k] ∧ Q (.int (if k then 1 else 0)) H := by
  obtain ⟨x, rfl⟩ := bi1 h (by simp)
  obtain ⟨v, rfl, r⟩ := rv1 r0
  cases x <;> simp only [bi, reduceCtorEq, Option.some.injEq] at h
  · subst h
    obtain rfl : v = .bl _ := r
    exact .inr ⟨_, rfl, p.ret s rfl⟩
  · subst h
    obtain rfl : v = .int _ := r
    exact .inl ⟨_, rfl, p.ret s rfl⟩
theorem rg_rv (n : Int) : RVs c ι S H ((List.range n.toNat).map fun (i : Nat) => D.int i) (rgV 0 n) := by
  unfold rgV
  rw [Int.sub_zero]
  exact RVs.of_all (fun i => by show V.int (0 + (i : Nat)) = V.int i; simp) _
theorem sd_listR {a : Expr} {i : E} {p p2 pos p3 : Pos} (hc : X.calm = true) (hg : Gl X "list") (hm : X.mg "list" = none) (hg2 : Gl X "range") (hm2 : X.mg "range" = none) (ha : Snd X c ea G W a i) (hs : noStar a = true) : Snd X c ea G W (.Call (.Name "list" p) [.Call (.Name "range" p2) [a] [] p3] [] pos) (.bi .listR [i]) := by
  refine PE.mono (pe_listRg hc hg hm (prg_1 hg2 hm2 ha (star_cons hs)) rfl) fun σ H Q ⟨z, ι, S, env, s, e, p⟩ => ?_
  simp only [evEs, PostV] at p
  refine ⟨z, ι, S, env, s, e, ?_⟩
  cases hr : evE G i env S with
  | bad => rw [evE, evEs, hr] at p; exact p.elim
  | exc k S' => rw [evE, evEs, hr] at p; exact p
  | ok d S' =>
    rw [evE, evEs, hr] at p
    intro v ι1 H1 st s1 r1
    have p1 := Post.step p st
    simp only [evEs, R.bind_ok] at p1
    obtain ⟨d2, h1, p2⟩ := Post.opt p1
    cases d <;> simp only [bi, reduceCtorEq] at h1
    rename_i n
    obtain rfl : v = .int n := r1
    split at h1
    · rename_i hc
      simp only [Bool.and_eq_true, decide_eq_true_eq] at hc
      cases h1
      refine ⟨n, rfl, RgOk.of_le (by decide) (by have := hc.1; unfold cap at this; omega) (by decide) hc.2, fun q hq => ?_⟩
      exact p2.to (step_new hq) (s1.new hq) (rv_newlist s1 hq (rg_rv n))
    · cases h1
theorem sd_tupR {a : Expr} {i : E} {p p2 pos p3 : Pos} (hc : X.calm = true) (hg : Gl X "tuple") (hm : X.mg "tuple" = none) (hg2 : Gl X "range") (hm2 : X.mg "range" = none) (ha : Snd X c ea G W a i) (hs : noStar a = true) : Snd X c ea G W (.Call (.Name "tuple" p) [.Call (.Name "range" p2) [a] [] p3] [] pos) (.bi .tupleR [i]) := by
  refine PE.mono (pe_tupRg hc hg hm (prg_1 hg2 hm2 ha (star_cons hs)) rfl) fun σ H Q ⟨z, ι, S, env, s, e, p⟩ => ?_
  refine ⟨z, ι, S, env, s, e, ?_⟩
  cases hr : evE G i env S with
  | bad => rw [evE, evEs, hr] at p; exact p.elim
  | exc k S' => rw [evE, evEs, hr] at p; exact p
  | ok d S' =>
    rw [evE, evEs, hr] at p
    intro v ι1 H1 st s1 r1
    have p1 := Post.step p st
    simp only [evEs, R.bind_ok] at p1
    obtain ⟨d2, h1, p2⟩ := Post.opt p1
    cases d <;> simp only [bi, reduceCtorEq] at h1
    rename_i n
    obtain rfl : v = .int n := r1
    split at h1
    · rename_i hc
      simp only [Bool.and_eq_true, decide_eq_true_eq] at hc
      cases h1
      refine ⟨n, rfl, RgOk.of_le (by decide) (by have := hc.1; unfold cap at this; omega) (by decide) hc.2, fun q hq => ?_⟩
      exact p2.to (step_new hq) (s1.new hq) ⟨q, _, rfl, .inl (.inl upd_same), rg_rv n⟩
    · cases h1
/-! len(set(xs)) -/
theorem firsts_met (ns : List Int) : ∀ i, i ≤ ns.length → PyProof.Rows.firstMet (fun i => ns.getD i 0) i = firsts (ns.take i)
  | 0, _ => rfl
  | i + 1, hi => by
    have hlt : i < ns.length := hi
    have e1 : ns.getD i 0 = ns[i] := by
      rw [List.getD_eq_getElem?_getD, List.getElem?_eq_getElem hlt] <;> rfl
    have e2 : ns.take (i + 1) = ns.take i ++ [ns[i]] := by
      rw [List.take_add_one, List.getElem?_eq_getElem hlt] <;> rfl
    rw [PyProof.Rows.firstMet_succ, firsts_met ns i (Nat.le_of_lt hlt), e2, e1]
    unfold firsts
    rw [List.foldl_append]
    rfl
theorem firsts_len (ns : List Int) : (firsts ns).length ≤ ns.length := by
  have : ∀ (l acc : List Int), (l.foldl (fun acc i => if acc.any (· == i) then acc else acc ++ [i]) acc).length ≤ acc.length + l.length := by
    intro l
    induction l with
    | nil => intro acc; simp
    | cons x l ih =>
      intro acc
      rw [List.foldl_cons]
      split
      · have := ih acc; simp only [List.length_cons]; omega
      · have := ih (acc ++ [x]); simp only [List.length_cons, List.length_append, List.length_singleton, List.length_nil] at this ⊢; omega
  simpa [firsts] using this ns []
theorem sd_nset {a : Expr} {i : E} {p p2 q pos : Pos} (hK : X.K = c.K) (hc : X.calm = true) (hg : Gl X "len") (hm : X.mg "len" = none) (hg2 : Gl X "set") (hm2 : X.mg "set" = none) (ha : Snd X c ea G W a i) (hs : noStar a = true) : Snd X c ea G W (.Call (.Name "len" p) [.Call (.Name "set" p2) [a] [] q] [] pos) (.bi .nset [i]) := by
  refine ⟨fun pins s σ H Q I h => ?_⟩
  obtain ⟨z, ι, S, env, sr, e, p⟩ := h
  refine Call_ (ld_blt I hg hm boot_len ?_)
  refine PyProof.Rows.callWith_builtin1 (PyProof.Rows.args_cons ?_ rfl) rfl rfl
  refine Call_ (ld_blt I hg2 hm2 boot_set ?_)
  have na : starEach [a] X.env = (false, eval a X.env) :: starEach [] X.env := star_cons hs
  have hw : tEv c ea G W i σ H (fun x H1 => ∃ (l : Addr) (ns : List Int), x = .ref l ∧ SqL X.K H1 l (ns.map V.int) ∧ ns.length ≤ 4000 ∧ Q (.int ((firsts ns).length : Nat)) H1) := by
    refine ⟨z, ι, S, env, sr, e, ?_⟩
    cases hr : evE G i env S with
    | bad => rw [evE, evEs, hr] at p; exact p.elim
    | exc k S' => rw [evE, evEs, hr] at p; exact p
    | ok d S' =>
      rw [evE, evEs, hr] at p
      intro v ι1 H1 st s1 r1
      have p1 := Post.step p st
      simp only [evEs, R.bind_ok] at p1
      obtain ⟨d2, h1, p2⟩ := Post.opt p1
      simp only [bi] at h1
      cases hx : view S' d with
      | lst xs =>
        rw [hx] at h1
        simp only [Option.bind_eq_some_iff] at h1
        obtain ⟨ns, h2, h3⟩ := h1
        split at h3
        · rename_i h4
          cases h3
          obtain ⟨a, vs, rfl, q1, rs⟩ := view_list s1 r1 hx
          obtain ⟨_, rfl⟩ := ints_rv h2 rs
          exact ⟨a, ns, rfl, .inl (.inl q1), h4, p2.ret s1 rfl⟩
        · cases h3
      | _ => rw [hx] at h1; cases h1
  refine PyProof.Rows.callWith_type1 (PyProof.Rows.args_cons (thn (ha.run pins s σ H _ I hw) fun v s1 ⟨x, H1, I1, r1, q1⟩ => PyProof.Rows.args_nil ?_) na) na rfl
  obtain ⟨l, ns, rfl, hq, hl, q1⟩ := q1
  cases r1
  obtain ⟨its, r, pl, hz⟩ := I1.list hq
  have hlen : its.toArray.size = ns.length := by rw [List.size_toArray, ← r.length, List.length_map]
  refine call_set_list (I1.ok.hd hc) pl.isList (by simpa using RZ.intsAre_vals r) (by rw [hlen]; unfold scanBound; omega) fun h' tk hS hk => ?_
  refine PyProof.Rows.args_nil ?_
  rw [hlen, firsts_met ns ns.length (Nat.le_refl _), List.take_length] at hS
  obtain ⟨o, es, ep, t, ho, hex, hd, _, _, _, hf, hn⟩ := hS
  have I2 : Inv X pins σ H1 { s1 with heap := h', toks := tk } := I1.kept fun b o e => hk b o (Heap.lt_size e) e
  have := firsts_len ns
  exact call_len_set ho hex hd hf (by rw [hn] <;> omega) ⟨.int (firsts ns).length, H1, I2.tok _, ⟨_, by rw [hn]⟩, q1⟩
end
end Y

end

section
set_option Elab.async false
set_option linter.all false
set_option maxRecDepth 100000
set_option maxHeartbeats 1000000
namespace Y
open PySem L2 PyProof.Rows
section
variable {X : Cx} {c : Cfg} {ea : Nat → Addr} {G : Rules} {W : XK} {ι : List Addr} {S : Sto} {H : Hp}
/-! ### list objects -/
theorem lst_at (s : SR c ι S H) {n : Nat} {v : V} {xs : List D} (r : RV c ι S H (.ref n) v) (h : S[n]? = some (.lst xs)) : ∃ a vs, v = .ref a ∧ ι[n]? = some a ∧ H a = some (.lst vs) ∧ RVs c ι S H xs vs := by
  obtain ⟨a, e, q⟩ := r
  obtain ⟨vs, h1, h2⟩ := s.obj n a _ q h
  exact ⟨a, vs, e, q, h1, h2⟩
theorem set_lst (s : SR c ι S H) {n : Nat} {a : Addr} {xs ys : List D} {us : List V} (h1 : ι[n]? = some a) (h2 : S[n]? = some (.lst xs)) (r : RVs c ι S H ys us) : Step ι S H ι (S.set n (.lst ys)) (upd H a (.lst us)) ∧ SR c ι (S.set n (.lst ys)) (upd H a (.lst us)) := by
  have st := step_set (H := H) (o' := .lst ys) (u := .lst us) h1 h2 (by simp)
  exact ⟨st, s.set h1 h2 (by simp) ⟨us, upd_same, RVs.step s st _ _ r⟩⟩
/-- a list's method by its values -/
theorem sd_bm {o e : Expr} {es : List Expr} {i : E} {is : List E} {m : Bm} {nm : Str} {id : String} {r : V → List V → Hp → VK → Prop} {apos cpos : Pos} (hK : X.K = c.K) (slot : Slot "list" nm id) (hty : typeOf (.builtin id) = pure (.type "method_descriptor")) (hm : MtR X id r)
    (ho : Snd X c ea G W o i) (ha : SndA X c ea G W (e :: es) is) (hs : (e :: es).all noStar = true) (hb : attrOk o = true) (hl : (apos.endLine == cpos.line) = true) (hn : (e :: es).length < 20)
    (h : ∀ z ι S H x ds vx vs d S' Q, SR (c.at z) ι S H → RV (c.at z) ι S H x vx → RVs (c.at z) ι S H ds vs → bm S m x ds = some (d, S') → PostV (c.at z) ι S H (.ok d S') (fun k H' => W (.ref (ea k)) none H') Q → r vx vs H Q) :
    Snd X c ea G W (.Call (.Attribute o nm apos) (e :: es) [] cpos) (.bm m i is) := by
  have hs' := hs
  simp only [List.all_cons, Bool.and_eq_true] at hs'
  have few : ((backTo cpos (starEach (e :: es) X.env)).all (fun x => !x.1) && (backToKw cpos (keywordEach [] X.env)).all (fun x => x.1.isSome)
      && decide ((e :: es).length + ([] : List Keyword).length + (if ([] : List Keyword).isEmpty then 0 else 1) < 30)) = true := by
    rw [star_all hs]
    show (true && true && decide ((e :: es).length + 0 + 0 < 30)) = true
    simp only [Bool.and_self, Bool.true_and, decide_eq_true_eq]; omega
  refine PE.mono (pe_bm PySem.F.plainAttrs_list slot hty hm ho ha (attr_base hb) few hl (star_cons hs'.1) (star_any hs'.2)) fun σ H Q ⟨z, ι, S, env, s, e, p⟩ => ?_
  refine ⟨z, ι, S, env, s, e, Post.bind p fun x S1 vx ι1 H1 st s1 r1 p1 => ?_⟩
  cases hx : view S1 x with
  | lst xs =>
    rw [hx] at p1
    obtain ⟨a, vs, rfl, q1, rs⟩ := view_list s1 r1 hx
    refine ⟨.inl ⟨rfl, vs, .inl (.inl q1)⟩, z, ι1, S1, env, s1, e.step s st, Post.bind p1 fun ds S2 vs2 ι2 H2 st2 s2 r2 p2 => ?_⟩
    cases hb : bm S2 m x ds with
    | none => rw [hb] at p2; exact p2.elim
    | some y => rw [hb] at p2; exact h z ι2 S2 H2 x ds _ vs2 y.1 y.2 Q s2 (RV.step s1 st2 _ _ r1) r2 hb p2
  | _ => rw [hx] at p1; exact p1.elim
theorem sd_bm0 {o : Expr} {i : E} {m : Bm} {nm : Str} {id : String} {r : V → List V → Hp → VK → Prop} {apos cpos : Pos} (hK : X.K = c.K) (slot : Slot "list" nm id) (hty : typeOf (.builtin id) = pure (.type "method_descriptor")) (hm : MtR X id r)
    (ho : Snd X c ea G W o i) (hb : attrOk o = true) (hl : (apos.endLine == cpos.line) = true)
    (h : ∀ z ι S H x vx d S' Q, SR (c.at z) ι S H → RV (c.at z) ι S H x vx → bm S m x [] = some (d, S') → PostV (c.at z) ι S H (.ok d S') (fun k H' => W (.ref (ea k)) none H') Q → r vx [] H Q) :
    Snd X c ea G W (.Call (.Attribute o nm apos) [] [] cpos) (.bm m i []) := by
  refine PE.mono (pe_bm0 PySem.F.plainAttrs_list slot hty hm ho (attr_base hb) hl) fun σ H Q ⟨z, ι, S, env, s, e, p⟩ => ?_
  refine ⟨z, ι, S, env, s, e, Post.bind p fun x S1 vx ι1 H1 st s1 r1 p1 => ?_⟩
  cases hx : view S1 x with
  | lst xs =>
    rw [hx] at p1
    obtain ⟨a, vs, rfl, q1, rs⟩ := view_list s1 r1 hx
    refine ⟨.inl ⟨rfl, vs, .inl (.inl q1)⟩, ?_⟩
    simp only [evEs, R.bind_ok] at p1
    cases hb : bm S1 m x [] with
    | none => rw [hb] at p1; exact p1.elim
    | some y => rw [hb] at p1; exact h z ι1 S1 H1 x _ y.1 y.2 Q s1 r1 hb p1
  | _ => rw [hx] at p1; exact p1.elim
theorem bm_ref {S : Sto} {m : Bm} {x : D} {ds : List D} {y : D × Sto} (h : bm S m x ds = some y) : ∃ n xs, x = .ref n ∧ S[n]? = some (.lst xs) := by
  unfold bm at h
  cases x with
  | ref n =>
    simp only at h
    cases hS : S[n]? with
    | none => rw [hS] at h; cases h
    | some o =>
      cases o with
      | lst xs => exact ⟨n, xs, rfl, hS⟩
      | _ => rw [hS] at h; cases h
  | _ => cases h
theorem append_by (z ι S H x ds vx vs d S' Q) (s : SR (c.at z) ι S H) (r : RV (c.at z) ι S H x vx) (rs : RVs (c.at z) ι S H ds vs) (h : bm S .append x ds = some (d, S')) (p : PostV (c.at z) ι S H (.ok d S') (fun k H' => W (.ref (ea k)) none H') Q) : rAppend vx vs H Q := by
  obtain ⟨n, xs, rfl, hS⟩ := bm_ref h
  obtain ⟨a, us, rfl, q1, q2, q3⟩ := lst_at s r hS
  simp only [bm, hS] at h
  cases ds with
  | nil => cases h
  | cons y ds =>
    cases ds with
    | cons _ _ => cases h
    | nil =>
      obtain ⟨v, rfl, rv⟩ := rv1 rs
      simp only at h
      split at h
      · rename_i hc
        simp only [Option.some.injEq, Prod.mk.injEq] at h
        obtain ⟨rfl, rfl⟩ := h
        obtain ⟨st, s2⟩ := set_lst s q1 hS (q3.append (show RVs (c.at z) ι S H [y] [v] from ⟨rv, trivial⟩))
        exact ⟨a, us, v, rfl, rfl, q2, line_lt (by rw [← q3.length]; exact hc), p.to st s2 rfl⟩
      · cases h
theorem extend_by (z ι S H x ds vx vs d S' Q) (s : SR (c.at z) ι S H) (r : RV (c.at z) ι S H x vx) (rs : RVs (c.at z) ι S H ds vs) (h : bm S .extend x ds = some (d, S')) (p : PostV (c.at z) ι S H (.ok d S') (fun k H' => W (.ref (ea k)) none H') Q) : rExtend vx vs H Q := by
  obtain ⟨n, xs, rfl, hS⟩ := bm_ref h
  obtain ⟨a, us, rfl, q1, q2, q3⟩ := lst_at s r hS
  simp only [bm, hS] at h
  cases ds with
  | nil => cases h
  | cons y ds =>
    cases ds with
    | cons _ _ => cases y <;> cases h
    | nil =>
      obtain ⟨v, rfl, rv⟩ := rv1 rs
      cases y <;> simp only [reduceCtorEq] at h
      split at h
      · rename_i hc
        simp only [Option.some.injEq, Prod.mk.injEq] at h
        obtain ⟨rfl, rfl⟩ := h
        obtain ⟨b, ws, rfl, w1, _, w3⟩ := rv
        obtain ⟨st, s2⟩ := set_lst s q1 hS (q3.append w3)
        exact ⟨a, b, us, ws, rfl, rfl, q2, w1, line_of (by rw [← q3.length, ← w3.length]; exact hc), p.to st s2 rfl⟩
      · cases h
theorem clear_by (z ι S H x vx d S' Q) (s : SR (c.at z) ι S H) (r : RV (c.at z) ι S H x vx) (h : bm S .clear x [] = some (d, S')) (p : PostV (c.at z) ι S H (.ok d S') (fun k H' => W (.ref (ea k)) none H') Q) : rClear vx [] H Q := by
  obtain ⟨n, xs, rfl, hS⟩ := bm_ref h
  obtain ⟨a, us, rfl, q1, q2, q3⟩ := lst_at s r hS
  simp only [bm, hS, Option.some.injEq, Prod.mk.injEq] at h
  obtain ⟨rfl, rfl⟩ := h
  obtain ⟨st, s2⟩ := set_lst (ys := []) (us := []) s q1 hS trivial
  exact ⟨a, us, rfl, rfl, q2, p.to st s2 rfl⟩
theorem pop_by (z ι S H x vx d S' Q) (s : SR (c.at z) ι S H) (r : RV (c.at z) ι S H x vx) (h : bm S .pop0 x [] = some (d, S')) (p : PostV (c.at z) ι S H (.ok d S') (fun k H' => W (.ref (ea k)) none H') Q) : rPop vx [] H Q := by
  obtain ⟨n, xs, rfl, hS⟩ := bm_ref h
  obtain ⟨a, us, rfl, q1, q2, q3⟩ := lst_at s r hS
  simp only [bm, hS] at h
  cases hy : xs[xs.length - 1]? with
  | none => rw [hy] at h; cases h
  | some y =>
    rw [hy] at h
    simp only [Option.some.injEq, Prod.mk.injEq] at h
    obtain ⟨rfl, rfl⟩ := h
    obtain ⟨v, w1, w2⟩ := q3.get hy
    obtain ⟨st, s2⟩ := set_lst s q1 hS q3.dropLast
    exact ⟨a, us, v, rfl, rfl, q2, by rw [← q3.length]; exact w1, p.to st s2 (RV.step s st _ _ w2)⟩
theorem popAt_by (z ι S H x ds vx vs d S' Q) (s : SR (c.at z) ι S H) (r : RV (c.at z) ι S H x vx) (rs : RVs (c.at z) ι S H ds vs) (h : bm S .popAt x ds = some (d, S')) (p : PostV (c.at z) ι S H (.ok d S') (fun k H' => W (.ref (ea k)) none H') Q) : rPopAt vx vs H Q := by
  obtain ⟨n, xs, rfl, hS⟩ := bm_ref h
  obtain ⟨a, us, rfl, q1, q2, q3⟩ := lst_at s r hS
  simp only [bm, hS] at h
  cases ds with
  | nil => cases h
  | cons y ds =>
    cases ds with
    | cons _ _ => cases y <;> cases h
    | nil =>
      obtain ⟨v, rfl, rv⟩ := rv1 rs
      cases y <;> simp only [reduceCtorEq] at h
      rename_i i
      obtain rfl : v = .int i := rv
      split at h
      rotate_left
      · cases h
      rename_i hlen
      cases hi : ixN xs.length i with
      | none => rw [hi] at h; cases h
      | some j =>
        rw [hi] at h
        simp only [Option.map_eq_some_iff, Prod.mk.injEq] at h
        obtain ⟨y, h1, rfl, rfl⟩ := h
        obtain ⟨v, w1, w2⟩ := q3.get h1
        obtain ⟨st, s2⟩ := set_lst s q1 hS (q3.eraseIdx j)
        obtain ⟨k1, k2, k3, k4⟩ := ixN_seq hi
        unfold cap at hlen
        exact ⟨a, us, i, j, v, rfl, rfl, q2, by omega, by omega, by rw [← q3.length]; exact k1, w1, p.to st s2 (RV.step s st _ _ w2)⟩
/-! ### dicts -/
theorem any_rk {κ : Type} [DecidableEq κ] (k : κ) : ∀ {kvs : List (κ × D)} {ws : List (κ × V)}, RKs c ι S H kvs ws → (kvs.any fun kv => decide (kv.1 = k)) = ws.any fun kv => decide (kv.1 = k)
  | [], [], _ => rfl
  | [], _ :: _, h => h.elim
  | _ :: _, [], h => h.elim
  | p :: kvs, q :: ws, h => by
    simp only [List.any_cons]
    rw [h.1.1, any_rk k h.2]
theorem rk_put {κ : Type} [DecidableEq κ] {k : κ} {d : D} {v : V} (r : RV c ι S H d v) {kvs : List (κ × D)} {ws : List (κ × V)} (h : RKs c ι S H kvs ws) : RKs c ι S H (Y.putK k d kvs) (L2.putK ws k v) := by
  unfold Y.putK L2.putK
  rw [any_rk k h]
  split
  · have : ∀ {kvs : List (κ × D)} {ws : List (κ × V)}, RKs c ι S H kvs ws → RKs c ι S H (kvs.map fun kv => if kv.1 = k then (kv.1, d) else kv) (ws.map fun kv => if kv.1 = k then (kv.1, v) else kv) := by
      intro kvs
      induction kvs with
      | nil => intro ws h; cases ws with
        | nil => trivial
        | cons _ _ => exact h.elim
      | cons p kvs ih =>
        intro ws h
        cases ws with
        | nil => exact h.elim
        | cons q ws =>
          simp only [List.map_cons]
          refine ⟨?_, ih h.2⟩
          rw [← h.1.1]
          by_cases e : p.1 = k
          · rw [if_pos e, if_pos e]; exact ⟨rfl, r⟩
          · rw [if_neg e, if_neg e]; exact h.1
    exact this h
  · have : ∀ {kvs : List (κ × D)} {ws : List (κ × V)}, RKs c ι S H kvs ws → RKs c ι S H (kvs ++ [(k, d)]) (ws ++ [(k, v)]) := by
      intro kvs
      induction kvs with
      | nil => intro ws h; cases ws with
        | nil => exact ⟨⟨rfl, r⟩, trivial⟩
        | cons _ _ => exact h.elim
      | cons p kvs ih =>
        intro ws h
        cases ws with
        | nil => exact h.elim
        | cons q ws => exact ⟨h.1, ih h.2⟩
    exact this h
theorem rk_drop {κ : Type} [DecidableEq κ] (k : κ) : ∀ {kvs : List (κ × D)} {ws : List (κ × V)}, RKs c ι S H kvs ws → RKs c ι S H (dropKV k kvs) (dropK ws k)
  | [], [], _ => trivial
  | [], _ :: _, h => h.elim
  | _ :: _, [], h => h.elim
  | p :: kvs, q :: ws, h => by
    unfold dropKV dropK
    simp only [List.filter_cons]
    rw [← h.1.1]
    by_cases e : p.1 = k
    · simp only [e, ne_eq, not_true_eq_false, decide_false, Bool.false_eq_true, if_false]
      exact rk_drop k h.2
    · simp only [ne_eq, e, not_false_eq_true, decide_true, if_true]
      exact ⟨h.1, rk_drop k h.2⟩
theorem rk_len {κ : Type} : ∀ {kvs : List (κ × D)} {ws : List (κ × V)}, RKs c ι S H kvs ws → kvs.length = ws.length
  | [], [], _ => rfl
  | [], _ :: _, h => h.elim
  | _ :: _, [], h => h.elim
  | _ :: kvs, _ :: ws, h => by simp [rk_len h.2]
theorem set_dic (s : SR c ι S H) {n : Nat} {a : Addr} {xs ys : List (Key × D)} {us : List (Key × V)} (h1 : ι[n]? = some a) (h2 : S[n]? = some (.dic xs)) (r : RKs c ι S H ys us) : Step ι S H ι (S.set n (.dic ys)) (upd H a (.dK us)) ∧ SR c ι (S.set n (.dic ys)) (upd H a (.dK us)) := by
  have st := step_set (H := H) (o' := .dic ys) (u := .dK us) h1 h2 (by simp)
  exact ⟨st, s.set h1 h2 (by simp) ⟨us, upd_same, RKs.step s st _ _ r⟩⟩
theorem sd_dpop {o k : Expr} {i j : E} {n : Nat} {apos cpos p2 : Pos} (ho : Snd X c ea G W o i) (hk : Snd X c ea G W k j) (hs : noStar k = true) (hb : attrOk o = true) (hl : (apos.endLine == cpos.line) = true) : Snd X c ea G W (.Call (.Attribute o "pop" apos) [k, .Constant .none n p2] [] cpos) (.dpop i j) := by
  have hst : starEach [k, .Constant .none n p2] X.env = [(false, eval k X.env), (false, eval (.Constant .none n p2) X.env)] := by rw [star_cons hs] <;> rfl
  have m : M2 X o "pop" apos k (.Constant .none n p2) cpos := by
    refine ⟨attr_base hb, ?_, hl, ?_⟩
    · rw [hst] <;> rfl
    · rw [hst] <;> rfl
  refine PE.mono (pe_dpop2 ho hk pe_non m) fun σ H Q ⟨z, ι, S, env, s, e, p⟩ => ?_
  refine ⟨z, ι, S, env, s, e, Post.bind p fun x S1 vx ι1 H1 st s1 r1 p1 => ?_⟩
  cases x with
  | ref n =>
    simp only at p1
    cases hS : S1[n]? with
    | none => rw [hS] at p1; exact p1.elim
    | some o =>
      cases o with
      | dic kvs =>
        rw [hS] at p1
        obtain ⟨a, ws, rfl, q0, q1, q2⟩ := dic_at s1 r1 hS
        refine ⟨a, rfl, .inl ⟨ws, .inl q1⟩, z, ι1, S1, env, s1, e.step s st, Post.bind p1 fun y S2 vy ι2 H2 st2 s2 r2 p2 => ?_⟩
        cases hy : keyD y with
        | none => rw [hy] at p2; exact p2.elim
        | some ky =>
          rw [hy] at p2
          cases hS2 : S2[n]? with
          | none => rw [hS2] at p2; exact p2.elim
          | some o2 =>
            cases o2 with
            | dic kvs2 =>
              rw [hS2] at p2
              obtain ⟨a', ws2, ea', q0', q1', q2'⟩ := dic_at s2 (RV.step s1 st2 _ _ r1) hS2
              cases ea'
              have ek := key_rv hy r2
              subst ek
              refine ⟨ws2, ky, q1', rfl, fun v hv => ?_, fun hv => ?_⟩
              · cases hg : getK kvs2 ky with
                | none => rw [rk_none q2' hg] at hv; cases hv
                | some d =>
                  obtain ⟨v', w1, w2⟩ := rk_some q2' hg
                  rw [w1] at hv; cases hv
                  simp only [hg] at p2
                  obtain ⟨st3, s3⟩ := set_dic s2 q0' hS2 (rk_drop ky q2')
                  exact p2.to st3 s3 (RV.step s2 st3 _ _ w2)
              · cases hg : getK kvs2 ky with
                | none => simp only [hg] at p2; exact p2.ret s2 rfl
                | some d => obtain ⟨v', w1, _⟩ := rk_some q2' hg; rw [w1] at hv; cases hv
            | _ => rw [hS2] at p2; exact p2.elim
      | _ => rw [hS] at p1; exact p1.elim
  | _ => exact p1.elim
theorem sd_dpop1 {o k : Expr} {i j : E} {apos cpos : Pos} (ho : Snd X c ea G W o i) (hk : Snd X c ea G W k j) (hs : noStar k = true) (hb : attrOk o = true) (hl : (apos.endLine == cpos.line) = true) : Snd X c ea G W (.Call (.Attribute o "pop" apos) [k] [] cpos) (.dpop1 i j) := by
  have hst : starEach [k] X.env = [(false, eval k X.env)] := by rw [star_cons hs] <;> rfl
  have m : M1 X o "pop" apos k cpos := by
    refine ⟨attr_base hb, ?_, hl, ?_⟩
    · rw [hst] <;> rfl
    · rw [hst] <;> rfl
  refine PE.mono (pe_dpop1 ho hk m) fun σ H Q ⟨z, ι, S, env, s, e, p⟩ => ?_
  refine ⟨z, ι, S, env, s, e, Post.bind p fun x S1 vx ι1 H1 st s1 r1 p1 => ?_⟩
  cases x with
  | ref n =>
    simp only at p1
    cases hS : S1[n]? with
    | none => rw [hS] at p1; exact p1.elim
    | some o =>
      cases o with
      | dic kvs =>
        rw [hS] at p1
        obtain ⟨a, ws, rfl, q0, q1, q2⟩ := dic_at s1 r1 hS
        refine ⟨a, rfl, .inl ⟨ws, .inl q1⟩, z, ι1, S1, env, s1, e.step s st, Post.bind p1 fun y S2 vy ι2 H2 st2 s2 r2 p2 => ?_⟩
        cases hy : keyD y with
        | none => rw [hy] at p2; exact p2.elim
        | some ky =>
          rw [hy] at p2
          cases hS2 : S2[n]? with
          | none => rw [hS2] at p2; exact p2.elim
          | some o2 =>
            cases o2 with
            | dic kvs2 =>
              rw [hS2] at p2
              obtain ⟨a', ws2, ea', q0', q1', q2'⟩ := dic_at s2 (RV.step s1 st2 _ _ r1) hS2
              cases ea'
              have ek := key_rv hy r2
              subst ek
              cases hg : getK kvs2 ky with
              | none => simp only [hg] at p2; exact p2.elim
              | some d =>
                obtain ⟨v', w1, w2⟩ := rk_some q2' hg
                simp only [hg] at p2
                obtain ⟨st3, s3⟩ := set_dic s2 q0' hS2 (rk_drop ky q2')
                exact ⟨ws2, ky, v', q1', rfl, w1, p2.to st3 s3 (RV.step s2 st3 _ _ w2)⟩
            | _ => rw [hS2] at p2; exact p2.elim
      | _ => rw [hS] at p1; exact p1.elim
  | _ => exact p1.elim
theorem sd_bounds {a : Expr} {i : E} {x : Str} {b : Addr} {p pos : Pos} (hg : Gl X x) (hm : X.mg x = some (.ref b)) (hb : ∀ z k, bounds.lookup z = some k → KDct X.K X.w b z (.int k)) (hd : (x == ("__debug__" : Str)) = false) (ha : Snd X c ea G W a i) (hs : noSlice a = true) : Snd X c ea G W (.Subscript (.Name x p) a pos) (.bounds i) := by
  refine PE.mono (pe_ix ix_kdict (pe_glob (v := .ref b) hg hm rfl hd) ha (plain_ix hs)) fun σ H Q ⟨z, ι, S, env, s, e, p⟩ => ?_
  refine ⟨z, ι, S, env, s, e, Post.bind p fun y S1 vy ι1 H1 st s1 r1 p1 => ?_⟩
  cases y with
  | str y =>
    obtain rfl : vy = .str y := r1
    obtain ⟨d, h1, p2⟩ := Post.opt p1
    simp only [Option.map_eq_some_iff] at h1
    obtain ⟨k, h1, rfl⟩ := h1
    exact ⟨b, y, _, rfl, rfl, hb y k h1, p2.ret s1 rfl⟩
  | _ => exact p1.elim
theorem sd_frz {a : Expr} {i : E} (ha : Snd X c ea G W a i) : Snd X c ea G W a (.frz i) := by
  refine PE.mono ha fun σ H Q ⟨z, ι, S, env, s, e, p⟩ => ?_
  refine ⟨z, ι, S, env, s, e, Post.bind p fun x S1 vx ι1 H1 st s1 r1 p1 => ?_⟩
  unfold freeze at p1
  cases x with
  | ref n =>
    simp only at p1
    cases hS : S1[n]? with
    | none => rw [hS] at p1; exact p1.elim
    | some o =>
      cases o with
      | lst xs =>
        rw [hS] at p1
        obtain ⟨a, vs, rfl, q1, q2, q3⟩ := lst_at s1 r1 hS
        refine p1.to step_dead s1.dead ⟨a, vs, rfl, q2, ⟨fun l => ?_, fun hz => (s1.zed a hz).2 ⟨n, _, q1, hS, by simp⟩⟩, RVs.step s1 step_dead _ _ q3⟩
        obtain ⟨m, o, h1, h2, h3⟩ := l
        by_cases hm : m = n
        · subst hm
          rw [List.getElem?_set_self (List.getElem?_eq_some_iff.mp hS).1] at h2
          cases h2; exact h3 rfl
        · rw [List.getElem?_set_ne (Ne.symm hm)] at h2
          exact hm (s1.inj m n a _ _ h1 q1 h2 h3 hS (by simp))
      | _ => rw [hS] at p1; exact p1.elim
  | _ => exact p1.elim
/-! a dict's display -/
theorem disp_t {σ : L2.St} {env : Env} {z : List Addr} : ∀ (ks : List Str) (is : List E) {ι : List Addr} {S : Sto} {H : Hp} {Q1 : List (V × V) → Hp → Prop}, ks.length = is.length → SR (c.at z) ι S H → EnvR (c.at z) ι S H env σ →
    PostA (c.at z) ι S H (evEs G is env S) (fun k H' => W (.ref (ea k)) none H') (fun vs H' => Q1 ((ks.map V.str).zip vs) H') → tPairs ((ks.zip is).map fun p => (tC (.str p.1), tEv c ea G W p.2)) σ H Q1
  | [], [], ι, S, H, Q1, _, s, e, p => p.ret s (v := []) trivial
  | [], _ :: _, _, _, _, _, h, _, _, _ => by cases h
  | _ :: _, [], _, _, _, _, h, _, _, _ => by cases h
  | k :: ks, i :: is, ι, S, H, Q1, h, s, e, p => by
    show tEv c ea G W i σ H _
    refine ⟨z, ι, S, env, s, e, Post.bind p fun d S1 v ι1 H1 st s1 r1 p1 => ?_⟩
    refine disp_t ks is (by simpa using h) s1 (e.step s st) ?_
    refine Post.bind p1 fun ds S2 vs ι2 H2 st2 s2 r2 p2 => ?_
    exact p2.ret s2 (v := v :: vs) ⟨RV.step s1 st2 _ _ r1, r2⟩
theorem disp_rk : ∀ {ks : List Str} {ds : List D} {vs : List V} {acc : List (Key × D)} {accv : List (Key × V)}, RVs c ι S H ds vs → RKs c ι S H acc accv →
    RKs c ι S H ((ks.zip ds).foldl (fun acc p => Y.putK (.inr p.1) p.2 acc) acc) (mergeK accv ((ks.zip vs).map fun p => (Sum.inr p.1, p.2)))
  | [], ds, vs, acc, accv, r, h => h
  | k :: ks, [], [], acc, accv, r, h => h
  | _ :: _, [], _ :: _, _, _, r, _ => r.elim
  | _ :: _, _ :: _, [], _, _, r, _ => r.elim
  | k :: ks, d :: ds, v :: vs, acc, accv, r, h => by
    simp only [List.zip_cons_cons, List.foldl_cons, List.map_cons]
    exact disp_rk (ks := ks) (accv := L2.putK accv (.inr k) v) r.2 (rk_put r.1 h)
theorem zip_kv : ∀ (ks : List Str) (vs : List V), (ks.map V.str).zip vs = (((ks.zip vs).map fun p => ((Sum.inr p.1, p.2) : Key × V)).map fun kv => (kV kv.1, kv.2))
  | [], _ => rfl
  | _ :: _, [] => rfl
  | k :: ks, v :: vs => by
    simp only [List.map_cons, List.zip_cons_cons]
    rw [zip_kv ks vs] <;> rfl
theorem sd_newD {keys : List (Option Expr)} {vals : List Expr} {ks : List Str} {is : List E} {pos : Pos} (hp : PPs X pos keys vals ((ks.zip is).map fun p => (tC (.str p.1), tEv c ea G W p.2))) (hall : keys.all (·.isSome) = true) (hl : keys.length = vals.length) (h0 : keys ≠ []) (h15 : keys.length ≤ 15) (hk : ks.length = is.length) (hk15 : ks.length ≤ 15) : Snd X c ea G W (.Dict keys vals pos) (.newD ks is) := by
  refine PE.mono (pe_disp hp hall hl h0 h15) fun σ H Q ⟨z, ι, S, env, s, e, p⟩ q hq => ?_
  have st0 := step_newO (o := .dK []) (u := .dic []) s hq
  have s0 := s.newO (o := .dK []) (u := .dic []) hq ⟨[], upd_same, trivial⟩
  refine disp_t ks is hk s0 (e.step s st0) ?_
  refine Post.bind (Post.step p st0) fun ds S2 vs ι2 H2 st2 s2 r2 p2 => ?_
  have hq2 : ι2[S.length]? = some q := by obtain ⟨r, rfl⟩ := st2.pre; exact get_pre (snoc_get s.len q) r
  cases hS : S2[S.length]? with
  | none => rw [hS] at p2; exact p2.elim
  | some o =>
    cases o with
    | dic kvs =>
      cases kvs with
      | nil =>
        rw [hS] at p2
        obtain ⟨ws, w1, w2⟩ := s2.obj _ _ _ hq2 hS
        cases ws with
        | cons _ _ => exact w2.elim
        | nil =>
          obtain ⟨st3, s3⟩ := set_dic s2 hq2 hS (disp_rk (ks := ks) (acc := []) (accv := []) r2 trivial)
          refine ⟨w1, _, zip_kv ks vs, ?_, p2.to st3 s3 ⟨q, rfl, hq2⟩⟩
          simp only [List.length_map, List.length_zip]; omega
      | cons _ _ => rw [hS] at p2; exact p2.elim
    | _ => rw [hS] at p2; exact p2.elim
theorem sd_newD0 {pos : Pos} : Snd X c ea G W (.Dict [] [] pos) (.newD [] []) := by
  refine PE.mono pe_dnewK fun σ H Q ⟨z, ι, S, env, s, e, p⟩ q hq => ?_
  have st0 := step_newO (o := .dK []) (u := .dic []) s hq
  have s0 := s.newO (o := .dK []) (u := .dic []) hq ⟨[], upd_same, trivial⟩
  simp only [evE, evEs, R.bind_ok] at p
  have hS : (S ++ [O.dic []])[S.length]? = some (.dic []) := by simp
  rw [hS] at p
  have hset : (S ++ [O.dic []]).set S.length (.dic (dispK (List.zip [] []))) = S ++ [O.dic []] := by simp [dispK]
  simp only at p
  rw [hset] at p
  exact p.to st0 s0 ⟨q, rfl, snoc_get s.len q⟩
end
end Y

end

section
set_option Elab.async false
set_option linter.all false
set_option maxRecDepth 100000
set_option maxHeartbeats 1000000
namespace Y
open PySem L2 PyProof.Rows
section
variable {X : Cx} {c : Cfg} {ea : Nat → Addr} {G : Rules} {W : XK} {ι : List Addr} {S : Sto} {H : Hp}
/-! ### what is walked -/
theorem len_two {α : Type} {l : List α} (h : l.length = 2) : ∃ a b, l = [a, b] := by
  match l, h with
  | [a, b], _ => exact ⟨a, b, rfl⟩
theorem len_three {α : Type} {l : List α} (h : l.length = 3) : ∃ a b d, l = [a, b, d] := by
  match l, h with
  | [a, b, d], _ => exact ⟨a, b, d, rfl⟩
/-- J gives its, one by one, whatever goes on -/
def SrcW (c : Cfg) (ι : List Addr) (S : Sto) (H : Hp) (its : List D) (J : It) : Prop :=
  its.length ≤ sizeLine ∧ ∃ (Gd : Hp → Prop) (Y : Nat → Hp → V → Hp → Prop), Walk J its.length Gd Y ∧ (∀ ι' S' H', Step ι S H ι' S' H' → Gd H') ∧
    ∀ z ι' S' H' (i : Nat) x H'' d, Step ι S H ι' S' H' → SR (c.at z) ι' S' H' → (∀ d v, RV c ι S H d v → RV (c.at z) ι' S' H' d v) → its[i]? = some d → Y i H' x H'' → Step ι' S' H' ι' S' H'' ∧ SR (c.at z) ι' S' H'' ∧ RV (c.at z) ι' S' H'' d x
theorem sw_list (s : SR c ι S H) {a : Addr} {vs : List V} {xs : List D} (hz : vs.length ≤ sizeLine) (h : H a = some (.lst vs)) (n : ¬ Live ι S a) (r : RVs c ι S H xs vs) : SrcW c ι S H xs (Itl c.K a) := by
  refine ⟨by rw [r.length]; exact hz, _, _, by rw [r.length]; exact walk_list (K := c.K) (xs := vs), fun ι' S' H' st => Or.inl (Or.inl (st.keep _ _ h n (fun _ z => nomatch z))), ?_⟩
  intro z ι' S' H' i x H'' d st s' lift hd hy
  obtain ⟨rfl, hx⟩ := hy
  obtain ⟨v, h1, h2⟩ := r.get hd
  rw [h1] at hx; cases hx
  exact ⟨Step.refl, s', lift _ _ h2⟩
theorem sw_tup (s : SR c ι S H) {a : Addr} {vs : List V} {xs : List D} (hz : vs.length ≤ sizeLine) (h : SqT c.K H a vs) (r : RVs c ι S H xs vs) : SrcW c ι S H xs (Itt c.K a) := by
  refine ⟨by rw [r.length]; exact hz, _, _, by rw [r.length]; exact walk_tup (K := c.K) (xs := vs), fun ι' S' H' st => SqT.stepR s st h, ?_⟩
  intro z ι' S' H' i x H'' d st s' lift hd hy
  obtain ⟨rfl, hx⟩ := hy
  obtain ⟨v, h1, h2⟩ := r.get hd
  rw [h1] at hx; cases hx
  exact ⟨Step.refl, s', lift _ _ h2⟩
theorem sw_range {lo : Int} {n : Nat} (hn : n ≤ cap) : SrcW c ι S H ((List.range n).map fun (i : Nat) => .int (lo + i)) (Itr lo n) := by
  have hl : ((List.range n).map fun (i : Nat) => D.int (lo + i)).length = n := by simp
  refine ⟨by rw [hl]; exact line_of hn, _, _, by rw [hl]; exact walk_range, fun _ _ _ _ => trivial, ?_⟩
  intro z ι' S' H' i x H'' d st s' lift hd hy
  obtain ⟨rfl, rfl⟩ := hy
  rw [List.getElem?_map] at hd
  cases hr : (List.range n)[i]? with
  | none => rw [hr] at hd; cases hd
  | some k =>
    rw [hr] at hd
    have hk : k = i := by
      obtain ⟨h1, h2⟩ := List.getElem?_eq_some_iff.mp hr
      simpa using h2.symm
    cases hd
    subst hk
    exact ⟨Step.refl, s', rfl⟩
theorem sw_rangeC {lo k : Int} {n : Nat} (hn : n ≤ cap) : SrcW c ι S H ((List.range n).map fun (i : Nat) => .int (lo + i * k)) (Itc lo k n) := by
  have hl : ((List.range n).map fun (i : Nat) => D.int (lo + i * k)).length = n := by simp
  refine ⟨by rw [hl]; exact line_of hn, _, _, by rw [hl]; exact walk_rangeC, fun _ _ _ _ => trivial, ?_⟩
  intro z ι' S' H' i x H'' d st s' lift hd hy
  obtain ⟨rfl, rfl⟩ := hy
  rw [List.getElem?_map] at hd
  cases hr : (List.range n)[i]? with
  | none => rw [hr] at hd; cases hd
  | some j =>
    rw [hr] at hd
    have hk : j = i := by
      obtain ⟨h1, h2⟩ := List.getElem?_eq_some_iff.mp hr
      simpa using h2.symm
    cases hd
    subst hk
    exact ⟨Step.refl, s', rfl⟩
theorem pair_new {z : List Addr} {ι' : List Addr} {S' : Sto} {H' : Hp} {T : Addr} {x y : V} {dx dy : D} (s : SR (c.at z) ι' S' H') (hT : H' T = none) (rx : RV (c.at z) ι' S' H' dx x) (ry : RV (c.at z) ι' S' H' dy y) :
    Step ι' S' H' ι' S' (upd H' T (.tup [x, y])) ∧ SR (c.at z) ι' S' (upd H' T (.tup [x, y])) ∧ RV (c.at z) ι' S' (upd H' T (.tup [x, y])) (.tup [dx, dy]) (.ref T) :=
  ⟨step_new hT, s.new hT, T, _, rfl, .inl (.inl upd_same), RV.step s (step_new hT) _ _ rx, RV.step s (step_new hT) _ _ ry, trivial⟩
theorem zip_get {α β : Type} {xs : List α} {ys : List β} {i : Nat} {p : α × β} (h : (xs.zip ys)[i]? = some p) : xs[i]? = some p.1 ∧ ys[i]? = some p.2 := by
  rw [List.getElem?_zip_eq_some] at h; exact h
theorem sw_enum (s : SR c ι S H) {a : Addr} {vs : List V} {xs : List D} (hz : vs.length ≤ sizeLine) (h : H a = some (.lst vs)) (n : ¬ Live ι S a) (r : RVs c ι S H xs vs) : SrcW c ι S H ((List.range xs.length).zip xs |>.map fun p => .tup [.int (p.1 : Nat), p.2]) (Ite c.K a) := by
  have hl : ((List.range xs.length).zip xs |>.map fun p => D.tup [.int (p.1 : Nat), p.2]).length = vs.length := by simp [r.length]
  refine ⟨by rw [hl]; exact hz, _, _, by rw [hl]; exact walk_enum (K := c.K) (xs := vs), fun ι' S' H' st => Or.inl (Or.inl (st.keep _ _ h n (fun _ z => nomatch z))), ?_⟩
  intro z ι' S' H' i x H'' d st s' lift hd hy
  rw [List.getElem?_map] at hd
  cases hp : ((List.range xs.length).zip xs)[i]? with
  | none => rw [hp] at hd; cases hd
  | some p =>
    rw [hp] at hd
    cases hd
    obtain ⟨h1, h2⟩ := zip_get hp
    have hk : p.1 = i := by
      obtain ⟨_, h⟩ := List.getElem?_eq_some_iff.mp h1
      simpa using h.symm
    obtain ⟨T, u, w, rfl, hT, rfl, e1, e2⟩ := hy
    cases e1
    obtain ⟨v, w1, w2⟩ := r.get h2
    have e2 : vs[i]? = some w := e2
    rw [w1] at e2; cases e2
    simp only [hk]
    exact pair_new s' hT rfl (lift _ _ w2)
theorem sw_zip (s : SR c ι S H) {a b : Addr} {vs us : List V} {xs ys : List D} (hz : vs.length ≤ sizeLine) (h : H a = some (.lst vs)) (n : ¬ Live ι S a) (r : RVs c ι S H xs vs) (h' : H b = some (.lst us)) (n' : ¬ Live ι S b) (r' : RVs c ι S H ys us) : SrcW c ι S H ((xs.zip ys).map fun p => .tup [p.1, p.2]) (Itz c.K a b) := by
  have hl : ((xs.zip ys).map fun p => D.tup [p.1, p.2]).length = min vs.length us.length := by simp [r.length, r'.length]
  refine ⟨by rw [hl]; omega, _, _, by rw [hl]; exact walk_zip (K := c.K) (xs := vs) (ys := us) rfl, fun ι' S' H' st => And.intro (Or.inl (Or.inl (st.keep _ _ h n (fun _ z => nomatch z)))) (Or.inl (Or.inl (st.keep _ _ h' n' (fun _ z => nomatch z)))), ?_⟩
  intro z ι' S' H' i x H'' d st s' lift hd hy
  rw [List.getElem?_map] at hd
  cases hp : (xs.zip ys)[i]? with
  | none => rw [hp] at hd; cases hd
  | some p =>
    rw [hp] at hd
    cases hd
    obtain ⟨h1, h2⟩ := zip_get hp
    obtain ⟨T, u, w, rfl, hT, rfl, e1, e2⟩ := hy
    obtain ⟨v, w1, w2⟩ := r.get h1
    have e1 : vs[i]? = some u := e1
    have e2 : us[i]? = some w := e2
    rw [w1] at e1; cases e1
    obtain ⟨v', w1', w2'⟩ := r'.get h2
    rw [w1'] at e2; cases e2
    exact pair_new s' hT (lift _ _ w2) (lift _ _ w2')
theorem walk_zipT {K : PySem.W.Frag} {a b : Addr} {xs ys : List V} {n : Nat} (hn : n = min xs.length ys.length) : Walk (RZ.ItzT K a b) n (fun H => SqT K H a xs ∧ SqT K H b ys) (YPair (fun i => xs[i]?) (fun i => ys[i]?)) := by
  subst hn
  refine ⟨fun i _ hi q => ?_, fun _ q => ⟨xs, ys, q.1, q.2, by omega⟩, fun i H v H' _ q y => ?_⟩
  · have h1 : i < xs.length := by omega
    have h2 : i < ys.length := by omega
    exact ⟨xs, ys, xs[i], ys[i], q.1, q.2, by simp [h1], by simp [h2]⟩
  · obtain ⟨T, x, z, h1, h2, h3, h4, h5⟩ := y
    exact ⟨T, x, z, h1, h2, h3, h4 xs q.1, h5 ys q.2⟩
theorem sw_zipT (s : SR c ι S H) {a b : Addr} {vs us : List V} {xs ys : List D} (hz : vs.length ≤ sizeLine) (h : SqT c.K H a vs) (r : RVs c ι S H xs vs) (h' : SqT c.K H b us) (r' : RVs c ι S H ys us) : SrcW c ι S H ((xs.zip ys).map fun p => .tup [p.1, p.2]) (RZ.ItzT c.K a b) := by
  have hl : ((xs.zip ys).map fun p => D.tup [p.1, p.2]).length = min vs.length us.length := by simp [r.length, r'.length]
  refine ⟨by rw [hl]; omega, _, _, by rw [hl]; exact walk_zipT (K := c.K) (xs := vs) (ys := us) rfl, fun ι' S' H' st => And.intro (SqT.stepR s st h) (SqT.stepR s st h'), ?_⟩
  intro z ι' S' H' i x H'' d st s' lift hd hy
  rw [List.getElem?_map] at hd
  cases hp : (xs.zip ys)[i]? with
  | none => rw [hp] at hd; cases hd
  | some p =>
    rw [hp] at hd
    cases hd
    obtain ⟨h1, h2⟩ := zip_get hp
    obtain ⟨T, u, w, rfl, hT, rfl, e1, e2⟩ := hy
    obtain ⟨v, w1, w2⟩ := r.get h1
    have e1 : vs[i]? = some u := e1
    have e2 : us[i]? = some w := e2
    rw [w1] at e1; cases e1
    obtain ⟨v', w1', w2'⟩ := r'.get h2
    rw [w1'] at e2; cases e2
    exact pair_new s' hT (lift _ _ w2) (lift _ _ w2')
theorem sw_str {x : Str} (hz : x.cps.size ≤ sizeLine) : SrcW c ι S H (x.cps.toList.map fun k => .str ⟨#[k]⟩) (Its x) := by
  have hl : (x.cps.toList.map fun k => D.str ⟨#[k]⟩).length = x.cps.size := by simp
  refine ⟨by rw [hl]; exact hz, _, _, by rw [hl]; exact walk_str, fun _ _ _ _ => trivial, ?_⟩
  intro z ι' S' H' i v H'' d st s' lift hd hy
  obtain ⟨rfl, k, h1, rfl⟩ := hy
  rw [List.getElem?_map, Array.getElem?_toList, h1] at hd
  cases hd
  exact ⟨Step.refl, s', rfl⟩
/-- lists and tuples have their size -/
def HSz (K : PySem.W.Frag) (H : Hp) : Prop := (∀ a xs, SqL K H a xs → xs.length ≤ sizeLine) ∧ ∀ a xs, SqT K H a xs → xs.length ≤ sizeLine
theorem PI.sized {tg e : Expr} {wi : TI} (h : PI X tg e wi) : PI X tg e (fun σ H R => wi σ H fun J H1 => HSz X.K H1 → R J H1) := by
  refine ⟨fun pins s σ H R I q => ?_⟩
  refine thn (h.run pins s σ H _ I q) fun v s1 h1 => thn h1 fun itv s2 h2 => ?_
  obtain ⟨it, fp, tn, J, H2, e, I2, T, st2, f2, r⟩ := h2
  refine ⟨it, fp, tn, J, H2, e, I2, T, st2, f2, r ⟨fun a xs q => ?_, fun a xs q => ?_⟩⟩
  · obtain ⟨_, _, _, hz⟩ := I2.list q; exact hz
  · obtain ⟨_, _, _, hz⟩ := I2.tuple q; exact hz
theorem PI.mono {tg e : Expr} {t t' : TI} (h : PI X tg e t) (k : ∀ σ H R, t' σ H R → t σ H R) : PI X tg e t' := ⟨fun pins s σ H R I q => h.run pins s σ H R I (k σ H R q)⟩
/-- the reading of what a for walks -/
def iSrc (c : Cfg) (ea : Nat → Addr) (G : Rules) (W : XK) (k : SrcK) (is : List E) : TI := fun σ H R => ∃ z ι S env, SR (c.at z) ι S H ∧ EnvR (c.at z) ι S H env σ ∧
  Post (c.at z) (fun ι S H => SrcW (c.at z) ι S H) ι S H ((evEs G is env S).bind fun ds S => opt (items S k ds) S) (fun k H' => W (.ref (ea k)) none H') R
abbrev SndI (X : Cx) (c : Cfg) (ea : Nat → Addr) (G : Rules) (W : XK) (tg e : Expr) (k : SrcK) (is : List E) : Prop := PI X tg e (iSrc c ea G W k is)
theorem PI.or {tg e : Expr} {t t' : TI} (h : PI X tg e t) (h' : PI X tg e t') : PI X tg e (fun σ H R => t σ H R ∨ t' σ H R) := ⟨fun pins s σ H R I q => q.elim (h.run pins s σ H R I) (h'.run pins s σ H R I)⟩
/-- one thing, walked as it stands: a list or a tuple -/
theorem one_run {i : E} {env : Env} {k : SrcK} {E : Nat → Hp → Prop} {R : It → Hp → Prop} {z : List Addr} (p : Post (c.at z) (fun ι S H => SrcW (c.at z) ι S H) ι S H ((evEs G [i] env S).bind fun ds S => opt (items S k ds) S) E R) :
    Post (c.at z) (fun ι S H => SrcW (c.at z) ι S H) ι S H ((evE G i env S).bind fun d S => opt (items S k [d]) S) E R := by
  simp only [evEs] at p
  cases h : evE G i env S with
  | bad => rw [h] at p; exact p
  | exc _ _ => rw [h] at p; exact p
  | ok d S' => rw [h] at p; exact p
theorem si_seq {tg e : Expr} {i : E} (hK : X.K = c.K) (h : Snd X c ea G W e i) : SndI X c ea G W tg e .seq [i] := by
  refine PI.mono (PI.or (PI.sized (pi_list h)) (PI.sized (pi_tup h))) fun σ H R ⟨z, ι, S, env, s, e, p⟩ => ?_
  have p := one_run p
  cases hr : evE G i env S with
  | bad => rw [hr] at p; exact p.elim
  | exc k S' =>
    rw [hr] at p
    exact .inl ⟨z, ι, S, env, s, e, by rw [hr]; exact p⟩
  | ok d S' =>
    rw [hr] at p
    simp only [Y.R.bind_ok] at p
    obtain ⟨its, h1, p⟩ := Post.opt p
    cases d <;> simp only [items, reduceCtorEq, Option.some.injEq] at h1
    · subst h1
      refine .inr ⟨z, ι, S, env, s, e, ?_⟩
      rw [hr]
      intro v ι1 H1 st s1 r1
      obtain ⟨a, vs, rfl, q, rs⟩ := r1
      refine ⟨a, rfl, ⟨vs, by rw [hK]; exact q⟩, fun hz => ?_⟩
      rw [hK]
      exact (Post.step p st).ret s1 (sw_tup s1 (hz.2 a vs (by rw [hK]; exact q)) q rs)
    · subst h1
      refine .inl ⟨z, ι, S, env, s, e, ?_⟩
      rw [hr]
      intro v ι1 H1 st s1 r1
      obtain ⟨a, vs, rfl, q, n, rs⟩ := r1
      refine ⟨a, rfl, ⟨vs, .inl (.inl q)⟩, fun hz => ?_⟩
      rw [hK]
      exact (Post.step p st).ret s1 (sw_list s1 (hz.1 a vs (.inl (.inl q))) q n.1 rs)
theorem si_str {tg e : Expr} {i : E} (h : Snd X c ea G W e i) : SndI X c ea G W tg e .signs [i] := by
  refine PI.mono (pi_str h) fun σ H R ⟨z, ι, S, env, s, e, p⟩ => ?_
  have p := one_run p
  refine ⟨z, ι, S, env, s, e, Post.bind p fun d S1 v ι1 H1 st s1 r1 p1 => ?_⟩
  obtain ⟨its, h1, p2⟩ := Post.opt p1
  cases d <;> simp only [items, reduceCtorEq] at h1
  split at h1
  · rename_i x hz
    cases h1
    obtain rfl : v = .str x := r1
    exact ⟨x, rfl, p2.ret s1 (sw_str (line_of hz))⟩
  · cases h1
theorem si_rng1 {tg a : Expr} {i : E} {p pos : Pos} (hg : Gl X "range") (hm : X.mg "range" = none) (h : Snd X c ea G W a i) (hs : noStar a = true) : SndI X c ea G W tg (.Call (.Name "range" p) [a] [] pos) .rng [i] := by
  refine PI.mono (pi_range1 hg hm (sa_cons h sa_nil (star_cons hs)) (star_cons hs)) fun σ H R ⟨z, ι, S, env, s, e, p⟩ => ?_
  refine ⟨z, ι, S, env, s, e, Post.args p fun ds S1 vs ι1 H1 hn st s1 r1 p1 => ?_⟩
  obtain ⟨d, rfl⟩ := List.length_eq_one_iff.mp hn
  obtain ⟨v, rfl, r⟩ := rv1 r1
  obtain ⟨its, h1, p2⟩ := Post.opt p1
  cases d <;> simp only [items, reduceCtorEq] at h1
  rename_i n
  split at h1
  · rename_i hc
    cases h1
    obtain rfl : v = .int n := r
    simp only [Bool.and_eq_true, decide_eq_true_eq] at hc
    have hc1 := hc.1
    have hc2 := hc.2
    unfold cap at hc2
    refine ⟨n, rfl, by omega, by omega, p2.ret s1 ?_⟩
    have := sw_range (c := c.at z) (ι := ι1) (S := S1) (H := H1) (lo := 0) (n := n.toNat) (by unfold cap; omega)
    simpa using this
  · cases h1
theorem si_rng2 {tg a b : Expr} {i j : E} {p pos : Pos} (hg : Gl X "range") (hm : X.mg "range" = none) (h : Snd X c ea G W a i) (h' : Snd X c ea G W b j) (hs : noStar a = true) (hs' : noStar b = true) : SndI X c ea G W tg (.Call (.Name "range" p) [a, b] [] pos) .rng [i, j] := by
  refine PI.mono (pi_range2 hg hm (sa_cons h (sa_cons h' sa_nil (star_cons hs')) (star_cons hs)) (by rw [star_cons hs, star_cons hs'] <;> rfl) (star_cons hs')) fun σ H R ⟨z, ι, S, env, s, e, p⟩ => ?_
  refine ⟨z, ι, S, env, s, e, Post.args p fun ds S1 vs ι1 H1 hn st s1 r1 p1 => ?_⟩
  obtain ⟨d, d', rfl⟩ := len_two hn
  obtain ⟨v, u, rfl, r, r'⟩ := rv2 r1
  obtain ⟨its, h1, p2⟩ := Post.opt p1
  cases d <;> cases d' <;> simp only [items, reduceCtorEq] at h1
  rename_i n m
  split at h1
  · rename_i hc
    cases h1
    obtain rfl : v = .int n := r
    obtain rfl : u = .int m := r'
    simp only [Bool.and_eq_true, decide_eq_true_eq] at hc
    obtain ⟨⟨h1, h2⟩, h3⟩ := hc
    unfold cap at h1
    exact ⟨n, m, rfl, ⟨by omega, by omega, by omega, by omega⟩, p2.ret s1 (sw_range (by unfold cap; omega))⟩
  · cases h1
theorem rgC_of {a b k : Int} (h0 : 0 ≤ a) (h1 : b ≤ 1000000) (h2 : 0 < k) (h3 : k ≤ 1000000) (h4 : a ≤ b) : RgC a b k ((b - a + k - 1) / k).toNat := by
  have hs : Builtin.Range.rangeSize a b k = (((b - a + k - 1) / k).toNat : Int) := by
    unfold Builtin.Range.rangeSize
    rw [if_pos (show k > 0 from h2)]
    have e : b - a + k - 1 = (b - a - 1) + k := by omega
    have e2 : (b - a - 1 + k) / k = (b - a - 1) / k + 1 := by
      rw [Int.add_ediv_of_dvd_right (Int.dvd_refl k), Int.ediv_self (by omega)]
    split
    · have h6 : (0 : Int) ≤ (b - a - 1) / k := Int.ediv_nonneg (by omega) (by omega)
      rw [e, e2]; omega
    · have : b = a := by omega
      subst this
      have : (b - b + k - 1) / k = 0 := by rw [Int.sub_self, Int.zero_add]; exact Int.ediv_eq_zero_of_lt (by omega) (by omega)
      rw [this]; rfl
  refine ⟨by omega, by omega, ?_, hs⟩
  have hn : ((b - a + k - 1) / k) ≤ b - a + k - 1 := Int.ediv_le_self _ (by omega)
  have h6 : (0 : Int) ≤ (b - a + k - 1) / k := Int.ediv_nonneg (by omega) (by omega)
  unfold Builtin.Range.small
  rw [hs]
  simp only [Builtin.Range.rangeFitsLong, Bool.and_eq_true, Bool.or_eq_true, decide_eq_true_eq, beq_iff_eq]
  generalize (b - a + k - 1) / k = r at hn h6
  rw [if_pos (show k > 0 from h2)]
  simp only [Bool.and_eq_true, decide_eq_true_eq]
  omega
theorem si_rng3 {tg a b d : Expr} {i j k : E} {p pos : Pos} (hg : Gl X "range") (hm : X.mg "range" = none) (h : Snd X c ea G W a i) (h' : Snd X c ea G W b j) (h'' : Snd X c ea G W d k) (hs : noStar a = true) (hs' : noStar b = true) (hs'' : noStar d = true) : SndI X c ea G W tg (.Call (.Name "range" p) [a, b, d] [] pos) .rng [i, j, k] := by
  refine PI.mono (pi_range3 hg hm (sa_cons h (sa_cons h' (sa_cons h'' sa_nil (star_cons hs'')) (star_cons hs')) (star_cons hs)) (star_cons hs) (star_any (by simp [hs', hs'']))) fun σ H R ⟨z, ι, S, env, s, e, p⟩ => ?_
  refine ⟨z, ι, S, env, s, e, Post.args p fun ds S1 vs ι1 H1 hn st s1 r1 p1 => ?_⟩
  obtain ⟨d, d', d'', rfl⟩ := len_three hn
  obtain ⟨its, h1, p2⟩ := Post.opt p1
  cases d <;> cases d' <;> cases d'' <;> simp only [items, reduceCtorEq] at h1
  rename_i n m l
  split at h1
  · rename_i hc
    cases h1
    have e : vs = [.int n, .int m, .int l] := RVs.ints (ns := [n, m, l]) r1
    subst e
    simp only [Bool.and_eq_true, decide_eq_true_eq] at hc
    obtain ⟨⟨⟨h1, h2⟩, h3⟩, h5⟩ := hc
    unfold cap at h2
    refine ⟨n, m, l, _, rfl, rgC_of h1 (by omega) h3 (by omega) h5, p2.ret s1 (sw_rangeC ?_)⟩
    have : (m - n + l - 1) / l ≤ m - n + l - 1 := Int.ediv_le_self _ (by omega)
    unfold cap
    have h6 : (0 : Int) ≤ (m - n + l - 1) / l := Int.ediv_nonneg (by omega) (by omega)
    have h7 : (m - n + l - 1) / l ≤ 1000000 := by omega
    generalize (m - n + l - 1) / l = r at h6 h7
    omega
  · cases h1
theorem si_enum {a : Expr} {elts : List Expr} {i : E} {kk : Nat} {p pos tpos : Pos} (hK : X.K = c.K) (hg : Gl X "enumerate") (hm : X.mg "enumerate" = none) (h : Snd X c ea G W a i) (hs : noStar a = true) : SndI X c ea G W (.Tuple elts kk tpos) (.Call (.Name "enumerate" p) [a] [] pos) .enum [i] := by
  refine PI.mono (PI.sized (pi_enum hg hm (sa_cons h sa_nil (star_cons hs)) (star_cons hs))) fun σ H R ⟨z, ι, S, env, s, e, p⟩ => ?_
  refine ⟨z, ι, S, env, s, e, Post.args p fun ds S1 vs ι1 H1 hn st s1 r1 p1 => ?_⟩
  obtain ⟨d, rfl⟩ := List.length_eq_one_iff.mp hn
  obtain ⟨v, rfl, r⟩ := rv1 r1
  obtain ⟨its, h1, p2⟩ := Post.opt p1
  cases d <;> simp only [items, reduceCtorEq, Option.some.injEq] at h1
  subst h1
  obtain ⟨a, vs, rfl, q, n, rs⟩ := r
  refine ⟨a, vs, rfl, .inl (.inl q), fun hz => ?_⟩
  rw [hK]
  exact p2.ret s1 (sw_enum s1 (hz.1 a vs (.inl (.inl q))) q n.1 rs)
theorem si_zip {a b : Expr} {elts : List Expr} {i j : E} {kk : Nat} {p pos tpos : Pos} (hK : X.K = c.K) (hg : Gl X "zip") (hm : X.mg "zip" = none) (h : Snd X c ea G W a i) (h' : Snd X c ea G W b j) (hs : noStar a = true) (hs' : noStar b = true) : SndI X c ea G W (.Tuple elts kk tpos) (.Call (.Name "zip" p) [a, b] [] pos) .zip [i, j] := by
  refine PI.mono (PI.sized (RZ.pi_zipA hg hm (sa_cons h (sa_cons h' sa_nil (star_cons hs')) (star_cons hs)) (star_cons hs) (star_any (by simp [hs'])))) fun σ H R ⟨z, ι, S, env, s, e, p⟩ => ?_
  refine ⟨z, ι, S, env, s, e, Post.args p fun ds S1 vs ι1 H1 hn st s1 r1 p1 => ?_⟩
  obtain ⟨d, d', rfl⟩ := len_two hn
  obtain ⟨v, u, rfl, r, r'⟩ := rv2 r1
  obtain ⟨its, h1, p2⟩ := Post.opt p1
  cases d <;> cases d' <;> simp only [items, reduceCtorEq, Option.some.injEq] at h1
  · subst h1
    obtain ⟨a, vs, rfl, q, rs⟩ := r
    obtain ⟨b, us, rfl, q', rs'⟩ := r'
    refine ⟨a, b, vs, us, rfl, .inr ⟨by rw [hK]; exact q, by rw [hK]; exact q', fun hz => ?_⟩⟩
    rw [hK]
    exact p2.ret s1 (sw_zipT s1 (hz.2 a vs (by rw [hK]; exact q)) q rs q' rs')
  · subst h1
    obtain ⟨a, vs, rfl, q, n, rs⟩ := r
    obtain ⟨b, us, rfl, q', n', rs'⟩ := r'
    refine ⟨a, b, vs, us, rfl, .inl ⟨.inl (.inl q), .inl (.inl q'), fun hz => ?_⟩⟩
    rw [hK]
    exact p2.ret s1 (sw_zip s1 (hz.1 a vs (.inl (.inl q))) q n.1 rs q' n'.1 rs')
end
end Y

end

section
set_option Elab.async false
set_option linter.all false
set_option maxRecDepth 100000
set_option maxHeartbeats 1000000
namespace Y
open PySem L2 PyProof.Rows
section
variable {X : Cx} {c : Cfg} {ea : Nat → Addr} {G : Rules} {W : XK} {ι ι' : List Addr} {S S' : Sto} {H H' : Hp}
/-! ### slots -/
theorem get_put : ∀ (env : Env) (i j : Nat) (d : D), (env.put i d).get j = if j = i ∧ i < env.length then some d else env.get j
  | [], i, j, d => by simp [Env.put, Env.get]
  | x :: r, 0, 0, d => by simp [Env.put, Env.get]
  | x :: r, 0, j + 1, d => by simp [Env.put, Env.get]
  | x :: r, i + 1, 0, d => by simp [Env.put, Env.get]
  | x :: r, i + 1, j + 1, d => by
    simp only [Env.put, Env.get, get_put r i j d, List.length_cons]
    by_cases h : j = i ∧ i < r.length
    · rw [if_pos h, if_pos (by omega)]
    · rw [if_neg h, if_neg (by omega)]
theorem put_len : ∀ (env : Env) (i : Nat) (d : D), (env.put i d).length = env.length
  | [], _, _ => rfl
  | _ :: _, 0, _ => rfl
  | x :: r, i + 1, d => by simp [Env.put, put_len r i d]
theorem get_wipe : ∀ (env : Env) (i j : Nat), (env.wipe i).get j = if j = i then none else env.get j
  | [], i, j => by simp [Env.wipe, Env.get]
  | x :: r, 0, 0 => by simp [Env.wipe, Env.get]
  | x :: r, 0, j + 1 => by simp [Env.wipe, Env.get]
  | x :: r, i + 1, 0 => by simp [Env.wipe, Env.get]
  | x :: r, i + 1, j + 1 => by
    simp only [Env.wipe, Env.get, get_wipe r i j]
    by_cases h : j = i
    · rw [if_pos h, if_pos (by omega)]
    · rw [if_neg h, if_neg (by omega)]
theorem wipe_len : ∀ (env : Env) (i : Nat), (env.wipe i).length = env.length
  | [], _ => rfl
  | _ :: _, 0 => rfl
  | x :: r, i + 1 => by simp [Env.wipe, wipe_len r i]
theorem EnvR.put {env : Env} {σ : L2.St} {i : Nat} {d : D} {v : V} (e : EnvR c ι S H env σ) (r : RV c ι S H d v) : EnvR c ι S H (env.put i d) (σ.set i (some v)) := by
  refine ⟨by rw [put_len, List.length_set]; exact e.1, fun j d' h => ?_⟩
  rw [get_put] at h
  split at h
  · rename_i hj
    cases h
    obtain ⟨rfl, hj⟩ := hj
    exact ⟨v, by rw [List.getElem?_set_self (by rw [← e.1]; exact hj)], r⟩
  · rename_i hj
    obtain ⟨v', h1, h2⟩ := e.2 j d' h
    have hlt : j < σ.length := (List.getElem?_eq_some_iff.mp h1).1
    by_cases hi : j = i
    · subst hi
      exact absurd ⟨rfl, by rw [e.1]; exact hlt⟩ hj
    · exact ⟨v', by rw [List.getElem?_set_ne (Ne.symm hi)]; exact h1, h2⟩
theorem EnvR.wipe {env : Env} {σ : L2.St} {i : Nat} (e : EnvR c ι S H env σ) : EnvR c ι S H (env.wipe i) (σ.set i none) := by
  refine ⟨by rw [wipe_len, List.length_set]; exact e.1, fun j d' h => ?_⟩
  rw [get_wipe] at h
  split at h
  · cases h
  · rename_i hj
    obtain ⟨v', h1, h2⟩ := e.2 j d' h
    exact ⟨v', by rw [List.getElem?_set_ne (Ne.symm hj)]; exact h1, h2⟩
theorem EnvR.wipes {env : Env} {σ : L2.St} (e : EnvR c ι S H env σ) : ∀ vs : List Nat, EnvR c ι S H (vs.foldr (fun i e => Env.wipe e i) env) (L2.wipe σ vs)
  | [] => e
  | v :: vs => (EnvR.wipes e vs).wipe
theorem wipe_get (σ : L2.St) (j : Nat) : ∀ vs : List Nat, (L2.wipe σ vs)[j]? = if j ∈ vs then (if j < σ.length then some none else none) else σ[j]?
  | [] => by simp [L2.wipe]
  | v :: vs => by
    unfold L2.wipe
    by_cases h : v = j
    · subst h
      by_cases hl : v < σ.length
      · rw [List.getElem?_set_self (by rw [wipe_length]; exact hl), if_pos (by simp), if_pos hl]
      · rw [List.getElem?_eq_none (by rw [List.length_set, wipe_length]; omega), if_pos (by simp), if_neg hl]
    · rw [List.getElem?_set_ne h, wipe_get σ j vs]
      have : (j ∈ v :: vs) ↔ j ∈ vs := by simp [Ne.symm h]
      simp only [this]
theorem wipe_set {σ : L2.St} {vs : List Nat} {i : Nat} {x : Option V} (h : i ∈ vs) : L2.wipe (σ.set i x) vs = L2.wipe σ vs := by
  apply List.ext_getElem?
  intro j
  rw [wipe_get, wipe_get, List.length_set]
  by_cases hj : j ∈ vs
  · rw [if_pos hj, if_pos hj]
  · rw [if_neg hj, if_neg hj, List.getElem?_set_ne (fun z => hj (by rw [← z]; exact h))]
theorem wipe_wipe {σ : L2.St} {vs : List Nat} : L2.wipe (L2.wipe σ vs) vs = L2.wipe σ vs := by
  apply List.ext_getElem?
  intro j
  rw [wipe_get, wipe_get, wipe_length]
  by_cases hj : j ∈ vs
  · rw [if_pos hj, if_pos hj]
  · rw [if_neg hj, if_neg hj]
/-! ### a turn's names -/
def gT (K : PySem.W.Frag) (tg : List Nat) (tp : Bool) : TG := match tp, tg with
  | false, [i] => gName i
  | true, [i, j] => gTup K 2 (gCons (gName i) (gCons (gName j) gNil))
  | _, _ => fun _ _ _ _ => False
theorem bind_t {tg : List Nat} {tp : Bool} {d : D} {v : V} {env env' : Env} {σ : L2.St} {Q : L2.St → Hp → Prop} (e : EnvR c ι S H env σ) (r : RV c ι S H d v) (h : bindT tg tp d env = some env')
    (k : ∀ σ', EnvR c ι S H env' σ' → (∀ vs : List Nat, (∀ i ∈ tg, i ∈ vs) → L2.wipe σ' vs = L2.wipe σ vs) → Q σ' H) : gT c.K tg tp v σ H Q := by
  unfold bindT at h
  split at h
  · cases h
    exact k _ (e.put r) fun vs hv => wipe_set (hv _ (by simp))
  · cases h
    obtain ⟨a, vs, rfl, q, rs⟩ := r
    obtain ⟨x, y, rfl, rx, ry⟩ := rv2 rs
    refine ⟨a, _, rfl, q, rfl, x, _, rfl, y, _, rfl, rfl, ?_⟩
    exact k _ ((e.put rx).put ry) fun vs hv => by rw [wipe_set (hv _ (by simp)), wipe_set (hv _ (by simp))]
  · cases h
/-! ### comprehensions -/
/-- one turn -/
def turnE (G : Rules) (tg : List Nat) (tp : Bool) (cond elt : E) (env : Env) (d : D) (S : Sto) : R (Option D) := match bindT tg tp d (tg.foldr (fun i e => e.wipe i) env) with
  | some env' => (evE G cond env' S).bind fun c S => (match c with
    | .bl true => (evE G elt env' S).bind fun x S => .ok (some x) S
    | .bl false => .ok none S
    | _ => .bad)
  | none => .bad
theorem bind_assoc {α β γ : Type} (r : R α) (f : α → Sto → R β) (g : β → Sto → R γ) : (r.bind f).bind g = r.bind fun a S => (f a S).bind g := by cases r <;> rfl
theorem PTs.mono {es : List Expr} {t t' : TT} (h : PTs X es t) (k : ∀ σ H Q, t' σ H Q → t σ H Q) : PTs X es t' := ⟨fun pins s σ H Q I q => h.run pins s σ H Q I (k σ H Q q)⟩
theorem sts_nil : PTs X [] (L2.tB (tEv c ea G W (.kon (.bl true)))) := PTs.mono pts_nil fun σ H Q ⟨z, ι, S, env, s, e, p⟩ => by
  obtain ⟨k, e, q⟩ := p.ret s (v := .bl true) rfl
  cases e; exact q
theorem sts_one {e : Expr} {i : E} (h : SndT X c ea G W e i) : PTs X [e] (L2.tB (tEv c ea G W i)) := pts_one h
/-- nothing is wished of exceptions -/
abbrev W0 : XK := fun _ _ _ => False
/-- the first of the turns -/
theorem comp_cons {turn : D → Sto → R (Option D)} {d : D} {ds : List D} {S : Sto} {γ : Type} {g : List D → Sto → R γ} : ((compL turn (d :: ds) S).calm).bind g = ((turn d S).calm).bind fun o S => ((compL turn ds S).calm).bind fun xs S => g (match o with | some x => x :: xs | none => xs) S := by
  simp only [compL]
  cases h : turn d S with
  | bad => rfl
  | exc _ _ => rfl
  | ok o S1 =>
    simp only [R.bind_ok, R.calm]
    cases h2 : compL turn ds S1 with
    | bad => rfl
    | exc _ _ => rfl
    | ok xs S2 => rfl
theorem calm_bind {α β : Type} {r : R α} {f : α → Sto → R β} : (r.bind f).calm = r.calm.bind fun a S => (f a S).calm := by cases r <;> rfl
/-- a run that lets nothing out, as one that wishes nothing -/
theorem Post.calm {α β γ δ : Type} {rel : List Addr → Sto → Hp → α → β → Prop} {rel' : List Addr → Sto → Hp → γ → δ → Prop} {c' : Cfg} {ι0 : List Addr} {S0 : Sto} {H0 : Hp} {r : R α} {f : α → Sto → R γ} {E : Nat → Hp → Prop} {Q : δ → Hp → Prop} {Q1 : β → Hp → Prop} (h : Post c' rel' ι0 S0 H0 (r.calm.bind f) E Q)
    (k : ∀ d S1 v ι1 H1, Step ι S H ι1 S1 H1 → SR c ι1 S1 H1 → rel ι1 S1 H1 d v → Post c' rel' ι0 S0 H0 (f d S1) E Q → Q1 v H1) : Post c rel ι S H r (fun _ _ => False) Q1 := by
  cases r with
  | ok d S' => exact fun v ι' H' x s q => k d S' v ι' H' x s q h
  | exc k S' => exact h.elim
  | bad => exact h
theorem drop_get {α : Type} {l : List α} {i : Nat} (h : i < l.length) : ∃ d, l[i]? = some d ∧ l.drop i = d :: l.drop (i + 1) := ⟨l[i], by simp [h], by rw [List.drop_eq_getElem_cons h]⟩
theorem comp_t {tg : List Nat} {tp : Bool} {k : SrcK} {src : List E} {cond elt : E} {σ : L2.St} {H : Hp} {Q : VK} (h : tEv c ea G W (.comp tg tp k src cond elt) σ H Q) : tLc (iSrc c ea G W k src) (gT c.K tg tp) (L2.tB (tEv c ea G W0 cond)) (tEv c ea G W0 elt) tg σ H Q := by
  obtain ⟨z, ι, S, env, s, e, p⟩ := h
  have p : PostV (c.at z) ι S H (((evEs G src env S).bind fun ds S => opt (items S k ds) S).bind fun its S => ((compL (turnE G tg tp cond elt env) its S).calm).bind fun xs S => .ok (.lst xs) S) (fun k H' => W (.ref (ea k)) none H') Q := by
    rw [bind_assoc]; exact p
  refine ⟨z, ι, S, env, s, e, Post.bind p fun its S1 J ι1 H1 st s1 sw p1 D hD => ?_⟩
  obtain ⟨hz, Gd, Yy, wk, hg, hy⟩ := sw
  have e1 := e.step s st
  have lift : ∀ {ι' S' H'}, Step ι1 S1 H1 ι' S' H' → ∀ d v, RV (c.at z) ι1 S1 H1 d v → RV (c.at (D :: z)) ι' S' H' d v := fun st' d v r => RV.prot s1 st' hD d v r
  have liftE : ∀ {ι' S' H'}, Step ι1 S1 H1 ι' S' H' → EnvR (c.at (D :: z)) ι' S' H' env σ := fun st' => ⟨e1.1, fun i d hd => let ⟨v, a, b⟩ := e1.2 i d hd; ⟨v, a, lift st' d v b⟩⟩
  refine lc_it wk (fun i Hh => ∃ ι' S' acc accv, Step ι1 S1 H1 ι' S' Hh ∧ SR (c.at (D :: z)) ι' S' Hh ∧ Hh D = some (.lst accv) ∧ RVs (c.at (D :: z)) ι' S' Hh acc accv ∧ acc.length ≤ i ∧
    PostV (c.at z) ι1 S1 H1 (((compL (turnE G tg tp cond elt env) (its.drop i) S').calm).bind fun xs S => .ok (.lst (acc ++ xs)) S) (fun k H' => W (.ref (ea k)) none H') Q) ?_ ?_ ?_ ?_
  · exact ⟨ι1, S1, [], [], step_new hD, s1.begin_ hD [], upd_same, trivial, Nat.le_refl _, p1⟩
  · rintro i Hh hi ⟨ι', S', acc, accv, st', _⟩
    exact hg ι' S' Hh st'
  · rintro i x Hh Hh' hi ⟨ι', S', acc, accv, st', s', hDh, racc, hlen, pp⟩ hyy
    obtain ⟨d, hd, hdrop⟩ := drop_get hi
    obtain ⟨st2, s2, rx⟩ := hy (D :: z) ι' S' Hh i x Hh' d st' s' (fun d v r => lift st' d v r) hd hyy
    rw [hdrop, comp_cons] at pp
    have st3 := st'.trans st2
    have hDm : D ∈ (c.at (D :: z)).z := List.mem_cons_self
    -- the target
    cases hb : bindT tg tp d (tg.foldr (fun i e => e.wipe i) env) with
    | none => simp only [turnE, hb] at pp; exact pp.elim
    | some env' =>
      simp only [turnE, hb] at pp
      refine bind_t (c := c.at (D :: z)) ((liftE st3).wipes tg) rx hb fun σ' e' hw => ⟨?_, ?_⟩
      · rw [hw tg (fun i hi => hi), wipe_wipe]
      · rw [calm_bind, bind_assoc] at pp
        refine ⟨D :: z, ι', S', env', s2, e', Post.calm pp fun cv S3 v ι3 H3 st4 s3 r3 p3 => ?_⟩
        have hD3 : H3 D = some (.lst accv) := by
          have hD2 : Hh' D = some (.lst accv) := st2.keep _ _ hDh (s'.zed D hDm).2 (fun _ z => nomatch z)
          exact st4.keep _ _ hD2 (s2.zed D hDm).2 (fun _ z => nomatch z)
        have st5 := st3.trans st4
        have racc3 := RVs.step s2 st4 _ _ (RVs.step s' st2 _ _ racc)
        cases cv with
        | bl b =>
          obtain rfl : v = .bl b := r3
          refine ⟨b, rfl, ?_⟩
          cases b with
          | false =>
            simp only [Bool.false_eq_true, if_false]
            exact ⟨ι3, S3, acc, accv, st5, s3, hD3, racc3, by omega, p3⟩
          | true =>
            simp only [if_true]
            simp only [calm_bind, bind_assoc] at p3
            refine ⟨D :: z, ι3, S3, env', s3, e'.step s2 st4, Post.calm p3 fun y S4 vy ι4 H4 st6 s4 r4 p4 => ?_⟩
            have hD4 : H4 D = some (.lst accv) := st6.keep _ _ hD3 (s3.zed D hDm).2 (fun _ z => nomatch z)
            have racc4 := RVs.step s3 st6 _ _ racc3
            refine ⟨accv, hD4, ?_, ι4, S4, acc ++ [y], accv ++ [vy], ?_, s4.grow hDm, upd_same, ?_, ?_, ?_⟩
            · rw [← racc.length]; omega
            · exact (st5.trans st6).grow hD
            · exact RVs.append (RVs.grow hDm ⟨_, hD4⟩ _ _ racc4) ⟨RV.grow hDm ⟨_, hD4⟩ _ _ r4, trivial⟩
            · simp; omega
            · simpa [R.calm] using p4
        | _ => exact p3.elim
  · rintro Hh ⟨ι', S', acc, accv, st', s', hDh, racc, hlen, pp⟩
    have hDm : D ∈ (c.at (D :: z)).z := List.mem_cons_self
    rw [List.drop_length] at pp
    simp only [compL, R.calm, R.bind_ok, List.append_nil] at pp
    exact pp.to st' s'.done_ ⟨D, accv, rfl, hDh, ⟨(s'.zed D hDm).2, s1.notz hD⟩, RVs.unprot _ _ racc⟩
/-- a comprehension -/
structure CompS (X : Cx) (c : Cfg) (ea : Nat → Addr) (G : Rules) (scope : Scope) (elt tg : Expr) (ifs : List Expr) (tgs : List Nat) (tp : Bool) (cond ir : E) : Prop where
  own : ∃ own : List (Str × Nat), BlkOk X.N X.env.scope scope own ∧ own.map (·.2) = tgs
  tg : ∀ (s : Shared) (H : Hp) (C : Addr) (cl : List (Str × Addr)) (fp : List Addr), PG (X.blk s H scope (compEnvC scope cl C X.env) fp) tg (gT c.K tgs tp)
  cond : ∀ (s : Shared) (H : Hp) (C : Addr) (cl : List (Str × Addr)) (fp : List Addr), PTs (X.blk s H scope (compEnvC scope cl C X.env) fp) ifs (L2.tB (tEv c ea G W0 cond))
  elt : ∀ (s : Shared) (H : Hp) (C : Addr) (cl : List (Str × Addr)) (fp : List Addr), PE (X.blk s H scope (compEnvC scope cl C X.env) fp) elt (tEv c ea G W0 ir)
theorem set_iter {iter : Expr} {env : PySem.Env} (h : noSet iter = true) : ∀ x, foldedSetIterable iter env x = pure x := fun x => by cases iter <;> first | rfl | cases h
theorem sd_comp {elt tg iter : Expr} {ifs : List Expr} {scope : Scope} {pos : Pos} {tgs : List Nat} {tp : Bool} {k : SrcK} {src : List E} {cond ir : E} (hc : X.calm = true) (hN : X.N.Nodup) (hi : SndI X c ea G W tg iter k src) (C : CompS X c ea G scope elt tg ifs tgs tp cond ir) (hs : noSet iter = true) :
    Snd X c ea G W (.ListComp elt [⟨tg, iter, ifs, 0⟩] scope pos) (.comp tgs tp k src cond ir) := by
  obtain ⟨own, ok, eo⟩ := C.own
  refine PE.mono (pe_lc hc hN hi ok C.tg C.cond C.elt (set_iter hs)) fun σ H Q h => ?_
  rw [eo]
  exact comp_t h
end
end Y

end

section
set_option Elab.async false
set_option linter.all false
set_option maxRecDepth 100000
set_option maxHeartbeats 1000000
namespace Y
open PySem L2 PyProof.Rows
/-! ### statements -/
def PostS (c : Cfg) (ι : List Addr) (S : Sto) (H : Hp) (f : F) (E : Nat → Hp → Prop) (Dd : Ends) : Prop := match f with
  | .nx env S' => ∀ σ' ι' H', Step ι S H ι' S' H' → SR c ι' S' H' → EnvR c ι' S' H' env σ' → Dd.nx σ' H'
  | .bk env S' => ∀ σ' ι' H', Step ι S H ι' S' H' → SR c ι' S' H' → EnvR c ι' S' H' env σ' → Dd.bk σ' H'
  | .ct env S' => ∀ σ' ι' H', Step ι S H ι' S' H' → SR c ι' S' H' → EnvR c ι' S' H' env σ' → Dd.ct σ' H'
  | .rt d S' => ∀ v ι' H', Step ι S H ι' S' H' → SR c ι' S' H' → RV c ι' S' H' d v → Dd.rt v H'
  | .exc k S' => ∀ ι' H', Step ι S H ι' S' H' → SR c ι' S' H' → E k H'
  | .bad => False
def tCv (c : Cfg) (ea : Nat → Addr) (G : Rules) (W : XK) (ir : C) : TS := fun Dd σ H => ∃ z ι S env, SR (c.at z) ι S H ∧ EnvR (c.at z) ι S H env σ ∧ PostS (c.at z) ι S H (evC G ir env S) (fun k H' => W (.ref (ea k)) none H') Dd
def tCs (c : Cfg) (ea : Nat → Addr) (G : Rules) (W : XK) (ir : List C) : TS := fun Dd σ H => ∃ z ι S env, SR (c.at z) ι S H ∧ EnvR (c.at z) ι S H env σ ∧ PostS (c.at z) ι S H (evCs G ir env S) (fun k H' => W (.ref (ea k)) none H') Dd
/-- into a target -/
def gTv (c : Cfg) (ea : Nat → Addr) (G : Rules) (W : XK) (t : T) : TG := fun v σ H Q => ∃ z ι S env d, SR (c.at z) ι S H ∧ EnvR (c.at z) ι S H env σ ∧ RV (c.at z) ι S H d v ∧ PostS (c.at z) ι S H (store G t d env S) (fun k H' => W (.ref (ea k)) none H') { nx := Q, rt := fun _ _ => False }
def gTs (c : Cfg) (ea : Nat → Addr) (G : Rules) (W : XK) (ts : List T) : TGs := fun vs σ H Q => ∃ z ι S env ds, SR (c.at z) ι S H ∧ EnvR (c.at z) ι S H env σ ∧ RVs (c.at z) ι S H ds vs ∧ PostS (c.at z) ι S H (stores G ts ds env S) (fun k H' => W (.ref (ea k)) none H') { nx := Q, rt := fun _ _ => False }
section
variable {X : Cx} {c : Cfg} {ea : Nat → Addr} {G : Rules} {W : XK} {ι ι' ι1 : List Addr} {S S' S1 : Sto} {H H' H1 : Hp} {Ex : Nat → Hp → Prop} {Dd : Ends}
theorem PostS.step {f : F} (h : PostS c ι S H f Ex Dd) (st : Step ι S H ι1 S1 H1) : PostS c ι1 S1 H1 f Ex Dd := by
  cases f with
  | nx env S' => exact fun σ' ι' H' x s q => h σ' ι' H' (st.trans x) s q
  | bk env S' => exact fun σ' ι' H' x s q => h σ' ι' H' (st.trans x) s q
  | ct env S' => exact fun σ' ι' H' x s q => h σ' ι' H' (st.trans x) s q
  | rt d S' => exact fun v ι' H' x s q => h v ι' H' (st.trans x) s q
  | exc k S' => exact fun ι' H' x s => h ι' H' (st.trans x) s
  | bad => exact h
theorem PostS.of {α β : Type} {rel : List Addr → Sto → Hp → α → β → Prop} {r : R α} {f : α → Sto → F} {Q1 : β → Hp → Prop} (h : PostS c ι S H (F.of r f) Ex Dd) (k : ∀ d S1 v ι1 H1, Step ι S H ι1 S1 H1 → SR c ι1 S1 H1 → rel ι1 S1 H1 d v → PostS c ι1 S1 H1 (f d S1) Ex Dd → Q1 v H1) : Post c rel ι S H r Ex Q1 := by
  cases r with
  | ok d S' => exact fun v ι' H' x s q => k d S' v ι' H' x s q (PostS.step h x)
  | exc k S' => exact h
  | bad => exact h
theorem PostS.nx_ {env : Env} {σ : L2.St} (h : PostS c ι S H (.nx env S') Ex Dd) (st : Step ι S H ι' S' H') (s : SR c ι' S' H') (e : EnvR c ι' S' H' env σ) : Dd.nx σ H' := h σ ι' H' st s e
/-- how it goes on behind a part -/
theorem PostS.seq {f : F} {g : Env → Sto → F} {D2 : Ends} (h : PostS c ι S H (f.seq g) Ex Dd) (hn : ∀ env S1 σ' ι1 H1, Step ι S H ι1 S1 H1 → SR c ι1 S1 H1 → EnvR c ι1 S1 H1 env σ' → PostS c ι1 S1 H1 (g env S1) Ex Dd → D2.nx σ' H1)
    (hr : ∀ v H, Dd.rt v H → D2.rt v H) (hb : ∀ v H, Dd.bk v H → D2.bk v H) (hc : ∀ v H, Dd.ct v H → D2.ct v H) : PostS c ι S H f Ex D2 := by
  cases f with
  | nx env S' => exact fun σ' ι' H' x s q => hn env S' σ' ι' H' x s q (PostS.step h x)
  | bk env S' => exact fun σ' ι' H' x s q => hb _ _ (h σ' ι' H' x s q)
  | ct env S' => exact fun σ' ι' H' x s q => hc _ _ (h σ' ι' H' x s q)
  | rt d S' => exact fun v ι' H' x s q => hr _ _ (h v ι' H' x s q)
  | exc k S' => exact h
  | bad => exact h
abbrev SndS (X : Cx) (c : Cfg) (ea : Nat → Addr) (G : Rules) (W : XK) (st : Stmt) (ir : C) : Prop := PS X st (tCv c ea G W ir)
abbrev SndSs (X : Cx) (c : Cfg) (ea : Nat → Addr) (G : Rules) (W : XK) (st : List Stmt) (ir : List C) : Prop := PSs X st (tCs c ea G W ir)
theorem ss_nil : SndSs X c ea G W [] [] := PSs.mono pss_nil fun D σ H ⟨z, ι, S, env, s, e, p⟩ => p.nx_ Step.refl s e
theorem ss_cons {st : Stmt} {sts : List Stmt} {i : C} {is : List C} (h1 : SndS X c ea G W st i) (h2 : SndSs X c ea G W sts is) : SndSs X c ea G W (st :: sts) (i :: is) :=
  PSs.mono (pss_cons h1 h2) fun D σ H ⟨z, ι, S, env, s, e, p⟩ => ⟨z, ι, S, env, s, e, PostS.seq p (fun env1 S1 σ' ι1 H1 st s1 e1 p1 => ⟨z, ι1, S1, env1, s1, e1, p1⟩) (fun _ _ h => h) (fun _ _ h => h) (fun _ _ h => h)⟩
theorem frz_go {n : Nat} {xs : List D} {v : V} {z : List Addr} (s : SR (c.at z) ι S H) (r : RV (c.at z) ι S H (.ref n) v) (h : S[n]? = some (.lst xs)) : Step ι S H ι (S.set n .dead) H ∧ SR (c.at z) ι (S.set n .dead) H ∧ RV (c.at z) ι (S.set n .dead) H (.lst xs) v := by
  obtain ⟨a, vs, rfl, q1, q2, q3⟩ := lst_at s r h
  refine ⟨step_dead, s.dead, a, vs, rfl, q2, ⟨fun l => ?_, fun hz => (s.zed a hz).2 ⟨n, _, q1, h, by simp⟩⟩, RVs.step s step_dead _ _ q3⟩
  obtain ⟨m, o, h1, h2, h3⟩ := l
  by_cases hm : m = n
  · subst hm
    rw [List.getElem?_set_self (List.getElem?_eq_some_iff.mp h).1] at h2
    cases h2; exact h3 rfl
  · rw [List.getElem?_set_ne (Ne.symm hm)] at h2
    exact hm (s.inj m n a _ _ h1 q1 h2 h3 h (by simp))
theorem ss_frz {sts : List Stmt} {i : Nat} {is : List C} (h : SndSs X c ea G W sts is) : SndSs X c ea G W sts (.frz i :: is) := by
  refine PSs.mono h fun D σ H ⟨z, ι, S, env, s, e, p⟩ => ?_
  simp only [evCs, evC] at p
  cases hd : env.get i with
  | none => rw [hd] at p; exact p.elim
  | some d =>
    rw [hd] at p
    simp only at p
    cases d with
    | ref n =>
      cases hS : S[n]? with
      | none => simp only [freeze, hS] at p; exact p.elim
      | some o =>
        cases o with
        | lst xs =>
          simp only [freeze, hS] at p
          obtain ⟨v, h1, h2⟩ := e.2 i _ hd
          obtain ⟨st, s1, r1⟩ := frz_go s h2 hS
          refine ⟨z, ι, _, _, s1, ?_, PostS.step p st⟩
          have e2 := (e.step s st).put (i := i) r1
          have : σ.set i (some v) = σ := by
            apply List.ext_getElem?
            intro j
            by_cases hj : i = j
            · subst hj
              rw [List.getElem?_set_self (List.getElem?_eq_some_iff.mp h1).1, h1]
            · rw [List.getElem?_set_ne hj]
          rw [this] at e2
          exact e2
        | _ => simp only [freeze, hS] at p; exact p.elim
    | _ => simp only [freeze] at p; exact p.elim
/-! ### small statements -/
theorem s_pass {pos : Pos} : SndS X c ea G W (.Pass pos) .pass := PS.mono ps_pass fun D σ H ⟨z, ι, S, env, s, e, p⟩ => p.nx_ Step.refl s e
theorem s_retN {pos : Pos} : SndS X c ea G W (.Return none pos) .retN := PS.mono ps_retN fun D σ H ⟨z, ι, S, env, s, e, p⟩ => p .non ι H Step.refl s rfl
theorem s_ret {pos : Pos} {e : Expr} {i : E} (h : Snd X c ea G W e i) : SndS X c ea G W (.Return (some e) pos) (.ret i) :=
  PS.mono (ps_ret h) fun D σ H ⟨z, ι, S, env, s, e, p⟩ => ⟨z, ι, S, env, s, e, PostS.of p fun d S1 v ι1 H1 st s1 r p1 => p1 v ι1 H1 Step.refl s1 r⟩
/-- no comprehension -/
def noComp : Expr → Bool
  | .ListComp .. | .SetComp .. | .DictComp .. => false
  | _ => true
theorem swaps_no {e : Expr} {t : Option Expr} {l : Nat} {env : PySem.Env} (h : noComp e = true) : swapsWith e t l env = pure false := by cases e <;> first | rfl | cases h
theorem s_expr {pos : Pos} {e : Expr} {i : E} (h : Snd X c ea G W e i) (hn : noComp e = true) : SndS X c ea G W (.Expr e pos) (.expr i) :=
  PS.mono (ps_expr h (swaps_no hn)) fun D σ H ⟨z, ι, S, env, s, e, p⟩ => ⟨z, ι, S, env, s, e, PostS.of p fun d S1 v ι1 H1 st s1 r p1 => p1.nx_ Step.refl s1 (e.step s st)⟩
theorem s_if {pos : Pos} {e : Expr} {a b : List Stmt} {i : E} {x y : List C} (h : SndT X c ea G W e i) (ha : SndSs X c ea G W a x) (hb : SndSs X c ea G W b y) : SndS X c ea G W (.If e a b pos) (.ifs i x y) := by
  refine PS.mono (ps_if h ha hb) fun D σ H ⟨z, ι, S, env, s, e, p⟩ => ⟨z, ι, S, env, s, e, PostS.of p fun d S1 v ι1 H1 st s1 r p1 => ?_⟩
  cases d with
  | bl b =>
    obtain rfl : v = .bl b := r
    refine ⟨b, rfl, ?_⟩
    cases b with
    | true => simp only [if_true]; exact ⟨z, ι1, S1, env, s1, e.step s st, p1⟩
    | false => simp only [Bool.false_eq_true, if_false]; exact ⟨z, ι1, S1, env, s1, e.step s st, p1⟩
  | _ => exact p1.elim
theorem s_raise {pos : Pos} {e : Expr} {k : Nat} (hc : X.calm = true) (tk : L2N.Takes X (fun cls d _ H => W cls d H)) (h : L2N.PMk X e (fun _ H Q => Q (.ref (ea k)) none H)) : SndS X c ea G W (.Raise (some e) none pos) (.raise k) :=
  PS.mono (L2N.ps_raise hc tk h) fun D σ H ⟨z, ι, S, env, s, e, p⟩ => p ι H Step.refl s
/-! ### targets -/
theorem PG.mono {e : Expr} {t t' : TG} (h : PG X e t) (k : ∀ v σ H Q, t' v σ H Q → t v σ H Q) : PG X e t' := ⟨fun pins s σ H v u Q I r q => h.run pins s σ H v u Q I r (k v σ H Q q)⟩
theorem PGs.mono {e : List Expr} {t t' : TGs} (h : PGs X e t) (k : ∀ v σ H Q, t' v σ H Q → t v σ H Q) : PGs X e t' := ⟨fun pins s σ H v u Q I r q => h.run pins s σ H v u Q I r (k v σ H Q q)⟩
theorem sg_nm {i : Nat} {x : Str} {pos : Pos} (h : PG X (.Name x pos) (gName i)) : PG X (.Name x pos) (gTv c ea G W (.nm i)) :=
  PG.mono h fun v σ H Q ⟨z, ι, S, env, d, s, e, r, p⟩ => p.nx_ Step.refl s (e.put r)
def gFld (K : PySem.W.Frag) (ta : TE) (f : Str) : TG := fun v σ H Q => ta σ H fun x H2 => ∃ a C dx fs, x = .ref a ∧ H2 a = some (.ins C dx fs) ∧ Cls K C ∧ NoAttr K C f ∧ fs.length < 1000 ∧ Q σ (upd H2 a (.ins C dx (putF f v fs)))
theorem pg_fld {o : Expr} {f : Str} {pos : Pos} {ta : TE} (ha : PE X o ta) : PG X (.Attribute o f pos) (gFld X.K ta f) := by
  refine ⟨fun pins s σ H v u Q I r h => ?_⟩
  have e : assign (.Attribute o f pos) X.env u = (do
      let ov ← holding [u] (eval o X.env)
      standAt pos.atName
      holding [u, ov] (PySem.setAttr ov f u)
      release [u, ov] []) := by rfl
  rw [e]
  refine wpAny_bind (wpAny_holding (thn (ha.run pins s σ H _ I h) fun ov s1 ⟨x, H1, I1, rx, a, C, dx, fs, ex, ea, c, n, l, q2⟩ => ?_))
  subst ex
  obtain rfl : ov = Value.ref a := rx
  refine wpAny_bind (wpAny_standAt (wpAny_bind (wpAny_holding ?_)))
  exact setattr_ok I1 ea c n l r fun s3 I3 => wpAny_release ⟨σ, _, I3, q2⟩
def tPut : TSet := fun o i v H Q => ∃ a H', o = .ref a ∧ DPut H a i v H' ∧ Q H'
theorem pset_d (hu : X.A.units + 1 < cLine) : PSet X tPut := by
  intro pins s σ H o i v ov iv u Q I ro ri rv h
  obtain ⟨a, H', rfl, g, q⟩ := h
  obtain rfl : ov = Value.ref a := ro
  exact d_setItem hu I g ri rv fun s4 I4 => ⟨H', I4, q⟩

theorem sg_at {o : Expr} {i : E} {f : Nat} {pos : Pos} (hK : X.K = c.K) (hc : ∀ k, k < c.ncl → Cls c.K (c.ca k)) (hn : ∀ k, k < c.ncl → NoAttr c.K (c.ca k) (c.fn f)) (ho : Snd X c ea G W o i) : PG X (.Attribute o (c.fn f) pos) (gTv c ea G W (.at i f)) := by
  refine PG.mono (pg_fld ho) fun v σ H Q ⟨z, ι, S, env, d, s, e, r, p⟩ => ⟨z, ι, S, env, s, e, PostS.of p fun x S1 vx ι1 H1 st s1 r1 p1 => ?_⟩
  cases x with
  | ref n =>
    cases hS : S1[n]? with
    | none => simp only [setAttr, hS] at p1; exact p1.elim
    | some o =>
      cases o with
      | ins k fs =>
        simp only [setAttr, hS] at p1
        split at p1
        · rename_i S2 hh
          split at hh
          · rename_i hl
            cases hh
            obtain ⟨a, dx, gs, rfl, q0, hk, q1, q2⟩ := ins_at s1 r1 hS
            have r' := RV.step s st _ _ r
            have st2 := step_set (H := H1) (o' := .ins k (putA f d fs)) (u := .ins (c.ca k) dx (putF (c.fn f) v gs)) q0 hS (by simp)
            have s2 := s1.set (o' := .ins k (putA f d fs)) (u := .ins (c.ca k) dx (putF (c.fn f) v gs)) q0 hS (by simp) ⟨hk, dx, _, upd_same, RFs.step s1 st2 _ _ (rf_put (c := c.at z) r' q2)⟩
            rw [hK]
            refine ⟨a, _, dx, gs, rfl, q1, hc k hk, hn k hk, by rw [← rf_len q2]; omega, p1.nx_ st2 s2 ((e.step s st).step s1 st2)⟩
          · cases hh
        · exact p1.elim
      | _ => simp only [setAttr, hS] at p1; exact p1.elim
  | _ => simp only [setAttr] at p1; exact p1.elim
theorem sg_ix {o k : Expr} {i j : E} {pos : Pos} (hu : X.A.units + 1 < cLine) (ho : Snd X c ea G W o i) (hk : Snd X c ea G W k j) (hs : noSlice k = true) : PG X (.Subscript o k pos) (gTv c ea G W (.ix i j)) := by
  refine PG.mono (pg_sub ho hk (pset_d hu) (by intro v; cases k <;> first | rfl | cases hs)) fun v σ H Q ⟨z, ι, S, env, d, s, e, r, p⟩ => ⟨z, ι, S, env, s, e, PostS.of p fun x S1 vx ι1 H1 st s1 r1 p1 => ?_⟩
  refine ⟨z, ι1, S1, env, s1, e.step s st, PostS.of p1 fun y S2 vy ι2 H2 st2 s2 r2 p2 => ?_⟩
  have r1 := RV.step s1 st2 _ _ r1
  have r' := RV.step s1 st2 _ _ (RV.step s st _ _ r)
  cases x with
  | ref n =>
    cases hS : S2[n]? with
    | none => simp only [setIdx, hS] at p2; exact p2.elim
    | some o =>
      cases o with
      | dic kvs =>
        simp only [setIdx, hS] at p2
        cases hy : keyD y with
        | none => rw [hy] at p2; exact p2.elim
        | some kk =>
          rw [hy] at p2
          simp only [Option.bind_some] at p2
          split at p2
          · rename_i S3 hh
            split at hh
            · rename_i hl
              cases hh
              obtain ⟨a, ws, rfl, q0, q1, q2⟩ := dic_at s2 r1 hS
              have e2 := key_rv hy r2
              subst e2
              obtain ⟨st3, s3⟩ := set_dic s2 q0 hS (rk_put (k := kk) r' q2)
              exact ⟨a, _, rfl, DPut.k q1 (by rw [← rk_len q2]; exact line_lt hl), p2.nx_ st3 s3 (((e.step s st).step s1 st2).step s2 st3)⟩
            · cases hh
          · exact p2.elim
      | _ => simp only [setIdx, hS] at p2; exact p2.elim
  | _ => simp only [setIdx] at p2; exact p2.elim
def noStarT : Expr → Bool := noStar
theorem each_cons {e : Expr} {es : List Expr} {env : PySem.Env} (h : noStar e = true) : assignEach (e :: es) env = (false, assign e env) :: assignEach es env := by
  cases e <;> first | rfl | cases h
theorem each_len {env : PySem.Env} : ∀ {es : List Expr}, es.all noStar = true → (assignEach es env).length = es.length ∧ (assignEach es env).findIdx? (·.1) = none
  | [], _ => ⟨rfl, rfl⟩
  | e :: es, h => by
    simp only [List.all_cons, Bool.and_eq_true] at h
    obtain ⟨h1, h2⟩ := each_len (env := env) h.2
    rw [each_cons h.1]
    refine ⟨by simp [h1], ?_⟩
    rw [List.findIdx?_cons]
    simp [h2]
theorem sgs_nil : PGs X [] (gTs c ea G W []) := PGs.mono pgs_nil fun v σ H Q ⟨z, ι, S, env, ds, s, e, r, p⟩ => by
  cases ds with
  | nil =>
    cases v with
    | nil => exact ⟨rfl, p.nx_ Step.refl s e⟩
    | cons _ _ => exact r.elim
  | cons _ _ => exact p.elim
theorem sgs_cons {e : Expr} {es : List Expr} {t : T} {ts : List T} (h1 : PG X e (gTv c ea G W t)) (h2 : PGs X es (gTs c ea G W ts)) (hs : noStar e = true) : PGs X (e :: es) (gTs c ea G W (t :: ts)) := by
  refine PGs.mono (pgs_cons h1 h2 (by rw [each_cons hs]; rfl)) fun v σ H Q ⟨z, ι, S, env, ds, s, e, r, p⟩ => ?_
  cases ds with
  | nil => exact p.elim
  | cons d ds =>
    cases v with
    | nil => exact r.elim
    | cons v vs =>
      refine ⟨v, vs, rfl, z, ι, S, env, d, s, e, r.1, PostS.seq p (fun env1 S1 σ' ι1 H1 st s1 e1 p1 => ?_) (fun _ _ h => h.elim) (fun _ _ h => h.elim) (fun _ _ h => h.elim)⟩
      exact ⟨z, ι1, S1, env1, ds, s1, e1, RVs.step s st _ _ r.2, p1⟩
/-! ### assignments -/
/-- goes on, raises or is bad -/
def F.plain : F → Bool
  | .nx _ _ | .exc _ _ | .bad => true
  | _ => false
theorem plain_of {α : Type} {r : R α} {f : α → Sto → F} (h : ∀ a S, (f a S).plain = true) : (F.of r f).plain = true := by
  cases r with
  | ok a S => exact h a S
  | exc _ _ => rfl
  | bad => rfl
theorem plain_opt {o : Option Sto} {env : Env} : (match o with | some S' => F.nx env S' | none => F.bad : F).plain = true := by cases o <;> rfl
theorem plain_store {t : T} {d : D} {env : Env} : (store G t d env S).plain = true := by
  cases t with
  | nm i => rfl
  | «at» o f => exact plain_of fun x S => by cases setAttr S x f d <;> rfl
  | ix o k => exact plain_of fun x S => plain_of fun y S => by cases setIdx S x y d <;> rfl
theorem plain_stores : ∀ {ts : List T} {ds : List D} {env : Env} {S : Sto}, (stores G ts ds env S).plain = true
  | [], [], _, _ => rfl
  | [], _ :: _, _, _ => rfl
  | _ :: _, [], _, _ => rfl
  | t :: ts, d :: ds, env, S => by
    unfold stores F.seq
    have h := plain_store (G := G) (S := S) (t := t) (d := d) (env := env)
    cases hs : store G t d env S with
    | nx env1 S1 => exact plain_stores
    | exc _ _ => rfl
    | bad => rfl
    | _ => rw [hs] at h; cases h
theorem PostS.plain {f : F} {D2 : Ends} (h : PostS c ι S H f Ex Dd) (hp : f.plain = true) (hn : D2.nx = Dd.nx) : PostS c ι S H f Ex D2 := by
  cases f with
  | nx env S' => exact fun σ' ι' H' x s q => by rw [hn]; exact h σ' ι' H' x s q
  | exc k S' => exact h
  | bad => exact h
  | _ => cases hp
theorem s_asg {tg e : Expr} {t : T} {i : E} {pos : Pos} (he : Snd X c ea G W e i) (hg : PG X tg (gTv c ea G W t)) (hs : swapsWithSole [tg] e pos.line X.env = pure false) (hw : swappedStores [tg] e X.env = pure none) (h1 : noStar tg = true) : SndS X c ea G W (.Assign [tg] e pos) (.asg t i) := by
  refine PS.mono (ps_asg he hg hs hw (by rw [each_cons h1]; rfl)) fun D σ H ⟨z, ι, S, env, s, e, p⟩ => ⟨z, ι, S, env, s, e, PostS.of p fun d S1 v ι1 H1 st s1 r1 p1 => ?_⟩
  exact ⟨z, ι1, S1, env, d, s1, e.step s st, r1, p1.plain plain_store rfl⟩
theorem stores_len : ∀ {ts : List T} {ds : List D} {env : Env} {S : Sto}, stores G ts ds env S ≠ .bad → True
  | _, _, _, _, _ => trivial
theorem s_unp {es : List Expr} {e : Expr} {ts : List T} {i : E} {pos tpos : Pos} {k n : Nat} (hK : X.K = c.K) (hc : X.calm = true) (he : Snd X c ea G W e i) (hg : PGs X es (gTs c ea G W ts)) (hn : es.all noStar = true) (hl : es.length = ts.length) (hs : swapsWithSole [.Tuple es k tpos] e pos.line X.env = pure false) (hw : swappedStores [.Tuple es k tpos] e X.env = pure none) : SndS X c ea G W (.Assign [.Tuple es k tpos] e pos) (.unp ts i) := by
  obtain ⟨h1, h2⟩ := each_len (env := X.env) hn
  refine PS.mono (ps_asg he (pg_tup (n := ts.length) hc hg (by rw [h1, hl]) h2) hs hw rfl) fun D σ H ⟨z, ι, S, env, s, e, p⟩ => ⟨z, ι, S, env, s, e, PostS.of p fun d S1 v ι1 H1 st s1 r1 p1 => ?_⟩
  cases d with
  | tup ds =>
    simp only at p1
    split at p1
    · rename_i hd
      obtain ⟨a, vs, rfl, q, rs⟩ := r1
      refine ⟨a, vs, rfl, by rw [hK]; exact q, by rw [← rs.length]; exact hd, z, ι1, S1, env, ds, s1, e.step s st, rs, p1.plain plain_stores rfl⟩
    · exact p1.elim
  | _ => exact p1.elim
/-! ### names from the right -/
theorem s_par2 {i j : Nat} {x y : Str} {a b : Expr} {u v : E} {px py pt pos pt2 : Pos} {kt k2 : Nat} (hc : X.calm = true) (hN : X.N.Nodup) (hi : X.N[i]? = some x) (hj : X.N[j]? = some y) (hij : i ≠ j) (hx : X.env.scope.names.lookup x = some .local) (hy : X.env.scope.names.lookup y = some .local) (ha : SndA X c ea G W [a, b] [u, v])
    (hw : swappedStores [.Tuple [.Name x px, .Name y py] kt pt] (.Tuple [a, b] k2 pt2) X.env = pure (some [x, y])) : SndS X c ea G W (.Assign [.Tuple [.Name x px, .Name y py] kt pt] (.Tuple [a, b] k2 pt2) pos) (.par [i, j] [u, v]) := by
  refine PS.mono (ps_par hc hN hi hj hij hx hy ha hw rfl) fun D σ H ⟨z, ι, S, env, s, e, p⟩ => ⟨z, ι, S, env, s, e, PostS.of p fun ds S1 vs ι1 H1 st s1 r1 p1 => ?_⟩
  match ds, vs, r1 with
  | [d1, d2], [v1, v2], ⟨r1, r2, _⟩ => exact ⟨v1, v2, rfl, p1.nx_ Step.refl s1 (((e.step s st).put r1).put r2)⟩
  | [], _, _ => exact p1.elim
  | [_], _, _ => exact p1.elim
  | _ :: _ :: _ :: _, _, _ => exact p1.elim
theorem s_par3 {i j l : Nat} {x y w : Str} {a b d : Expr} {u v t : E} {px py pz pt pos pt2 : Pos} {kt k2 : Nat} (hc : X.calm = true) (hN : X.N.Nodup) (hi : X.N[i]? = some x) (hj : X.N[j]? = some y) (hl : X.N[l]? = some w) (hij : i ≠ j) (hil : i ≠ l) (hjl : j ≠ l) (hx : X.env.scope.names.lookup x = some .local) (hy : X.env.scope.names.lookup y = some .local) (hz : X.env.scope.names.lookup w = some .local) (ha : SndA X c ea G W [a, b, d] [u, v, t])
    (hw : swappedStores [.Tuple [.Name x px, .Name y py, .Name w pz] kt pt] (.Tuple [a, b, d] k2 pt2) X.env = pure (some [x, y, w])) : SndS X c ea G W (.Assign [.Tuple [.Name x px, .Name y py, .Name w pz] kt pt] (.Tuple [a, b, d] k2 pt2) pos) (.par [i, j, l] [u, v, t]) := by
  refine PS.mono (ps_par3 hc hN hi hj hl hij hil hjl hx hy hz ha hw rfl) fun D σ H ⟨z, ι, S, env, s, e, p⟩ => ⟨z, ι, S, env, s, e, PostS.of p fun ds S1 vs ι1 H1 st s1 r1 p1 => ?_⟩
  match ds, vs, r1 with
  | [d1, d2, d3], [v1, v2, v3], ⟨r1, r2, r3, _⟩ => exact ⟨v1, v2, v3, rfl, p1.nx_ Step.refl s1 ((((e.step s st).put r1).put r2).put r3)⟩
  | [], _, _ => exact p1.elim
  | [_], _, _ => exact p1.elim
  | [_, _], _, _ => exact p1.elim
  | _ :: _ :: _ :: _ :: _, _, _ => exact p1.elim
/-! ### loops -/
/-- a turn, then the others -/
theorem PostS.turn {f : F} {g : Env → Sto → F} {D2 : Ends} (h : PostS c ι S H (f.turn g) Ex Dd) (hn : ∀ env S1 σ' ι1 H1, Step ι S H ι1 S1 H1 → SR c ι1 S1 H1 → EnvR c ι1 S1 H1 env σ' → PostS c ι1 S1 H1 (g env S1) Ex Dd → D2.nx σ' H1)
    (hct : D2.ct = D2.nx) (hbk : D2.bk = Dd.nx) (hr : D2.rt = Dd.rt) : PostS c ι S H f Ex D2 := by
  cases f with
  | nx env S' => exact fun σ' ι' H' x s q => hn env S' σ' ι' H' x s q (PostS.step h x)
  | bk env S' => exact fun σ' ι' H' x s q => by rw [hbk]; exact h σ' ι' H' x s q
  | ct env S' => exact fun σ' ι' H' x s q => by rw [hct]; exact hn env S' σ' ι' H' x s q (PostS.step h x)
  | rt d S' => exact fun v ι' H' x s q => by rw [hr]; exact h v ι' H' x s q
  | exc k S' => exact h
  | bad => exact h
theorem s_for {tg iter : Expr} {body : List Stmt} {tgs : List Nat} {tp : Bool} {k : SrcK} {src : List E} {ib : List C} {pos : Pos} (hp : PassesOwn (model X.prog X.w) X.A X.env X.xe) (hc : X.calm = true) (hi : SndI X c ea G W tg iter k src) (hg : PG X tg (gT c.K tgs tp)) (hb : SndSs X c ea G W body ib) (hs : noSet iter = true) :
    SndS X c ea G W (.For tg iter body [] pos) (.for_ tgs tp k src ib) := by
  refine PS.mono (ps_for hp hc hi hg hb (set_iter hs)) fun D σ H ⟨z, ι, S, env, s, e, p⟩ => ⟨z, ι, S, env, s, e, PostS.of p fun its S1 J ι1 H1 st s1 sw p1 => ?_⟩
  obtain ⟨hz, Gd, Yy, wk, hg, hy⟩ := sw
  refine for_it wk (fun i σ' Hh => ∃ ι' S' env', Step ι1 S1 H1 ι' S' Hh ∧ SR (c.at z) ι' S' Hh ∧ EnvR (c.at z) ι' S' Hh env' σ' ∧
    PostS (c.at z) ι' S' Hh (forL tgs tp (fun env S => evCs G ib env S) (its.drop i) env' S') (fun k H' => W (.ref (ea k)) none H') D) ?_ ?_ ?_ ?_
  · exact ⟨ι1, S1, env, Step.refl, s1, e.step s st, p1⟩
  · rintro i σ' Hh hi ⟨ι', S', env', st', _⟩
    exact hg ι' S' Hh st'
  · rintro i x σ' Hh Hh' hi ⟨ι', S', env', st', s', e', pp⟩ hyy
    obtain ⟨d, hd, hdrop⟩ := drop_get hi
    obtain ⟨st2, s2, rx⟩ := hy z ι' S' Hh i x Hh' d st' s' (fun d v r => RV.step s1 st' d v r) hd hyy
    rw [hdrop] at pp
    simp only [forL] at pp
    cases hb : bindT tgs tp d env' with
    | none => rw [hb] at pp; exact pp.elim
    | some env2 =>
      rw [hb] at pp
      refine bind_t (c := c.at z) (e'.step s' st2) rx hb fun σ2 e2 hw => ⟨z, ι', S', env2, s2, e2, ?_⟩
      refine PostS.turn (PostS.step pp st2) (fun env3 S3 σ3 ι3 H3 st3 s3 e3 p3 => ?_) rfl rfl rfl
      exact ⟨ι3, S3, env3, (st'.trans st2).trans st3, s3, e3, p3⟩
  · rintro σ' Hh ⟨ι', S', env', st', s', e', pp⟩
    rw [List.drop_length] at pp
    exact pp.nx_ Step.refl s' e'
theorem s_while {e : Expr} {body : List Stmt} {i : E} {ib : List C} {pos : Pos} (hp : PassesOwn (model X.prog X.w) X.A X.env X.xe) (he : SndT X c ea G W e i) (hb : SndSs X c ea G W body ib) : SndS X c ea G W (.While e body [] pos) (.whil i ib) := by
  refine PS.mono (ps_while hp he hb) fun D σ H ⟨z, ι, S, env, s, e, p⟩ => ?_
  refine ⟨fun m σ' Hh => ∃ ι' S' env', SR (c.at z) ι' S' Hh ∧ EnvR (c.at z) ι' S' Hh env' σ' ∧
    PostS (c.at z) ι' S' Hh (whileL (fun env S => evE G i env S) (fun env S => evCs G ib env S) m env' S') (fun k H' => W (.ref (ea k)) none H') D, ⟨100000, ι, S, env, s, e, p⟩, ?_⟩
  rintro m σ' Hh ⟨ι', S', env', s', e', pp⟩
  cases m with
  | zero => exact pp.elim
  | succ m =>
    refine ⟨z, ι', S', env', s', e', PostS.of pp fun d S1 v ι1 H1 st s1 r1 p1 => ?_⟩
    cases d with
    | bl b =>
      obtain rfl : v = .bl b := r1
      refine ⟨b, rfl, ?_⟩
      cases b with
      | false => simp only [Bool.false_eq_true, if_false]; exact p1.nx_ Step.refl s1 (e'.step s' st)
      | true =>
        simp only [if_true]
        refine ⟨fun σ2 H2 => ∃ ι2 S2 env2, SR (c.at z) ι2 S2 H2 ∧ EnvR (c.at z) ι2 S2 H2 env2 σ2 ∧
          PostS (c.at z) ι2 S2 H2 (whileL (fun env S => evE G i env S) (fun env S => evCs G ib env S) m env2 S2) (fun k H' => W (.ref (ea k)) none H') D, fun σ2 H2 h => ⟨m, Nat.lt_succ_self m, h⟩, ?_⟩
        refine ⟨z, ι1, S1, env', s1, e'.step s' st, PostS.turn p1 (fun env3 S3 σ3 ι3 H3 st3 s3 e3 p3 => ?_) rfl rfl rfl⟩
        exact ⟨ι3, S3, env3, s3, e3, p3⟩
    | _ => exact p1.elim
/-! ### name = [..] -/
theorem s_setLc {i : Nat} {y : Str} {py pos spos : Pos} {elt tg iter : Expr} {ifs : List Expr} {scope : Scope} {tgs : List Nat} {tp : Bool} {k : SrcK} {src : List E} {cond ir : E} (hc : X.calm = true) (hN : X.N.Nodup) (hy : X.N[i]? = some y) (hyl : X.env.scope.names.lookup y = some .local)
    (hsw : swapsWith (.ListComp elt [⟨tg, iter, ifs, 0⟩] scope pos) (some (.Name y py)) spos.line X.env = pure true) (hi : SndI X c ea G W tg iter k src) (C : CompS X c ea G scope elt tg ifs tgs tp cond ir) (hs : noSet iter = true) :
    SndS X c ea G W (.Assign [.Name y py] (.ListComp elt [⟨tg, iter, ifs, 0⟩] scope pos) spos) (.asg (.nm i) (.comp tgs tp k src cond ir)) := by
  obtain ⟨own, ok, eo⟩ := C.own
  refine PS.mono (ps_setLc hc hN hy hyl hsw hi ok C.tg C.cond C.elt (set_iter hs)) fun D σ H ⟨z, ι, S, env, s, e, p⟩ => ?_
  rw [eo]
  refine comp_t ⟨z, ι, S, env, s, e, PostS.of p fun d S1 v ι1 H1 st s1 r1 p1 => ?_⟩
  exact p1.nx_ Step.refl s1 ((e.step s st).put r1)
end
end Y

end

section
set_option Elab.async false
set_option linter.all false
set_option maxRecDepth 100000
set_option maxHeartbeats 1000000
namespace Y
open PySem L2 PyProof.Rows
/-! ### names of a program -/
structure Meta where
  tab : Tab
  gname : Nat → Str
  mname : Nat → Str
  cname : Nat → Str
  fname : Nat → Str
  ename : Nat → Str
  ncl : Nat
  nfld : Nat
  nexc : Nat
  exl : List Nat
  gints : List (Str × Int)
  gstrs : List (Str × Str)
  gtups : List (Str × List Str)
  told : Bool
  bnd : Bool
def bltns : List Str := ["len", "abs", "max", "min", "sum", "sorted", "all", "int", "str", "tuple", "list", "range", "enumerate", "zip", "set", "isinstance", "bool", "dict"]
def bmVE : List Value := [.type "ValueError", .type "Exception", .type "BaseException", .type "object"]
structure Facts (M : Meta) (c : Cfg) (w : World) (mg : Str → Option Value) (ea fa : Nat → Addr) (fd : Nat → FuncData) (ps : Nat → List Str) : Prop where
  gl : ∀ f fn, M.tab.fn f = some fn → M.gname f ≠ Str.empty → mg (M.gname f) = some (.ref (fa f)) ∧ PySem.W.keepIn c.K (.ref (fa f)) = true
  bd : ∀ f fn, M.tab.fn f = some fn → Binds c.K (fd f) (ps f) []
  bl : ∀ x ∈ bltns, mg x = none
  gi : ∀ x i, M.gints.lookup x = some i → ∃ t, mg x = some (.int i t)
  gs : ∀ x i, M.gstrs.lookup x = some i → ∃ t, mg x = some (.str i t)
  gt : ∀ x xs, M.gtups.lookup x = some xs → ∃ a, mg x = some (.ref a) ∧ ∀ H, SqT c.K H a (xs.map .str)
  ncl : c.ncl = M.ncl
  fn : c.fn = M.fname
  cl : ∀ k, k < M.ncl → Cls c.K (c.ca k)
  mka : ∀ k, k < M.ncl → mg (M.cname k) = some (.ref (c.ca k)) ∧ Mk c.K (c.ca k) (fa (M.tab.init k)) ∧ ∃ fn, M.tab.fn (M.tab.init k) = some fn
  na : ∀ k f, k < M.ncl → f < M.nfld → NoAttr c.K (c.ca k) (M.fname f)
  me : ∀ k m f, M.tab.meth k m = some f → k < M.ncl ∧ Meth c.K (c.ca k) (M.mname m) (fa f) ∧ ∃ fn, M.tab.fn f = some fn
  mf : ∀ f m, M.fname f ≠ M.mname m
  ex : ∀ k, k ∈ M.exl → PySem.W.excIn c.K (ea k) bmVE "ValueError.__new__" = true ∧ mg (M.ename k) = some (.ref (ea k)) ∧ PySem.W.keepIn c.K (.ref (ea k)) = true ∧ PySem.W.subIn c.K (.ref (ea k)) (.type "BaseException") = some true ∧ PySem.W.typeIn c.K (.ref (ea k)) = some (.type "type")
  bo : M.bnd = true → ∃ b, mg "BOUNDS" = some (.ref b) ∧ ∀ z k, bounds.lookup z = some k → KDct c.K w b z (.int k)
/-! ### what is looked at -/
def okn (x : Str) : Bool := !(x == ("__debug__" : Str)) && !(x == ("__classdict__" : Str))
def visB (sc : Scope) (x : Str) : Bool := match sc.names.lookup x with
  | some .local | some .cell | some .free => true
  | _ => false
def locB (sc : Scope) (fb : Str → Bool) (x : Str) : Bool := match sc.names.lookup x with
  | some .local => true
  | some .cell => fb x
  | _ => false
def gloB (sc : Scope) (x : Str) : Bool := match sc.names.lookup x with
  | some .globalImplicit => true
  | _ => false
def slotB (N : List Str) (x : Str) (i : Nat) : Bool := match N[i]? with
  | some y => y == x
  | none => false
theorem vis_of {sc : Scope} {x : Str} (h : visB sc x = true) : Vis sc x := by
  unfold visB at h
  split at h
  · exact .inl (by assumption)
  · exact .inr (.inl (by assumption))
  · exact .inr (.inr (by assumption))
  · cases h
theorem loc_of {sc : Scope} {fb : Str → Bool} {x : Str} (h : locB sc fb x = true) : Loc sc x ∧ (fb x = true ∨ sc.names.lookup x = some .local) := by
  unfold locB at h
  split at h
  · exact ⟨.inl (by assumption), .inr (by assumption)⟩
  · exact ⟨.inr (by assumption), .inl h⟩
  · cases h
theorem glo_of {sc : Scope} {x : Str} (h : gloB sc x = true) : sc.names.lookup x = some .globalImplicit := by
  unfold gloB at h
  split at h
  · assumption
  · cases h
theorem slot_of {N : List Str} {x : Str} {i : Nat} (h : slotB N x i = true) : N[i]? = some x := by
  unfold slotB at h
  split at h
  · rename_i y hy
    rw [hy, eq_of_beq h]
  · cases h
theorem okn_of {x : Str} (h : okn x = true) : (x == ("__debug__" : Str)) = false ∧ (x == ("__classdict__" : Str)) = false := by
  unfold okn at h
  simpa using h
def Ty.s : Ty → Str
  | .int => "int" | .bool => "bool" | .str => "str" | .list => "list" | .tuple => "tuple" | .dict => "dict"
theorem Ty.boot (t : Ty) : bootBuiltins t.s = some (.type t.nm) ∧ t.s ≠ ("__name__" : Str) ∧ (t.s == ("__debug__" : Str)) = false ∧ t.s ∈ bltns := by cases t <;> decide +kernel
def Bi.s : Bi → Str
  | .len => "len" | .abs => "abs" | .max => "max" | .min => "min" | .sum => "sum" | .sorted => "sorted" | .all => "all" | .int => "int" | .tuple => "tuple" | .list => "list"
  | .listR => "list" | .tupleR => "tuple" | .nset => "len"
def Bi.plain : Bi → Bool
  | .listR | .tupleR | .nset => false
  | _ => true
def BOp.py : BOp → Operator
  | .add => .Add | .sub => .Sub | .mul => .Mult | .fdiv => .FloorDiv | .mod => .Mod | .pow => .Pow
def Bm.s : Bm → Str
  | .append => "append" | .extend => "extend" | .pop0 => "pop" | .popAt => "pop" | .clear => "clear" | .remove => "remove" | .index => "index"
/-- a constant -/
def chkK (M : Meta) (sc : Scope) (d : D) (e : Expr) : Bool := match e with
  | .Constant .none _ _ => nonD d
  | .Constant (.bool b) _ _ => (match d with
    | .bl k => k == b
    | _ => false)
  | .Constant (.int i) _ _ => (match d with
    | .int k => k == i
    | _ => false)
  | .Constant (.str x) _ _ => (match d with
    | .str k => k == x
    | _ => false)
  | .Name x _ => gloB sc x && okn x && (match d with
    | .int i => (match M.gints.lookup x with
      | some j => i == j
      | none => false)
    | .str i => (match M.gstrs.lookup x with
      | some j => i == j
      | none => false)
    | _ => false)
  | _ => false
def keysB : List Str → List (Option Expr) → Bool
  | [], [] => true
  | k :: ks, some (.Constant (.str x) _ _) :: r => x == k && keysB ks r
  | _, _ => false
/-- a turn's names -/
def tgB (N : List Str) (sc : Scope) (fb : Str → Bool) (tg : List Nat) (tp : Bool) (t : Expr) : Bool := match tp, tg, t with
  | false, [i], .Name x _ => slotB N x i && locB sc fb x
  | true, [i, j], .Tuple [.Name x _, .Name y _] _ _ => slotB N x i && (locB sc fb x && (slotB N y j && locB sc fb y))
  | _, _, _ => false
def tgOwn (tg : List Nat) (t : Expr) : List (Str × Nat) := match tg, t with
  | [i], .Name x _ => [(x, i)]
  | [i, j], .Tuple [.Name x _, .Name y _] _ _ => [(x, i), (y, j)]
  | _, _ => []
def blkB (N : List Str) (sc scope : Scope) (own : List (Str × Nat)) : Bool :=
  decide (scope.kind = .function) && ((scope.names.all fun y => decide (scope.names.lookup y.1 = some y.2)) && ((own.all fun p => slotB N p.1 p.2) &&
  ((scope.names.all fun y => match y.2 with
    | .free => (match sc.names.lookup y.1 with
      | some .cell | some .free => true
      | _ => false)
    | .local | .cell => own.any (fun p => p.1 == y.1) || !(N.any fun z => z == y.1)
    | _ => true))))
theorem blk_of {N : List Str} {sc scope : Scope} {own : List (Str × Nat)} (h : blkB N sc scope own = true) : BlkOk N sc scope own := by
  unfold blkB at h
  simp only [Bool.and_eq_true, decide_eq_true_eq, List.all_eq_true] at h
  obtain ⟨h1, h2, h3, h4⟩ := h
  refine ⟨h1, h2, fun p hp => slot_of (h3 p hp), fun y hy e => ?_, fun y hy e => ?_⟩
  · have := h4 y hy
    rw [e] at this
    simp only at this
    split at this
    · exact .inl (by assumption)
    · exact .inr (by assumption)
    · cases this
  · have := h4 y hy
    have : (own.any (fun p => p.1 == y.1) || !(N.any fun z => z == y.1)) = true := by rcases e with e | e <;> rw [e] at this <;> exact this
    rw [Bool.or_eq_true] at this
    rcases this with z | z
    · rw [List.any_eq_true] at z
      obtain ⟨p, hp, hq⟩ := z
      exact .inl (List.mem_map.mpr ⟨p, hp, eq_of_beq hq⟩)
    · refine .inr fun hm => ?_
      have : (N.any fun z => z == y.1) = true := List.any_eq_true.mpr ⟨y.1, hm, by simp⟩
      rw [this] at z
      cases z
/-- a test of its own kind -/
def plainT : Expr → Bool
  | .UnaryOp .Not _ _ | .BoolOp .. | .IfExp .. | .Compare .. => false
  | _ => true
theorem plain_true {e : Expr} {env : PySem.Env} (h : plainT e = true) : ∀ whole, isTrue e env whole = (do let v ← whole; standAt e.pos; holding [v] (truthy v)) := by
  intro whole
  cases e <;> first | rfl | (cases h; done) | skip
  rename_i op a p
  cases op <;> first | rfl | (cases h; done)
def BoolOp.isAnd : BoolOp → Bool
  | .And => true
  | .Or => false
mutual
def chkE : Nat → Meta → List Str → Scope → E → Expr → Bool
  | 0, _, _, _, _, _ => false
  | n + 1, M, N, sc, ir, e => match ir with
    | .var i => (match e with
      | .Name x _ => slotB N x i && (visB sc x && okn x)
      | _ => false)
    | .kon d => chkK M sc d e
    | .gtup xs => (match e with
      | .Name x _ => gloB sc x && (okn x && (match M.gtups.lookup x with
        | some ys => decide (ys = xs)
        | none => false))
      | _ => false)
    | .tup is => (match e with
      | .Tuple es _ _ => chkEs n M N sc is es && decide (is.length ≤ 1000)
      | _ => false)
    | .lst is => (match e with
      | .List es _ => chkEs n M N sc is es && decide (is.length ≤ 1000)
      | _ => false)
    | .newL is => (match e with
      | .List es _ => chkEs n M N sc is es && decide (is.length ≤ 1000)
      | _ => false)
    | .newD ks is => (match e with
      | .Dict keys vals _ => (match keys with
        | [] => ks.isEmpty && (is.isEmpty && vals.isEmpty)
        | _ => keysB ks keys && (chkEs n M N sc is vals && (decide (keys.length ≤ 15) && decide (keys.length = vals.length))))
      | _ => false)
    | .bin op a b => (match e with
      | .BinOp x o y _ => decide (o = op.py) && (chkE n M N sc a x && chkE n M N sc b y)
      | _ => false)
    | .neg a => (match e with
      | .UnaryOp .USub x _ => chkE n M N sc a x
      | _ => false)
    | .cmp op a b => (match e with
      | .Compare x [o] [y] _ => decide (o = op.py) && (noSet y && (chkE n M N sc a x && chkE n M N sc b y))
      | _ => false)
    | .isN a => (match e with
      | .Compare x [.Is] [.Constant .none _ _] _ => chkE n M N sc a x
      | _ => false)
    | .notN a => (match e with
      | .Compare x [.IsNot] [.Constant .none _ _] _ => chkE n M N sc a x
      | _ => false)
    | .chain o1 o2 a b c => (match e with
      | .Compare x [p, q] [y, z] _ => decide (p = o1.py) && (decide (q = o2.py) && (noSet z && (chkE n M N sc a x && (chkE n M N sc b y && chkE n M N sc c z))))
      | _ => false)
    | .and a b => (match e with
      | .BoolOp op (x :: y :: rest) pos => BoolOp.isAnd op && (chkE n M N sc a x && (match rest with
        | [] => chkE n M N sc b y
        | _ => chkE n M N sc b (.BoolOp op (y :: rest) pos)))
      | _ => false)
    | .or a b => (match e with
      | .BoolOp op (x :: y :: rest) pos => !BoolOp.isAnd op && (chkE n M N sc a x && (match rest with
        | [] => chkE n M N sc b y
        | _ => chkE n M N sc b (.BoolOp op (y :: rest) pos)))
      | _ => false)
    | .not a => (match e with
      | .UnaryOp .Not x _ => chkE n M N sc a x
      | _ => false)
    | .ite c a b => (match e with
      | .IfExp t x y _ => chkE n M N sc c t && (chkE n M N sc a x && chkE n M N sc b y)
      | _ => false)
    | .call f is => (match e with
      | .Call (.Name x _) es [] _ => (x == M.gname f && !(x == Str.empty)) && (gloB sc x && (okn x && ((M.tab.fn f).isSome && (es.all noStar && chkEs n M N sc is es))))
      | _ => false)
    | .meth m o is => (match e with
      | .Call (.Attribute v nm ap) es [] pos => nm == M.mname m && (attrOk v && ((ap.endLine == pos.line) && (es.all noStar && (decide (es.length < 20) && (chkE n M N sc o v && chkEs n M N sc is es)))))
      | _ => false)
    | .new k is => (match e with
      | .Call (.Name x _) (a :: es) [] _ => x == M.cname k && (decide (k < M.ncl) && (gloB sc x && (okn x && ((a :: es).all noStar && chkEs n M N sc is (a :: es)))))
      | _ => false)
    | .attr o f => (match e with
      | .Attribute v nm _ => nm == M.fname f && (decide (f < M.nfld) && (attrOk v && chkE n M N sc o v))
      | _ => false)
    | .idx o i => (match e with
      | .Subscript v s _ => noSlice s && (chkE n M N sc o v && chkE n M N sc i s)
      | _ => false)
    | .sli o lo hi => (match e with
      | .Subscript v (.Slice l h none _) _ => chkE n M N sc o v && (chkO n M N sc lo l && chkO n M N sc hi h)
      | _ => false)
    | .rev o => (match e with
      | .Subscript v (.Slice none none (some (.UnaryOp .USub (.Constant (.int 1) _ _) _)) _) _ => chkE n M N sc o v
      | _ => false)
    | .bi b is => (match b.plain with
      | true => (match e with
        | .Call (.Name x _) (a :: es) [] _ => x == b.s && (gloB sc x && ((a :: es).all noStar && chkEs n M N sc is (a :: es)))
        | _ => false)
      | false => (match is, e with
        | [i], .Call (.Name x _) [.Call (.Name y _) [a] [] _] [] _ => x == b.s && (y == (match b with | .nset => ("set" : Str) | _ => ("range" : Str)) && (gloB sc x && (gloB sc y && (noStar a && chkE n M N sc i a))))
        | _, _ => false))
    | .isi a ts => (match e with
      | .Call (.Name x _) [v, t] [] _ => x == ("isinstance" : Str) && (gloB sc x && (noStar v && (chkE n M N sc a v && (match ts, t with
        | [u], .Name y _ => y == u.s && gloB sc y
        | [u, u'], .Tuple [.Name y _, .Name y' _] _ _ => y == u.s && (gloB sc y && (y' == u'.s && gloB sc y'))
        | _, _ => false))))
      | _ => false)
    | .bm m o is => (match e with
      | .Call (.Attribute v nm ap) es [] pos => nm == m.s && (attrOk v && ((ap.endLine == pos.line) && (es.all noStar && (decide (es.length < 20) && ((match m, es with
        | .append, [_] => true
        | .extend, [_] => true
        | .popAt, [_] => true
        | .pop0, [] => true
        | .clear, [] => true
        | _, _ => false) && (chkE n M N sc o v && chkEs n M N sc is es))))))
      | _ => false)
    | .comp tg tp k src cond elt => (match e with
      | .ListComp el [⟨t, it, ifs, 0⟩] scope _ => blkB N sc scope (tgOwn tg t) && (tgB N (relS scope sc) (fun x => scope.names.lookup x == some .cell) tg tp t && (noSet it && (chkI n M N sc tp k src it && (chkE n M N (relS scope sc) elt el && (match ifs with
        | [] => (match cond with
          | .kon (.bl true) => true
          | _ => false)
        | [f] => chkE n M N (relS scope sc) cond f
        | _ => false)))))
      | _ => false)
    | .told nx i => (match e with
      | .Call (.Name x _) [.Lambda ⟨[], [], none, [], [], none, []⟩ b scope _] [] _ => M.told && (decide (nx = M.nexc) && (x == ("_law_told" : Str) && (gloB sc x && (LamX.lamSB sc scope && chkE n { M with told := false } N scope i b))))
      | _ => false)
    | .frz i => plainT e && chkE n M N sc i e
    | .bounds i => (match e with
      | .Subscript (.Name x _) s _ => M.bnd && (x == ("BOUNDS" : Str) && (gloB sc x && (noSlice s && chkE n M N sc i s)))
      | _ => false)
    | .dpop o k => (match e with
      | .Call (.Attribute v nm ap) [y, .Constant .none _ _] [] pos => nm == ("pop" : Str) && (attrOk v && ((ap.endLine == pos.line) && (noStar y && (chkE n M N sc o v && chkE n M N sc k y))))
      | _ => false)
    | .dpop1 o k => (match e with
      | .Call (.Attribute v nm ap) [y] [] pos => nm == ("pop" : Str) && (attrOk v && ((ap.endLine == pos.line) && (noStar y && (chkE n M N sc o v && chkE n M N sc k y))))
      | _ => false)
def chkEs : Nat → Meta → List Str → Scope → List E → List Expr → Bool
  | 0, _, _, _, _, _ => false
  | n + 1, M, N, sc, is, es => match is, es with
    | [], [] => true
    | i :: is, e :: es => noStar e && (chkE n M N sc i e && chkEs n M N sc is es)
    | _, _ => false
def chkO : Nat → Meta → List Str → Scope → List E → Option Expr → Bool
  | 0, _, _, _, _, _ => false
  | n + 1, M, N, sc, is, e => match is, e with
    | [], none => true
    | [i], some e => chkE n M N sc i e
    | _, _ => false
def chkI : Nat → Meta → List Str → Scope → Bool → SrcK → List E → Expr → Bool
  | 0, _, _, _, _, _, _, _ => false
  | n + 1, M, N, sc, tp, k, src, e => match k with
    | .seq => (match src with
      | [i] => chkE n M N sc i e
      | _ => false)
    | .signs => (match src with
      | [i] => chkE n M N sc i e
      | _ => false)
    | .rng => (match src, e with
      | [i], .Call (.Name x _) [a] [] _ => x == ("range" : Str) && (gloB sc x && (noStar a && chkE n M N sc i a))
      | [i, j], .Call (.Name x _) [a, b] [] _ => x == ("range" : Str) && (gloB sc x && (noStar a && (noStar b && (chkE n M N sc i a && chkE n M N sc j b))))
      | [i, j, k], .Call (.Name x _) [a, b, d] [] _ => x == ("range" : Str) && (gloB sc x && (noStar a && (noStar b && (noStar d && (chkE n M N sc i a && (chkE n M N sc j b && chkE n M N sc k d))))))
      | _, _ => false)
    | .enum => (match src, e with
      | [i], .Call (.Name x _) [a] [] _ => tp && (x == ("enumerate" : Str) && (gloB sc x && (noStar a && chkE n M N sc i a)))
      | _, _ => false)
    | .zip => (match src, e with
      | [i, j], .Call (.Name x _) [a, b] [] _ => tp && (x == ("zip" : Str) && (gloB sc x && (noStar a && (noStar b && (chkE n M N sc i a && chkE n M N sc j b)))))
      | _, _ => false)
    | .keys => false
end
end Y

end

section
set_option Elab.async false
set_option linter.all false
set_option maxRecDepth 100000
set_option maxHeartbeats 1000000
namespace Y
open PySem L2 PyProof.Rows
section
variable {c : Cfg} {ι ι' : List Addr} {S S' : Sto} {H H' H1 : Hp}
/-! ### a heap with more in it -/
theorem step_ext (e : LamX.ExtN H H1) : Step ι S H ι S H1 := by
  refine ⟨⟨[], by simp⟩, fun a o h _ t => e a o h t, fun _ h => .inl h, fun a g o h => ?_⟩
  by_cases t : ∃ ps, o = .tbl ps
  · exact t
  · exact g o (e a o h fun ps z => t ⟨ps, z⟩)
theorem SR.ext (s : SR c ι S H) (e : LamX.ExtN H H1) (t : LamX.Tabs c.T H1) : SR c ι S H1 := by
  refine ⟨s.len, s.inj, fun n a u h1 h2 => ?_, t, zed_step s (step_ext e)⟩
  have q := s.obj n a u h1 h2
  cases u with
  | dead => trivial
  | lst xs => exact OR.step s (step_ext e) (by obtain ⟨_, z, _⟩ := q; rw [z]; exact e _ _ z (fun _ z => nomatch z)) q
  | dic xs => exact OR.step s (step_ext e) (by obtain ⟨_, z, _⟩ := q; rw [z]; exact e _ _ z (fun _ z => nomatch z)) q
  | dit xs => exact OR.step s (step_ext e) (by obtain ⟨_, z, _⟩ := q; rw [z]; exact e _ _ z (fun _ z => nomatch z)) q
  | ins k fs => exact OR.step s (step_ext e) (by obtain ⟨_, _, _, z, _⟩ := q; rw [z]; exact e _ _ z (fun _ z => nomatch z)) q
/-! ### back to the objects of before -/
theorem live_take (hl : ι'.length = S'.length) (hi : ∃ r, ι' = ι ++ r) (hS : S'.take S.length = S) (h0 : ι.length = S.length) {a : Addr} (h : Live ι S a) : Live ι' S' a := by
  obtain ⟨n, o, h1, h2, h3⟩ := h
  obtain ⟨r, rfl⟩ := hi
  refine ⟨n, o, get_pre h1 r, ?_, h3⟩
  rw [← hS] at h2
  rw [List.getElem?_take] at h2
  split at h2
  · exact h2
  · cases h2
mutual
theorem RV.back (hz : ∀ a, Live ι S a → Live ι' S' a) (hi : ∃ r, ι' = ι ++ r) : ∀ (d : D) (v0 v : V), RV c ι S H d v0 → RV c ι' S' H' d v → RV c ι S H' d v
  | .non, _, _, _, h => h
  | .bl _, _, _, _, h => h
  | .int _, _, _, _, h => h
  | .str _, _, _, _, h => h
  | .tup xs, v0, v, h0, h => by
    obtain ⟨a0, vs0, rfl, q0, r0⟩ := h0
    obtain ⟨a, vs, rfl, q, r⟩ := h
    exact ⟨a, vs, rfl, q, RVs.back hz hi xs vs0 vs r0 r⟩
  | .lst xs, v0, v, h0, h => by
    obtain ⟨a0, vs0, rfl, q0, n0, r0⟩ := h0
    obtain ⟨a, vs, rfl, q, n, r⟩ := h
    exact ⟨a, vs, rfl, q, ⟨fun l => n.1 (hz a l), n.2⟩, RVs.back hz hi xs vs0 vs r0 r⟩
  | .scr ns, v0, v, _, h => by
    obtain ⟨a, rfl, (⟨q, n, m⟩ | q)⟩ := h
    · exact ⟨a, rfl, .inl ⟨q, fun l => n (hz a l), m⟩⟩
    · exact ⟨a, rfl, .inr q⟩
  | .ref n, v0, v, h0, h => by
    obtain ⟨a0, rfl, q0⟩ := h0
    obtain ⟨a, rfl, q⟩ := h
    obtain ⟨r, rfl⟩ := hi
    rw [get_pre q0 r] at q
    cases q
    exact ⟨_, rfl, q0⟩
theorem RVs.back (hz : ∀ a, Live ι S a → Live ι' S' a) (hi : ∃ r, ι' = ι ++ r) : ∀ (d : List D) (v0 v : List V), RVs c ι S H d v0 → RVs c ι' S' H' d v → RVs c ι S H' d v
  | [], [], [], _, _ => trivial
  | [], _, _ :: _, _, h => h.elim
  | [], _ :: _, [], h, _ => h.elim
  | _ :: _, [], _, h, _ => h.elim
  | _ :: _, _ :: _, [], _, h => h.elim
  | d :: ds, v0 :: vs0, v :: vs, h0, h => ⟨RV.back hz hi d v0 v h0.1 h.1, RVs.back hz hi ds vs0 vs h0.2 h.2⟩
end
theorem RKs.back {κ : Type} (hz : ∀ a, Live ι S a → Live ι' S' a) (hi : ∃ r, ι' = ι ++ r) : ∀ (d : List (κ × D)) (v0 v : List (κ × V)), RKs c ι S H d v0 → RKs c ι' S' H' d v → RKs c ι S H' d v
  | [], [], [], _, _ => trivial
  | [], _, _ :: _, _, h => h.elim
  | [], _ :: _, [], h, _ => h.elim
  | _ :: _, [], _, h, _ => h.elim
  | _ :: _, _ :: _, [], _, h => h.elim
  | d :: ds, v0 :: vs0, v :: vs, h0, h => ⟨⟨h.1.1, RV.back hz hi d.2 v0.2 v.2 h0.1.2 h.1.2⟩, RKs.back hz hi ds vs0 vs h0.2 h.2⟩
theorem RFs.back (hz : ∀ a, Live ι S a → Live ι' S' a) (hi : ∃ r, ι' = ι ++ r) : ∀ (d : List (Nat × D)) (v0 v : List (Str × V)), RFs c ι S H d v0 → RFs c ι' S' H' d v → RFs c ι S H' d v
  | [], [], [], _, _ => trivial
  | [], _, _ :: _, _, h => h.elim
  | [], _ :: _, [], h, _ => h.elim
  | _ :: _, [], _, h, _ => h.elim
  | _ :: _, _ :: _, [], _, h => h.elim
  | d :: ds, v0 :: vs0, v :: vs, h0, h => ⟨⟨h.1.1, RV.back hz hi d.2 v0.2 v.2 h0.1.2 h.1.2⟩, RFs.back hz hi ds vs0 vs h0.2 h.2⟩
mutual
theorem RV.noref (hz : ∀ a, Live ι S a → Live ι' S' a) : ∀ (d : D) (v : V), d.noref = true → RV c ι' S' H' d v → RV c ι S H' d v
  | .non, _, _, h => h
  | .bl _, _, _, h => h
  | .int _, _, _, h => h
  | .str _, _, _, h => h
  | .tup xs, v, h0, h => by
    obtain ⟨a, vs, rfl, q, r⟩ := h
    exact ⟨a, vs, rfl, q, RVs.noref hz xs vs (by simpa [D.noref] using h0) r⟩
  | .lst xs, v, h0, h => by
    obtain ⟨a, vs, rfl, q, n, r⟩ := h
    exact ⟨a, vs, rfl, q, ⟨fun l => n.1 (hz a l), n.2⟩, RVs.noref hz xs vs (by simpa [D.noref] using h0) r⟩
  | .scr ns, v, _, h => by
    obtain ⟨a, rfl, (⟨q, n, m⟩ | q)⟩ := h
    · exact ⟨a, rfl, .inl ⟨q, fun l => n (hz a l), m⟩⟩
    · exact ⟨a, rfl, .inr q⟩
  | .ref n, v, h0, h => by simp [D.noref] at h0
theorem RVs.noref (hz : ∀ a, Live ι S a → Live ι' S' a) : ∀ (d : List D) (v : List V), D.norefs d = true → RVs c ι' S' H' d v → RVs c ι S H' d v
  | [], [], _, _ => trivial
  | [], _ :: _, _, h => h.elim
  | _ :: _, [], _, h => h.elim
  | d :: ds, v :: vs, h0, h => by
    simp only [D.norefs, Bool.and_eq_true] at h0
    exact ⟨RV.noref hz d v h0.1 h.1, RVs.noref hz ds vs h0.2 h.2⟩
end
/-- what was there is as it was -/
theorem back (s : SR c ι S H) (st : Step ι S H ι' S' H') (s' : SR c ι' S' H') (hS : S'.take S.length = S) : Step ι S H ι S H' ∧ SR c ι S H' ∧ (∀ a, Live ι S a → Live ι' S' a) := by
  have hz : ∀ a, Live ι S a → Live ι' S' a := fun a l => live_take s'.len st.pre hS s.len l
  refine ⟨⟨⟨[], by simp⟩, st.keep, fun _ h => .inl h, st.free⟩, ⟨s.len, s.inj, fun n a o h1 h2 => ?_, s'.tab, fun a ha => ⟨(s'.zed a ha).1, fun l => (s'.zed a ha).2 (hz a l)⟩⟩, hz⟩
  have h1' : ι'[n]? = some a := by obtain ⟨r, e⟩ := st.pre; rw [e]; exact get_pre h1 r
  have h2' : S'[n]? = some o := by
    rw [← hS, List.getElem?_take] at h2
    split at h2
    · exact h2
    · cases h2
  have q0 := s.obj n a o h1 h2
  have q := s'.obj n a o h1' h2'
  cases o with
  | dead => trivial
  | lst xs =>
    obtain ⟨vs0, _, r0⟩ := q0
    obtain ⟨vs, e, r⟩ := q
    exact ⟨vs, e, RVs.back hz st.pre _ _ _ r0 r⟩
  | dic xs =>
    obtain ⟨vs0, _, r0⟩ := q0
    obtain ⟨vs, e, r⟩ := q
    exact ⟨vs, e, RKs.back hz st.pre _ _ _ r0 r⟩
  | dit xs =>
    obtain ⟨vs0, _, r0⟩ := q0
    obtain ⟨vs, e, r⟩ := q
    exact ⟨vs, e, RKs.back hz st.pre _ _ _ r0 r⟩
  | ins k fs =>
    obtain ⟨_, dx0, gs0, _, r0⟩ := q0
    obtain ⟨hk, dx, gs, e, r⟩ := q
    exact ⟨hk, dx, gs, e, RFs.back hz st.pre _ _ _ r0 r⟩
/-! ### the end of a def -/
theorem fin_post {Ex : Nat → Hp → Prop} {Q : VK} {p : Bool} {f : F} (s : SR c ι S H) (h : PostV c ι S H (fin p S f) Ex Q) : PostS c ι S H f Ex { nx := fun _ H' => Q .non H', rt := Q } := by
  cases f with
  | bad => exact h
  | bk _ _ => exact h.elim
  | ct _ _ => exact h.elim
  | nx env S' =>
    intro σ' ι' H' st s' _
    simp only [fin] at h
    split at h
    · split at h
      · rename_i hs
        obtain ⟨st2, s2, _⟩ := back s st s' (sameS_eq _ _ hs)
        exact h.to st2 s2 (v := .non) rfl
      · exact h.elim
    · exact h.to st s' (v := .non) rfl
  | rt d S' =>
    intro v ι' H' st s' r
    simp only [fin] at h
    split at h
    · split at h
      · rename_i hs
        simp only [Bool.and_eq_true] at hs
        obtain ⟨st2, s2, hz⟩ := back s st s' (sameS_eq _ _ hs.1)
        exact h.to st2 s2 (RV.noref hz _ _ hs.2 r)
      · exact h.elim
    · exact h.to st s' r
  | exc k S' =>
    intro ι' H' st s'
    simp only [fin] at h
    split at h
    · split at h
      · rename_i hs
        obtain ⟨st2, s2, _⟩ := back s st s' (sameS_eq _ _ hs)
        exact h ι H' st2 s2
      · exact h.elim
    · exact h ι' H' st s'
end
end Y

end

section
set_option Elab.async false
set_option linter.all false
set_option maxRecDepth 100000
set_option maxHeartbeats 4000000
namespace Y
open PySem L2 PyProof.Rows
/-! ### told -/
/-- what a told lambda comes to: its value, or the name of what it raises -/
def TTc (ea : Nat → Addr) (nx : Nat) : (XK → Hp → VK → Prop) → Hp → VK → Prop := fun tl H Q =>
  tl (fun cls d H' => d = none ∧ ∃ k, cls = .ref (ea k) ∧ k < nx ∧ ∀ H'', (∀ b o, H' b = some o → H'' b = some o) → Q (.str (excName k)) H'') H Q
/-- a lambda's body, its exceptions with their context -/
def lamN (X : Cx) (A : Around) (outer : List PySem.Env) (s : Shared) (H : Hp) (E : XK) (scope : Scope) (f c' : Addr) : Cx :=
  { LamX.lamCx X A outer s H E scope f c' with xe := fun e s' => wpAny (model X.prog X.w) (A.deeper (LamX.lamEnv X scope s.heap.objs.size f c')) (leaving (LamX.lamEnv X scope s.heap.objs.size f c') e) (fun _ z => L2N.CX X.prog X.w outer H s E e z) (fun e' z => L2N.CX X.prog X.w outer H s E e' z) s' }
def lamArgs : Arguments := ⟨[], [], none, [], [], none, []⟩
def ToldAt (c : Cfg) (ea : Nat → Addr) (nx lv : Nat) (Y : Cx) : Prop := ∀ (body : Expr) (scope : Scope) (p lpos pos : Pos) (t : XK → TE), Gl Y "_law_told" → LamX.LamS Y.env.scope scope →
  (∀ (A : Around) (outer : List PySem.Env) (s : Shared) (H : Hp) (E : XK) (f c' : Addr), Room (lv + 1) (A.deeper (LamX.lamEnv Y scope s.heap.objs.size f c')) → PE (lamN Y A outer s H E scope f c') body (t E)) →
  PE Y (.Call (.Name "_law_told" p) [.Lambda lamArgs body scope lpos] [] pos) (LamX.tLam c.T (TTc ea nx) t)
def ToldOk (c : Cfg) (ea : Nat → Addr) (nx lv : Nat) (X : Cx) : Prop := ∀ Y : Cx, Y.prog = X.prog → Y.w = X.w → Y.K = X.K → Y.mg = X.mg → Y.base = X.base → Y.A = X.A → Y.stack = X.stack → Y.calm = true → Y.env.code = X.env.code → Y.env.qual = X.env.qual → ToldAt c ea nx lv Y
section
variable {X : Cx} {c : Cfg} {ea : Nat → Addr} {G : Rules} {W : XK}
theorem told_t {nx : Nat} {i : E} {σ : L2.St} {H : Hp} {Q : VK} (h : tEv c ea G W (.told nx i) σ H Q) : LamX.tLam c.T (TTc ea nx) (fun E => tEv c ea G E i) σ H Q := by
  obtain ⟨z, ι, S, env, s, e, p⟩ := h
  refine ⟨s.tab, fun H1 eN t1 => ?_⟩
  have st := step_ext (ι := ι) (S := S) eN
  refine ⟨z, ι, S, env, s.ext eN t1, e.step s st, ?_⟩
  have p := Post.step p st
  simp only [evE] at p
  cases hr : evE G i env S with
  | bad => rw [hr] at p; exact p
  | ok d S' => rw [hr] at p; exact p
  | exc k S' =>
    rw [hr] at p
    intro ι' H' st' s'
    simp only at p
    split at p
    · rename_i hk
      refine ⟨rfl, k, rfl, hk, fun H'' x => ?_⟩
      have eN' : LamX.ExtN H' H'' := LamX.ExtN.of x
      have st2 := step_ext (ι := ι') (S := S') eN'
      exact p.to (st'.trans st2) (s'.ext eN' (LamX.Tabs.ext s'.tab x)) rfl
    · exact p.elim
end
/-! ### what a text's surroundings give -/
structure Gd (M : Meta) (c : Cfg) (ea fa : Nat → Addr) (fd : Nat → FuncData) (ps : Nat → List Str) (G : Rules) (lv : Nat) (N : List Str) (X : Cx) (W : XK) (sc : Scope) (fb : Str → Bool) : Prop where
  fx : Facts M c X.w X.mg ea fa fd ps
  eK : X.K = c.K
  calm : X.calm = true
  eN : X.N = N
  nd : N.Nodup
  eS : X.env.scope = sc
  eF : X.fn = fb
  rm : Room (lv + 1) X.A
  px : Passes (L2N.CX X.prog X.w) X W
  fns : ∀ f fn, M.tab.fn f = some fn → FnS X c ea G lv f (fa f) (fd f) (ps f)
  gi : G.init = M.tab.init
  gm : G.meth = M.tab.meth
  told : M.told = true → ToldOk c ea M.nexc lv X
section
variable {M : Meta} {c : Cfg} {ea fa : Nat → Addr} {fd : Nat → FuncData} {ps : Nat → List Str} {G : Rules} {lv : Nat} {N : List Str} {X : Cx} {W : XK} {sc : Scope} {fb : Str → Bool}
theorem Facts.untold {w : World} {mg : Str → Option Value} (h : Facts M c w mg ea fa fd ps) : Facts { M with told := false } c w mg ea fa fd ps :=
  ⟨h.gl, h.bd, h.bl, h.gi, h.gs, h.gt, h.ncl, h.fn, h.cl, h.mka, h.na, h.me, h.mf, h.ex, h.bo⟩
theorem Gd.glo (g : Gd M c ea fa fd ps G lv N X W sc fb) {x : Str} (h : gloB sc x = true) : Gl X x := by
  show X.env.scope.names.lookup x = _
  rw [g.eS]
  exact glo_of h
theorem Gd.slot (g : Gd M c ea fa fd ps G lv N X W sc fb) {x : Str} {i : Nat} (h : slotB N x i = true) : X.N[i]? = some x := by rw [g.eN]; exact slot_of h
theorem Gd.vis (g : Gd M c ea fa fd ps G lv N X W sc fb) {x : Str} (h : visB sc x = true) : Vis X.env.scope x := by rw [g.eS]; exact vis_of h
theorem Gd.nodup (g : Gd M c ea fa fd ps G lv N X W sc fb) : X.N.Nodup := by rw [g.eN]; exact g.nd
theorem Gd.un (g : Gd M c ea fa fd ps G lv N X W sc fb) : X.A.units + 65 < cLine := by have := g.rm.un; omega
theorem Gd.bl (g : Gd M c ea fa fd ps G lv N X W sc fb) {x : Str} (h : x ∈ bltns) : X.mg x = none := g.fx.bl x h
theorem Gd.name (g : Gd M c ea fa fd ps G lv N X W sc fb) {x : Str} {i : Nat} {pos : Pos} (h1 : slotB N x i = true) (h2 : locB sc fb x = true) : PG X (.Name x pos) (gName i) := by
  obtain ⟨l, f⟩ := loc_of h2
  exact pg_name g.nodup (g.slot h1) (by rw [g.eS]; exact l) (by rw [g.eF, g.eS]; exact f)
theorem Gd.tg (g : Gd M c ea fa fd ps G lv N X W sc fb) {tg : List Nat} {tp : Bool} {t : Expr} (h : tgB N sc fb tg tp t = true) : PG X t (gT c.K tg tp) := by
  unfold tgB at h
  split at h
  · simp only [Bool.and_eq_true] at h
    exact g.name h.1 h.2
  · simp only [Bool.and_eq_true] at h
    rw [← g.eK]
    exact pg_tup g.calm (pgs_cons (g.name h.1 h.2.1) (pgs_cons (g.name h.2.2.1 h.2.2.2) pgs_nil))
  · cases h
/-- within a comprehension -/
theorem Gd.blk (g : Gd M c ea fa fd ps G lv N X W sc fb) (scope : Scope) (s : Shared) (H : Hp) (C : Addr) (cl : List (Str × Addr)) (fp : List Addr) :
    Gd M c ea fa fd ps G lv N (X.blk s H scope (compEnvC scope cl C X.env) fp) W0 (relS scope sc) (fun x => scope.names.lookup x == some .cell) := by
  refine ⟨g.fx, g.eK, g.calm, g.eN, g.nd, ?_, rfl, g.rm, ?_, g.fns, g.gi, g.gm, fun ht Y h1 h2 h3 h4 h5 h6 h7 h8 h9 h10 => g.told ht Y h1 h2 h3 h4 h5 h6 h7 h8 h9 h10⟩
  · rw [← g.eS]; rfl
  · intro pins σ H s e s' I cx
    obtain ⟨a, B, H', cls, d, _, _, _, _, _, _, _, hE⟩ := cx
    exact hE.elim
/-- within a told lambda -/
theorem Gd.lam (g : Gd M c ea fa fd ps G lv N X W sc fb) (scope : Scope) (A : Around) (outer : List PySem.Env) (s : Shared) (H : Hp) (E : XK) (f c' : Addr) (hr : Room (lv + 1) (A.deeper (LamX.lamEnv X scope s.heap.objs.size f c'))) :
    Gd { M with told := false } c ea fa fd ps G lv N (lamN X A outer s H E scope f c') E scope (fun _ => false) := by
  refine ⟨g.fx.untold, g.eK, rfl, g.eN, g.nd, rfl, rfl, hr, ?_, g.fns, g.gi, g.gm, fun h => nomatch h⟩
  have tk : L2N.Takes (lamN X A outer s H E scope f c') (fun cls d _ H => E cls d H) := L2N.takes_of (X := lamN X A outer s H E scope f c') rfl rfl rfl rfl
  exact L2N.passes_call tk fun _ _ _ _ h => h
/-! ### constants -/
theorem Gd.kon (g : Gd M c ea fa fd ps G lv N X W sc fb) {d : D} {e : Expr} (h : chkK M sc d e = true) : Snd X c ea G W e (.kon d) ∧ plainT e = true := by
  unfold chkK at h
  split at h
  · cases d <;> first | exact ⟨sd_con pe_non fun _ _ _ _ => rfl, rfl⟩ | (cases h; done)
  · cases d <;> first | (cases h; done) | (cases eq_of_beq h; exact ⟨sd_con pe_bl fun _ _ _ _ => rfl, rfl⟩)
  · cases d <;> first | (cases h; done) | (cases eq_of_beq h; exact ⟨sd_con pe_int fun _ _ _ _ => rfl, rfl⟩)
  · cases d <;> first | (cases h; done) | (cases eq_of_beq h; exact ⟨sd_con pe_str fun _ _ _ _ => rfl, rfl⟩)
  · simp only [Bool.and_eq_true] at h
    obtain ⟨⟨h1, h2⟩, h3⟩ := h
    obtain ⟨q, _⟩ := okn_of h2
    cases d with
    | int i =>
      simp only at h3
      split at h3
      · rename_i j hj
        cases eq_of_beq h3
        obtain ⟨t, ht⟩ := g.fx.gi _ _ hj
        exact ⟨sd_con (pe_glob (v := .int i) (g.glo h1) ht ⟨t, rfl⟩ q) fun _ _ _ _ => rfl, rfl⟩
      · cases h3
    | str i =>
      simp only at h3
      split at h3
      · rename_i j hj
        cases eq_of_beq h3
        obtain ⟨t, ht⟩ := g.fx.gs _ _ hj
        exact ⟨sd_con (pe_glob (v := .str i) (g.glo h1) ht ⟨t, rfl⟩ q) fun _ _ _ _ => rfl, rfl⟩
      · cases h3
    | _ => cases h3
  · cases h
abbrev Tri (X : Cx) (c : Cfg) (ea : Nat → Addr) (G : Rules) (W : XK) (e : Expr) (ir : E) : Prop := Snd X c ea G W e ir ∧ SndT X c ea G W e ir ∧ ∀ op vs pos, e = .BoolOp op vs pos → SndW X c ea G W e ir
theorem tri {e : Expr} {ir : E} (h : Snd X c ea G W e ir) (hp : plainT e = true) : Tri X c ea G W e ir := ⟨h, pt_val h (plain_true hp), fun _ _ _ z => by subst z; cases hp⟩
theorem tri2 {e : Expr} {ir : E} (h : Snd X c ea G W e ir) (h2 : SndT X c ea G W e ir) (hp : (match e with | .BoolOp .. => false | _ => true) = true) : Tri X c ea G W e ir := ⟨h, h2, fun _ _ _ z => by subst z; cases hp⟩
end
end Y

end

section
set_option Elab.async false
set_option linter.all false
set_option maxRecDepth 100000
set_option maxHeartbeats 4000000
namespace Y
open PySem L2 PyProof.Rows
/-- each by itself -/
def SndL (X : Cx) (c : Cfg) (ea : Nat → Addr) (G : Rules) (W : XK) : List Expr → List E → Prop
  | [], [] => True
  | e :: es, i :: is => Snd X c ea G W e i ∧ SndL X c ea G W es is
  | _, _ => False
section
variable (c : Cfg) (ea fa : Nat → Addr) (fd : Nat → FuncData) (ps : Nat → List Str) (G : Rules) (lv : Nat) (N : List Str)
def ClE (n : Nat) : Prop := ∀ (M : Meta) (X : Cx) (W : XK) (sc : Scope) (fb : Str → Bool), Gd M c ea fa fd ps G lv N X W sc fb → ∀ ir e, chkE n M N sc ir e = true → Tri X c ea G W e ir
def ClEs (n : Nat) : Prop := ∀ (M : Meta) (X : Cx) (W : XK) (sc : Scope) (fb : Str → Bool), Gd M c ea fa fd ps G lv N X W sc fb → ∀ ir e, chkEs n M N sc ir e = true → SndA X c ea G W e ir ∧ e.all noStar = true ∧ ir.length = e.length ∧ SndL X c ea G W e ir
def ClO (n : Nat) : Prop := ∀ (M : Meta) (X : Cx) (W : XK) (sc : Scope) (fb : Str → Bool), Gd M c ea fa fd ps G lv N X W sc fb → ∀ ir e, chkO n M N sc ir e = true → PO X e (tOv c ea G W ir)
def ClI (n : Nat) : Prop := ∀ (M : Meta) (X : Cx) (W : XK) (sc : Scope) (fb : Str → Bool), Gd M c ea fa fd ps G lv N X W sc fb → ∀ tp k src e, chkI n M N sc tp k src e = true → ∀ tg, (tp = true → ∃ es j p, tg = Expr.Tuple es j p) → SndI X c ea G W tg e k src
end
section
variable {c : Cfg} {ea fa : Nat → Addr} {fd : Nat → FuncData} {ps : Nat → List Str} {G : Rules} {lv : Nat} {N : List Str} {n : Nat} {M : Meta} {X : Cx} {W : XK} {sc : Scope} {fb : Str → Bool} {e : Expr}
theorem es_succ (hE : ClE c ea fa fd ps G lv N n) (hEs : ClEs c ea fa fd ps G lv N n) : ClEs c ea fa fd ps G lv N (n + 1) := by
  intro M X W sc fb g is es h
  cases is with
  | nil =>
    cases es with
    | nil => exact ⟨sa_nil, rfl, rfl, trivial⟩
    | cons _ _ => simp [chkEs] at h
  | cons i is =>
    cases es with
    | nil => simp [chkEs] at h
    | cons e es =>
      simp only [chkEs, Bool.and_eq_true] at h
      obtain ⟨h1, h2, h3⟩ := h
      obtain ⟨a, b, d, l⟩ := hEs M X W sc fb g is es h3
      have q := (hE M X W sc fb g i e h2).1
      exact ⟨sa_cons q a (star_cons h1), by simp [h1, b], by simp [d], q, l⟩
theorem o_succ (hE : ClE c ea fa fd ps G lv N n) : ClO c ea fa fd ps G lv N (n + 1) := by
  intro M X W sc fb g is e h
  unfold chkO at h
  split at h
  · exact so_none
  · exact so_some (hE M X W sc fb g _ _ h).1
  · cases h
theorem i_succ (hE : ClE c ea fa fd ps G lv N n) : ClI c ea fa fd ps G lv N (n + 1) := by
  intro M X W sc fb g tp k src e h tg ht
  unfold chkI at h
  cases k with
  | seq =>
    simp only at h
    split at h
    · exact si_seq g.eK (hE M X W sc fb g _ _ h).1
    · cases h
  | signs =>
    simp only at h
    split at h
    · exact si_str (hE M X W sc fb g _ _ h).1
    · cases h
  | rng =>
    simp only at h
    split at h
    · simp only [Bool.and_eq_true] at h
      obtain ⟨h1, h2, h3, h4⟩ := h
      cases eq_of_beq h1
      exact si_rng1 (g.glo h2) (g.bl (by decide +kernel)) (hE M X W sc fb g _ _ h4).1 h3
    · simp only [Bool.and_eq_true] at h
      obtain ⟨h1, h2, h3, h4, h5, h6⟩ := h
      cases eq_of_beq h1
      exact si_rng2 (g.glo h2) (g.bl (by decide +kernel)) (hE M X W sc fb g _ _ h5).1 (hE M X W sc fb g _ _ h6).1 h3 h4
    · simp only [Bool.and_eq_true] at h
      obtain ⟨h1, h2, h3, h4, h5, h6, h7, h8⟩ := h
      cases eq_of_beq h1
      exact si_rng3 (g.glo h2) (g.bl (by decide +kernel)) (hE M X W sc fb g _ _ h6).1 (hE M X W sc fb g _ _ h7).1 (hE M X W sc fb g _ _ h8).1 h3 h4 h5
    · cases h
  | enum =>
    simp only at h
    split at h
    · simp only [Bool.and_eq_true] at h
      obtain ⟨h0, h1, h2, h3, h4⟩ := h
      cases eq_of_beq h1
      obtain ⟨es, j, p, rfl⟩ := ht h0
      exact si_enum g.eK (g.glo h2) (g.bl (by decide +kernel)) (hE M X W sc fb g _ _ h4).1 h3
    · cases h
  | zip =>
    simp only at h
    split at h
    · simp only [Bool.and_eq_true] at h
      obtain ⟨h0, h1, h2, h3, h4, h5, h6⟩ := h
      cases eq_of_beq h1
      obtain ⟨es, j, p, rfl⟩ := ht h0
      exact si_zip g.eK (g.glo h2) (g.bl (by decide +kernel)) (hE M X W sc fb g _ _ h5).1 (hE M X W sc fb g _ _ h6).1 h3 h4
    · cases h
  | keys => cases h
/-! ### built-ins -/
theorem bi_sound {b : Bi} {is : List E} {a : Expr} {es : List Expr} {x : Str} {p pos : Pos} (g : Gd M c ea fa fd ps G lv N X W sc fb) (hb : b.plain = true) (hx : (x == b.s) = true) (hg : gloB sc x = true) (ha : SndA X c ea G W (a :: es) is) (hs : (a :: es).all noStar = true) : Snd X c ea G W (.Call (.Name x p) (a :: es) [] pos) (.bi b is) := by
  have e := eq_of_beq hx
  subst e
  have hm : X.mg b.s = none := g.bl (by cases b <;> first | (cases hb; done) | decide +kernel)
  have hn : b.s ≠ ("__name__" : Str) := by cases b <;> first | (cases hb; done) | decide +kernel
  have hd : (b.s == ("__debug__" : Str)) = false := by cases b <;> first | (cases hb; done) | decide +kernel
  cases b with
  | len => exact sd_bi call_len (g.glo hg) hm (by decide +kernel) ha hs hn hd fun z => len_by (c := c.at z) g.eK
  | abs => exact sd_bi call_abs (g.glo hg) hm (by decide +kernel) ha hs hn hd fun z => abs_by (c := c.at z)
  | max => exact sd_bi ((call_max2 g.calm).or (cr_max g.calm)) (g.glo hg) hm (by decide +kernel) ha hs hn hd fun z => max_by (c := c.at z) g.eK
  | min => exact sd_bi ((call_min2 g.calm).or (cr_min g.calm)) (g.glo hg) hm (by decide +kernel) ha hs hn hd fun z => min_by (c := c.at z) g.eK
  | sum => exact sd_bi (cr_sum g.calm) (g.glo hg) hm (by decide +kernel) ha hs hn hd fun z => sum_by (c := c.at z) g.eK
  | sorted => exact sd_bi (cr_sortedI.or (call_sortedDI g.calm)) (g.glo hg) hm (by decide +kernel) ha hs hn hd fun z => sorted_by (c := c.at z) g.eK
  | all => exact sd_bi (cr_all g.calm) (g.glo hg) hm (by decide +kernel) ha hs hn hd fun z => all_by (c := c.at z) g.eK
  | int => exact sd_ty call_int1 (g.glo hg) hm (by decide +kernel) ha hs hn hd fun z => int_by (c := c.at z)
  | tuple => exact sd_ty call_tuple_of (g.glo hg) hm (by decide +kernel) ha hs hn hd fun z => tuple_by (c := c.at z) g.eK
  | list => exact sd_ty call_list_of (g.glo hg) hm (by decide +kernel) ha hs hn hd fun z => list_by (c := c.at z) g.eK
  | listR => cases hb
  | tupleR => cases hb
  | nset => cases hb
end
end Y

end

section
set_option Elab.async false
set_option linter.all false
set_option maxRecDepth 100000
set_option maxHeartbeats 4000000
namespace Y
open PySem L2 PyProof.Rows
section
variable {c : Cfg} {ea fa : Nat → Addr} {fd : Nat → FuncData} {ps : Nat → List Str} {G : Rules} {lv : Nat} {N : List Str} {n : Nat} {M : Meta} {X : Cx} {W : XK} {sc : Scope} {fb : Str → Bool} {e : Expr}
theorem keys_pp {pos : Pos} : ∀ {ks : List Str} {keys : List (Option Expr)} {is : List E} {vals : List Expr}, keysB ks keys = true → SndL X c ea G W vals is → keys.length = vals.length →
    PPs X pos keys vals ((ks.zip is).map fun p => (tC (.str p.1), tEv c ea G W p.2)) ∧ keys.all (·.isSome) = true ∧ ks.length = keys.length
  | [], [], is, [], _, _, _ => ⟨by simpa using pps_nil, rfl, rfl⟩
  | [], _ :: _, _, _, h, _, _ => by simp [keysB] at h
  | _ :: _, [], _, _, h, _, _ => by simp [keysB] at h
  | _, [], _, _ :: _, _, _, hl => by simp at hl
  | _, _ :: _, _, [], _, _, hl => by simp at hl
  | _ :: _, _ :: _, [], _ :: _, _, hs, _ => hs.elim
  | k :: ks, key :: keys, i :: is, v :: vals, h, hs, hl => by
    unfold keysB at h
    split at h
    · cases ‹_ = []›
    · rename_i k' ks' x j p r e1 e2
      cases e1
      cases e2
      simp only [Bool.and_eq_true] at h
      have e := eq_of_beq h.1
      subst e
      obtain ⟨a, b, d⟩ := keys_pp (pos := pos) h.2 hs.2 (by simpa using hl)
      exact ⟨pps_cons pe_str hs.1 a, by simp [b], by simp [d]⟩
    · cases h
theorem tg_shape {N : List Str} {sc : Scope} {fb : Str → Bool} {tg : List Nat} {tp : Bool} {t : Expr} (h : tgB N sc fb tg tp t = true) : (tp = true → ∃ es j p, t = Expr.Tuple es j p) ∧ (tgOwn tg t).map (·.2) = tg := by
  unfold tgB at h
  split at h
  · exact ⟨fun z => (by cases z), rfl⟩
  · exact ⟨fun _ => ⟨_, _, _, rfl⟩, rfl⟩
  · cases h
theorem e_succ (hE : ClE c ea fa fd ps G lv N n) (hEs : ClEs c ea fa fd ps G lv N n) (hO : ClO c ea fa fd ps G lv N n) (hI : ClI c ea fa fd ps G lv N n) : ClE c ea fa fd ps G lv N (n + 1) := by
  intro M X W sc fb g ir e h
  have un := g.un
  cases ir with
  | var i =>
    simp only [chkE] at h
    split at h
    · simp only [Bool.and_eq_true] at h
      obtain ⟨h1, h2, h3⟩ := h
      obtain ⟨q1, q2⟩ := okn_of h3
      exact tri (sd_var (g.slot h1) (g.vis h2) q1 q2) rfl
    · cases h
  | kon d =>
    simp only [chkE] at h
    obtain ⟨a, b⟩ := g.kon h
    exact tri a b
  | gtup xs =>
    simp only [chkE] at h
    split at h
    · simp only [Bool.and_eq_true] at h
      obtain ⟨h1, h2, h3⟩ := h
      obtain ⟨q1, q2⟩ := okn_of h2
      split at h3
      · rename_i ys hy
        obtain rfl := of_decide_eq_true h3
        obtain ⟨a, ha, hq⟩ := g.fx.gt _ _ hy
        exact tri (sd_gtup (pe_glob (v := .ref a) (g.glo h1) ha rfl q1) hq) rfl
      · cases h3
    · cases h
  | tup is =>
    simp only [chkE] at h
    split at h
    · simp only [Bool.and_eq_true, decide_eq_true_eq] at h
      exact tri (sd_tup (hEs M X W sc fb g _ _ h.1).1 h.2) rfl
    · cases h
  | lst is =>
    simp only [chkE] at h
    split at h
    · simp only [Bool.and_eq_true, decide_eq_true_eq] at h
      exact tri (sd_lst (hEs M X W sc fb g _ _ h.1).1 h.2) rfl
    · cases h
  | newL is =>
    simp only [chkE] at h
    split at h
    · simp only [Bool.and_eq_true, decide_eq_true_eq] at h
      exact tri (sd_newL (hEs M X W sc fb g _ _ h.1).1 h.2) rfl
    · cases h
  | newD ks is =>
    simp only [chkE] at h
    split at h
    · split at h
      · simp only [Bool.and_eq_true, List.isEmpty_iff] at h
        obtain ⟨rfl, rfl, rfl⟩ := h
        exact tri sd_newD0 rfl
      · rename_i hne
        simp only [Bool.and_eq_true, decide_eq_true_eq] at h
        obtain ⟨h1, h2, h3, h4⟩ := h
        obtain ⟨_, _, l1, l2⟩ := hEs M X W sc fb g _ _ h2
        obtain ⟨a, b, d⟩ := keys_pp h1 l2 h4
        exact tri (sd_newD a b h4 (fun z => hne z) h3 (by omega) (by omega)) rfl
    · cases h
  | bin op a b =>
    simp only [chkE] at h
    split at h
    · simp only [Bool.and_eq_true, decide_eq_true_eq] at h
      obtain ⟨rfl, h1, h2⟩ := h
      have ha := (hE M X W sc fb g _ _ h1).1
      have hb := (hE M X W sc fb g _ _ h2).1
      refine tri ?_ rfl
      cases op with
      | add => exact sd_add g.eK ha hb
      | sub => exact sd_sub ha hb
      | mul => exact sd_mul ha hb
      | fdiv => exact sd_fdiv ha hb
      | mod => exact sd_mod ha hb
      | pow => exact sd_pow ha hb
    · cases h
  | neg a =>
    simp only [chkE] at h
    split at h
    · exact tri (sd_neg (hE M X W sc fb g _ _ h).1) rfl
    · cases h
  | cmp op a b =>
    simp only [chkE] at h
    split at h
    · simp only [Bool.and_eq_true, decide_eq_true_eq] at h
      obtain ⟨rfl, h0, h1, h2⟩ := h
      have ha := (hE M X W sc fb g _ _ h1).1
      have hb := (hE M X W sc fb g _ _ h2).1
      exact tri2 (sd_cmp g.eK un ha hb (marks_ok h0)) (st_cmp g.eK un ha hb (marks_ok h0)) rfl
    · cases h
  | isN a =>
    simp only [chkE] at h
    split at h
    · have ha := (hE M X W sc fb g _ _ h).1
      exact tri2 (sd_isn ha) (st_isn ha) rfl
    · cases h
  | notN a =>
    simp only [chkE] at h
    split at h
    · have ha := (hE M X W sc fb g _ _ h).1
      exact tri2 (sd_notn ha) (st_notn ha) rfl
    · cases h
  | chain o1 o2 a b d =>
    simp only [chkE] at h
    split at h
    · simp only [Bool.and_eq_true, decide_eq_true_eq] at h
      obtain ⟨rfl, rfl, h0, h1, h2, h3⟩ := h
      have ha := (hE M X W sc fb g _ _ h1).1
      have hb := (hE M X W sc fb g _ _ h2).1
      have hd := (hE M X W sc fb g _ _ h3).1
      exact tri2 (sd_chain g.eK un ha hb hd (marks2_ok h0)) (st_chain g.eK un ha hb hd (marks2_ok h0)) rfl
    · cases h
  | and a b =>
    simp only [chkE] at h
    split at h
    · rename_i op x y rest pos
      cases op with
      | Or => cases h
      | And =>
        simp only [Bool.and_eq_true] at h
        obtain ⟨_, h1, h2⟩ := h
        obtain ⟨a1, a2, _⟩ := hE M X W sc fb g _ _ h1
        have hb : Snd X c ea G W (.BoolOp .And (y :: rest) pos) b ∧ SndW X c ea G W (.BoolOp .And (y :: rest) pos) b := by
          cases rest with
          | nil =>
            obtain ⟨b1, b2, _⟩ := hE M X W sc fb g _ _ h2
            exact ⟨sd_one b1, sw_and1 b2⟩
          | cons z rest =>
            obtain ⟨b1, b2, b3⟩ := hE M X W sc fb g _ _ h2
            exact ⟨b1, b3 _ _ _ rfl⟩
        have w := sw_and a2 hb.2
        exact ⟨sd_and a1 hb.1, w.pt, fun _ _ _ _ => w⟩
    · cases h
  | or a b =>
    simp only [chkE] at h
    split at h
    · rename_i op x y rest pos
      cases op with
      | And => cases h
      | Or =>
        simp only [Bool.and_eq_true] at h
        obtain ⟨_, h1, h2⟩ := h
        obtain ⟨a1, a2, _⟩ := hE M X W sc fb g _ _ h1
        have hb : Snd X c ea G W (.BoolOp .Or (y :: rest) pos) b ∧ SndW X c ea G W (.BoolOp .Or (y :: rest) pos) b := by
          cases rest with
          | nil =>
            obtain ⟨b1, b2, _⟩ := hE M X W sc fb g _ _ h2
            exact ⟨sd_one b1, sw_or1 b2⟩
          | cons z rest =>
            obtain ⟨b1, b2, b3⟩ := hE M X W sc fb g _ _ h2
            exact ⟨b1, b3 _ _ _ rfl⟩
        have w := sw_or a2 hb.2
        exact ⟨sd_or a1 hb.1, w.pt, fun _ _ _ _ => w⟩
    · cases h
  | not a =>
    simp only [chkE] at h
    split at h
    · obtain ⟨a1, a2, _⟩ := hE M X W sc fb g _ _ h
      exact tri2 (sd_not a1) (st_not a2) rfl
    · cases h
  | ite t a b =>
    simp only [chkE] at h
    split at h
    · simp only [Bool.and_eq_true] at h
      obtain ⟨h0, h1, h2⟩ := h
      obtain ⟨_, t2, _⟩ := hE M X W sc fb g _ _ h0
      obtain ⟨a1, a2, _⟩ := hE M X W sc fb g _ _ h1
      obtain ⟨b1, b2, _⟩ := hE M X W sc fb g _ _ h2
      exact tri2 (sd_ite t2 a1 b1) (st_ite t2 a2 b2) rfl
    · cases h
  | call f is =>
    simp only [chkE] at h
    split at h
    · rename_i x p es pos
      simp only [Bool.and_eq_true, Option.isSome_iff_exists] at h
      obtain ⟨⟨h1, h0⟩, h2, h3, ⟨fn, h4⟩, h5, h6⟩ := h
      have ex := eq_of_beq h1
      subst ex
      obtain ⟨q, _⟩ := okn_of h3
      obtain ⟨m1, m2⟩ := g.fx.gl f fn h4 (by intro z; rw [z] at h0; simp at h0)
      have F := g.fns f fn h4
      have hb := g.fx.bd f fn h4
      rw [← g.eK] at m2 hb
      have rm := g.rm.mono (Nat.le_succ lv)
      refine tri ?_ rfl
      cases es with
      | nil =>
        cases is with
        | nil => exact sd_call0 F rm (g.glo h2) m1 m2 hb g.px q
        | cons _ _ => have := (hEs M X W sc fb g _ _ h6).2.2.1; simp at this
      | cons a es => exact sd_call F rm (g.glo h2) m1 m2 hb g.px (hEs M X W sc fb g _ _ h6).1 h5 q
    · cases h
  | meth m o is =>
    simp only [chkE] at h
    split at h
    · rename_i v nm ap es pos
      simp only [Bool.and_eq_true, decide_eq_true_eq] at h
      obtain ⟨h1, h2, h3, h4, h5, h6, h7⟩ := h
      have ex := eq_of_beq h1
      subst ex
      have rm := g.rm.mono (Nat.le_succ lv)
      have MS : MethS X c ea G lv m (M.mname m) := by
        refine ⟨fun k f hk => ?_, fun k f hk hm => ?_, fun f => ?_⟩
        · rw [g.gm] at hk; rw [g.fx.ncl]; exact (g.fx.me k m f hk).1
        · rw [g.gm] at hm
          obtain ⟨q1, q2, fn, q3⟩ := g.fx.me k m f hm
          exact ⟨fa f, fd f, ps f, q2, g.fns f fn q3, by rw [g.eK]; exact g.fx.bd f fn q3⟩
        · rw [g.fx.fn]; exact g.fx.mf f m
      have hc : ∀ k, k < c.ncl → Cls c.K (c.ca k) := fun k hk => g.fx.cl k (by rw [← g.fx.ncl]; exact hk)
      have ho := (hE M X W sc fb g _ _ h6).1
      refine tri ?_ rfl
      cases es with
      | nil =>
        cases is with
        | nil => exact sd_meth0 g.eK MS hc rm g.px ho h2 h3
        | cons _ _ => have := (hEs M X W sc fb g _ _ h7).2.2.1; simp at this
      | cons a es => exact sd_meth g.eK MS hc rm g.px ho (hEs M X W sc fb g _ _ h7).1 h4 h2 h3 h5
    · cases h
  | new k is =>
    simp only [chkE] at h
    split at h
    · simp only [Bool.and_eq_true, decide_eq_true_eq] at h
      obtain ⟨h1, h2, h3, h4, h5, h6⟩ := h
      have ex := eq_of_beq h1
      subst ex
      obtain ⟨q, _⟩ := okn_of h4
      obtain ⟨m1, m2, fn, m3⟩ := g.fx.mka k h2
      have F : FnS X c ea G lv (G.init k) (fa (M.tab.init k)) (fd (M.tab.init k)) (ps (M.tab.init k)) := by rw [g.gi]; exact g.fns _ fn m3
      have hb := g.fx.bd _ fn m3
      rw [← g.eK] at m2 hb
      exact tri (sd_new (by rw [g.fx.ncl]; exact h2) m2 F g.rm (g.glo h3) m1 hb g.px (hEs M X W sc fb g _ _ h6).1 h5 q) rfl
    · cases h
  | attr o f =>
    simp only [chkE] at h
    split at h
    · simp only [Bool.and_eq_true, decide_eq_true_eq] at h
      obtain ⟨h1, h2, h3, h4⟩ := h
      have ex := eq_of_beq h1
      subst ex
      have hc : ∀ k, k < c.ncl → Cls c.K (c.ca k) := fun k hk => g.fx.cl k (by rw [← g.fx.ncl]; exact hk)
      have hn : ∀ k, k < c.ncl → NoAttr c.K (c.ca k) (c.fn f) := fun k hk => by rw [g.fx.fn]; exact g.fx.na k f (by rw [← g.fx.ncl]; exact hk) h2
      rw [← g.fx.fn]
      exact tri (sd_attr g.eK hc hn (hE M X W sc fb g _ _ h4).1 h3) rfl
    · cases h
  | idx o i =>
    simp only [chkE] at h
    split at h
    · simp only [Bool.and_eq_true] at h
      obtain ⟨h1, h2, h3⟩ := h
      exact tri (sd_idx g.eK (by omega) (hE M X W sc fb g _ _ h2).1 (hE M X W sc fb g _ _ h3).1 h1) rfl
    · cases h
  | sli o lo hi =>
    simp only [chkE] at h
    split at h
    · simp only [Bool.and_eq_true] at h
      obtain ⟨h1, h2, h3⟩ := h
      exact tri (sd_sli g.eK (hE M X W sc fb g _ _ h1).1 (hO M X W sc fb g _ _ h2) (hO M X W sc fb g _ _ h3)) rfl
    · cases h
  | rev o =>
    simp only [chkE] at h
    split at h
    · exact tri (sd_rev g.eK (hE M X W sc fb g _ _ h).1) rfl
    · cases h
  | bi b is =>
    simp only [chkE] at h
    split at h
    · rename_i hb
      split at h
      · simp only [Bool.and_eq_true] at h
        obtain ⟨h1, h2, h3, h4⟩ := h
        exact tri (bi_sound g hb h1 h2 (hEs M X W sc fb g _ _ h4).1 h3) rfl
      · cases h
    · rename_i hb
      split at h
      · simp only [Bool.and_eq_true] at h
        obtain ⟨h1, h2, h3, h4, h5, h6⟩ := h
        have e1 := eq_of_beq h1
        have e2 := eq_of_beq h2
        subst e1 e2
        refine tri ?_ rfl
        cases b with
        | listR => exact sd_listR g.calm (g.glo h3) (g.bl (by decide +kernel)) (g.glo h4) (g.bl (by decide +kernel)) (hE M X W sc fb g _ _ h6).1 h5
        | tupleR => exact sd_tupR g.calm (g.glo h3) (g.bl (by decide +kernel)) (g.glo h4) (g.bl (by decide +kernel)) (hE M X W sc fb g _ _ h6).1 h5
        | nset => exact sd_nset g.eK g.calm (g.glo h3) (g.bl (by decide +kernel)) (g.glo h4) (g.bl (by decide +kernel)) (hE M X W sc fb g _ _ h6).1 h5
        | _ => cases hb
      · cases h
  | isi a ts =>
    simp only [chkE] at h
    split at h
    · simp only [Bool.and_eq_true] at h
      obtain ⟨h1, h2, h3, h4, h5⟩ := h
      have e1 := eq_of_beq h1
      subst e1
      have ha := (hE M X W sc fb g _ _ h4).1
      split at h5
      · rename_i u y _
        simp only [Bool.and_eq_true] at h5
        obtain ⟨h6, h7⟩ := h5
        have e2 := eq_of_beq h6
        subst e2
        obtain ⟨b1, b2, b3, b4⟩ := Ty.boot u
        exact tri (sd_isi g.eK (g.glo h2) (g.bl (by decide +kernel)) (g.glo h7) (g.bl b4) b1 b2 b3 ha h3) rfl
      · rename_i u u' y p y' _ _ _
        simp only [Bool.and_eq_true] at h5
        obtain ⟨h6, h7, h8, h9⟩ := h5
        have e2 := eq_of_beq h6
        have e3 := eq_of_beq h8
        subst e2 e3
        obtain ⟨b1, b2, b3, b4⟩ := Ty.boot u
        obtain ⟨d1, d2, d3, d4⟩ := Ty.boot u'
        refine tri (sd_isi2 g.eK (g.glo h2) (g.bl (by decide +kernel)) (g.glo h7) (g.bl b4) b1 b2 b3 (g.glo h9) (g.bl d4) d1 d2 d3 ha h3) rfl
      · cases h5
    · cases h
  | bm m o is =>
    simp only [chkE] at h
    split at h
    · rename_i v nm ap es pos
      simp only [Bool.and_eq_true, decide_eq_true_eq] at h
      obtain ⟨h1, h2, h3, h4, h5, h6, h7, h8⟩ := h
      have ex := eq_of_beq h1
      subst ex
      have ho := (hE M X W sc fb g _ _ h7).1
      obtain ⟨ha, _, hl, _⟩ := hEs M X W sc fb g _ _ h8
      refine tri ?_ rfl
      split at h6
      · exact sd_bm g.eK PySem.F.slot_list_append PySem.F.type_list_append mt_append ho ha h4 h2 h3 h5 append_by
      · exact sd_bm g.eK PySem.F.slot_list_extend PySem.F.type_list_extend mt_extend ho ha h4 h2 h3 h5 extend_by
      · exact sd_bm g.eK PySem.F.slot_list_pop PySem.F.type_list_pop mt_popAt ho ha h4 h2 h3 h5 popAt_by
      · cases is with
        | nil => exact sd_bm0 g.eK PySem.F.slot_list_pop PySem.F.type_list_pop mt_pop ho h2 h3 pop_by
        | cons _ _ => simp at hl
      · cases is with
        | nil => exact sd_bm0 g.eK PySem.F.slot_list_clear PySem.F.type_list_clear mt_clear ho h2 h3 clear_by
        | cons _ _ => simp at hl
      · cases h6
    · cases h
  | comp tg tp k src cond elt =>
    simp only [chkE] at h
    split at h
    · rename_i el t it ifs scope pos
      simp only [Bool.and_eq_true] at h
      obtain ⟨h1, h2, h3, h4, h5, h6⟩ := h
      obtain ⟨q1, q2⟩ := tg_shape h2
      refine tri (sd_comp g.calm g.nodup (hI M X W sc fb g _ _ _ _ h4 t q1) ⟨⟨tgOwn tg t, by rw [g.eN, g.eS]; exact blk_of h1, q2⟩, fun s H C cl fp => (g.blk scope s H C cl fp).tg h2, fun s H C cl fp => ?_, fun s H C cl fp => (hE M _ _ _ _ (g.blk scope s H C cl fp) _ _ h5).1⟩ h3) rfl
      split at h6
      · split at h6
        · exact sts_nil
        · cases h6
      · exact sts_one (hE M _ _ _ _ (g.blk scope s H C cl fp) _ _ h6).2.1
      · cases h6
    · cases h
  | told nx i =>
    simp only [chkE] at h
    split at h
    · simp only [Bool.and_eq_true, decide_eq_true_eq] at h
      obtain ⟨h1, h2, h3, h4, h5, h6⟩ := h
      have e1 := eq_of_beq h3
      subst e1 h2
      refine tri (PE.mono (g.told h1 X rfl rfl rfl rfl rfl rfl rfl g.calm rfl rfl _ _ _ _ _ (fun E => tEv c ea G E i) (g.glo h4) (by rw [g.eS]; exact LamX.lamS_by h5) fun A outer s H E f c' hr => ?_) fun σ H Q h => told_t h) rfl
      exact (hE _ _ _ _ _ (g.lam _ A outer s H E f c' hr) _ _ h6).1
    · cases h
  | frz i =>
    simp only [chkE, Bool.and_eq_true] at h
    exact tri (sd_frz (hE M X W sc fb g _ _ h.2).1) h.1
  | bounds i =>
    simp only [chkE] at h
    split at h
    · simp only [Bool.and_eq_true] at h
      obtain ⟨h1, h2, h3, h4, h5⟩ := h
      have e1 := eq_of_beq h2
      subst e1
      obtain ⟨b, b1, b2⟩ := g.fx.bo h1
      rw [← g.eK] at b2
      exact tri (sd_bounds (g.glo h3) b1 b2 (by decide +kernel) (hE M X W sc fb g _ _ h5).1 h4) rfl
    · cases h
  | dpop o k =>
    simp only [chkE] at h
    split at h
    · simp only [Bool.and_eq_true] at h
      obtain ⟨h1, h2, h3, h4, h5, h6⟩ := h
      have e1 := eq_of_beq h1
      subst e1
      exact tri (sd_dpop (hE M X W sc fb g _ _ h5).1 (hE M X W sc fb g _ _ h6).1 h4 h2 h3) rfl
    · cases h
  | dpop1 o k =>
    simp only [chkE] at h
    split at h
    · simp only [Bool.and_eq_true] at h
      obtain ⟨h1, h2, h3, h4, h5, h6⟩ := h
      have e1 := eq_of_beq h1
      subst e1
      exact tri (sd_dpop1 (hE M X W sc fb g _ _ h5).1 (hE M X W sc fb g _ _ h6).1 h4 h2 h3) rfl
    · cases h
end
end Y

end

section
set_option Elab.async false
set_option linter.all false
set_option maxRecDepth 100000
set_option maxHeartbeats 4000000
namespace Y
open PySem L2 PyProof.Rows
section
variable {c : Cfg} {ea fa : Nat → Addr} {fd : Nat → FuncData} {ps : Nat → List Str} {G : Rules} {lv : Nat} {N : List Str}
theorem sound_e : ∀ n, ClE c ea fa fd ps G lv N n ∧ ClEs c ea fa fd ps G lv N n ∧ ClO c ea fa fd ps G lv N n ∧ ClI c ea fa fd ps G lv N n
  | 0 => by
    refine ⟨?_, ?_, ?_, ?_⟩
    · intro M X W sc fb g ir e h; simp [chkE] at h
    · intro M X W sc fb g ir e h; simp [chkEs] at h
    · intro M X W sc fb g ir e h; simp [chkO] at h
    · intro M X W sc fb g tp k src e h; simp [chkI] at h
  | n + 1 => by
    obtain ⟨h1, h2, h3, h4⟩ := sound_e n
    exact ⟨e_succ h1 h2 h3 h4, es_succ h1 h2, o_succ h1, i_succ h1⟩
end
/-! ### names stored from the right -/
def lineOf (ts : List Expr) : Nat := (ts.head?.map (·.pos.line)).getD 0
def swNames (sc : Scope) (ts : List Expr) : List Str := ts.filterMap fun
  | .Name id pos => if sc.names.lookup id == some .local && pos.line == lineOf ts then some id else none
  | _ => none
def anyStar (vs : List Expr) : Bool := vs.any fun
  | .Starred .. => true
  | _ => false
def swNone (sc : Scope) (ts vs : List Expr) : Bool := !(ts.length == 2 || ts.length == 3) || (vs.length != ts.length || (anyStar vs || ((swNames sc ts).length != ts.length || ((swNames sc ts).eraseDups.length != (swNames sc ts).length || vs.all (foldedForSure 8)))))
def swSome (sc : Scope) (ts vs : List Expr) : Bool := (ts.length == 2 || ts.length == 3) && (vs.length == ts.length && (!anyStar vs && ((swNames sc ts).length == ts.length && ((swNames sc ts).eraseDups.length == (swNames sc ts).length && (!vs.all (foldedForSure 8) && !vs.all (constantsAlone 8))))))
theorem sw_eq {ts vs : List Expr} {k k2 : Nat} {p p2 : Pos} {env : PySem.Env} (hk : env.scope.kind = .function) : swappedStores [.Tuple ts k p] (.Tuple vs k2 p2) env =
    if (!(ts.length == 2 || ts.length == 3) || vs.length != ts.length) = true then pure none else if anyStar vs = true then pure none else
    if ((swNames env.scope ts).length != ts.length || (swNames env.scope ts).eraseDups.length != (swNames env.scope ts).length) = true then pure none else
    if vs.all (foldedForSure 8) = true then pure none else if vs.all (constantsAlone 8) = true then (do unsupported "assign.tuple-of-constant-expressions:order-of-the-stores"; pure (some (swNames env.scope ts))) else pure (some (swNames env.scope ts)) := by
  have hb : env.blockKind = .function := by unfold Env.blockKind; rw [hk]; rfl
  unfold swappedStores
  simp only [hb, bne_self_eq_false, Bool.or_false]
  rfl
theorem sw_no {ts vs : List Expr} {k k2 : Nat} {p p2 : Pos} {env : PySem.Env} {sc : Scope} (hk : sc.kind = .function) (hs : env.scope = sc) (h : swNone sc ts vs = true) : swappedStores [.Tuple ts k p] (.Tuple vs k2 p2) env = pure none := by
  subst hs
  rw [sw_eq hk]
  unfold swNone at h
  simp only [Bool.or_eq_true] at h
  by_cases h1 : (!(ts.length == 2 || ts.length == 3) || vs.length != ts.length) = true
  · rw [if_pos h1]
  · rw [if_neg h1]
    by_cases h2 : anyStar vs = true
    · rw [if_pos h2]
    · rw [if_neg h2]
      by_cases h3 : ((swNames env.scope ts).length != ts.length || (swNames env.scope ts).eraseDups.length != (swNames env.scope ts).length) = true
      · rw [if_pos h3]
      · rw [if_neg h3]
        by_cases h4 : vs.all (foldedForSure 8) = true
        · rw [if_pos h4]
        · exfalso
          simp only [Bool.or_eq_true] at h1 h3
          rcases h with h | h | h | h | h | h
          · exact h1 (.inl h)
          · exact h1 (.inr h)
          · exact h2 h
          · exact h3 (.inl h)
          · exact h3 (.inr h)
          · exact h4 h
theorem sw_yes {ts vs : List Expr} {k k2 : Nat} {p p2 : Pos} {env : PySem.Env} {sc : Scope} (hk : sc.kind = .function) (hs : env.scope = sc) (h : swSome sc ts vs = true) : swappedStores [.Tuple ts k p] (.Tuple vs k2 p2) env = pure (some (swNames sc ts)) := by
  subst hs
  rw [sw_eq hk]
  unfold swSome at h
  simp only [Bool.and_eq_true] at h
  obtain ⟨h1, h2, h3, h4, h5, h6, h7⟩ := h
  rw [if_neg (by simp only [h1, bne, h2]; decide), if_neg (by simpa using h3), if_neg (by simp only [bne, h4, h5]; decide), if_neg (by simpa using h6), if_neg (by simpa using h7)]
/-! ### statements -/
def swB (sc : Scope) (y : Str) (py : Pos) (x : Expr) : Bool := match x with
  | .ListComp _ _ scope pos => (sc.names.lookup y == some .local) && ((py.line == pos.line) && !(scope.names.any fun (n, k) => n == y && (k == .local || k == .cell)))
  | _ => false
def okc : Expr → Bool
  | .SetComp .. | .DictComp .. => false
  | _ => true
theorem swaps_name {x : Expr} {y : Str} {py : Pos} {l : Nat} {env : PySem.Env} {sc : Scope} (hk : sc.kind = .function) (hs : env.scope = sc) (h : okc x = true) : swapsWith x (some (.Name y py)) l env = pure (swB sc y py x) := by
  subst hs
  have hb : env.blockKind = .function := by unfold Env.blockKind; rw [hk]; rfl
  cases x <;> first | rfl | (cases h; done) | skip
  rename_i el gs scope pos
  unfold swapsWith swB
  simp only [hb, Env.kindOf, Expr.pos, beq_self_eq_true, Bool.true_and, Bool.and_assoc]
theorem swaps_else {x tg : Expr} {l : Nat} {env : PySem.Env} (h : (match tg with | .Name .. => false | _ => true) = true) : swapsWith x (some tg) l env = pure false := by
  cases x <;> first | rfl | (cases tg <;> first | rfl | (cases h; done))
theorem stores_else {x tg : Expr} {env : PySem.Env} (h : (match tg with | .Tuple .. | .List .. => false | _ => true) = true) : swappedStores [tg] x env = pure none := by
  cases tg <;> first | (cases h; done) | (cases x <;> rfl)
theorem stores_val {x : Expr} {ts : List Expr} {k : Nat} {p : Pos} {env : PySem.Env} (h : (match x with | .Tuple .. => false | _ => true) = true) : swappedStores [.Tuple ts k p] x env = pure none := by
  cases x <;> first | (cases h; done) | rfl
def isComp : E → Bool
  | .comp .. => true
  | _ => false
mutual
def chkC : Nat → Meta → List Str → Scope → C → Stmt → Bool
  | 0, _, _, _, _, _ => false
  | n + 1, M, N, sc, ir, st => match ir with
    | .expr i => (match st with
      | .Expr x _ => noComp x && chkE n M N sc i x
      | _ => false)
    | .asg t i => (match st with
      | .Assign [tg] x _ => chkT n M N sc t tg && (okc x && (chkE n M N sc i x && (match tg with
        | .Name y py => !swB sc y py x || (isComp i && visB sc y)
        | _ => true)))
      | _ => false)
    | .unp ts i => (match st with
      | .Assign [.Tuple tgs _ _] x _ => chkTs n M N sc ts tgs && (chkE n M N sc i x && (match x with
        | .Tuple vs _ _ => swNone sc tgs vs
        | _ => true))
      | _ => false)
    | .par is es => (match st, is, es with
      | .Assign [.Tuple [.Name x px, .Name y py] _ _] (.Tuple [a, b] _ _) _, [i, j], [u, v] => slotB N x i && (slotB N y j && (decide (i ≠ j) && ((sc.names.lookup x == some .local) && ((sc.names.lookup y == some .local) && (decide (swNames sc [.Name x px, .Name y py] = [x, y]) && (swSome sc [.Name x px, .Name y py] [a, b] && chkEs n M N sc [u, v] [a, b]))))))
      | .Assign [.Tuple [.Name x px, .Name y py, .Name w pw] _ _] (.Tuple [a, b, d] _ _) _, [i, j, l], [u, v, t] => slotB N x i && (slotB N y j && (slotB N w l && (decide (i ≠ j) && (decide (i ≠ l) && (decide (j ≠ l) && ((sc.names.lookup x == some .local) && ((sc.names.lookup y == some .local) && ((sc.names.lookup w == some .local) && (decide (swNames sc [.Name x px, .Name y py, .Name w pw] = [x, y, w]) && (swSome sc [.Name x px, .Name y py, .Name w pw] [a, b, d] && chkEs n M N sc [u, v, t] [a, b, d]))))))))))
      | _, _, _ => false)
    | .ifs i a b => (match st with
      | .If t x y _ => chkE n M N sc i t && (chkCs n M N sc a x && chkCs n M N sc b y)
      | _ => false)
    | .for_ tg tp k src body => (match st with
      | .For t it bd [] _ => tgB N sc (fun _ => true) tg tp t && (noSet it && (chkI n M N sc tp k src it && chkCs n M N sc body bd))
      | _ => false)
    | .whil i body => (match st with
      | .While t bd [] _ => chkE n M N sc i t && chkCs n M N sc body bd
      | _ => false)
    | .ret i => (match st with
      | .Return (some x) _ => chkE n M N sc i x
      | _ => false)
    | .retN => (match st with
      | .Return none _ => true
      | _ => false)
    | .raise k => (match st with
      | .Raise (some (.Call (.Name x _) [.Constant (.str _) _ _] [] _)) none _ => x == M.ename k && (decide (k ∈ M.exl) && (gloB sc x && okn x))
      | _ => false)
    | .pass => (match st with
      | .Pass _ => true
      | _ => false)
    | .frz _ => false
def chkCs : Nat → Meta → List Str → Scope → List C → List Stmt → Bool
  | 0, _, _, _, _, _ => false
  | n + 1, M, N, sc, is, sts => match is with
    | [] => sts.isEmpty
    | i :: is => (match i with
      | .frz _ => chkCs n M N sc is sts
      | i => (match sts with
        | st :: sts => chkC n M N sc i st && chkCs n M N sc is sts
        | [] => false))
def chkT : Nat → Meta → List Str → Scope → T → Expr → Bool
  | 0, _, _, _, _, _ => false
  | n + 1, M, N, sc, t, e => match t with
    | .nm i => (match e with
      | .Name x _ => slotB N x i && locB sc (fun _ => true) x
      | _ => false)
    | .at o f => (match e with
      | .Attribute v nm _ => nm == M.fname f && (decide (f < M.nfld) && chkE n M N sc o v)
      | _ => false)
    | .ix o k => (match e with
      | .Subscript v s _ => noSlice s && (chkE n M N sc o v && chkE n M N sc k s)
      | _ => false)
def chkTs : Nat → Meta → List Str → Scope → List T → List Expr → Bool
  | 0, _, _, _, _, _ => false
  | n + 1, M, N, sc, ts, es => match ts, es with
    | [], [] => true
    | t :: ts, e :: es => noStar e && (chkT n M N sc t e && chkTs n M N sc ts es)
    | _, _ => false
end
end Y

end

section
set_option Elab.async false
set_option linter.all false
set_option maxRecDepth 100000
set_option maxHeartbeats 4000000
namespace Y
open PySem L2 PyProof.Rows
structure GdS (M : Meta) (c : Cfg) (ea fa : Nat → Addr) (fd : Nat → FuncData) (ps : Nat → List Str) (G : Rules) (lv : Nat) (N : List Str) (X : Cx) (W : XK) (sc : Scope) : Prop where
  g : Gd M c ea fa fd ps G lv N X W sc (fun _ => true)
  tk : L2N.Takes X (fun cls d _ H => W cls d H)
  po : PassesOwn (model X.prog X.w) X.A X.env X.xe
  kd : sc.kind = .function
section
variable (c : Cfg) (ea fa : Nat → Addr) (fd : Nat → FuncData) (ps : Nat → List Str) (G : Rules) (lv : Nat) (N : List Str)
def ClC (n : Nat) : Prop := ∀ (M : Meta) (X : Cx) (W : XK) (sc : Scope), GdS M c ea fa fd ps G lv N X W sc → ∀ ir e, chkC n M N sc ir e = true → SndS X c ea G W e ir
def ClCs (n : Nat) : Prop := ∀ (M : Meta) (X : Cx) (W : XK) (sc : Scope), GdS M c ea fa fd ps G lv N X W sc → ∀ ir e, chkCs n M N sc ir e = true → SndSs X c ea G W e ir
def ClT (n : Nat) : Prop := ∀ (M : Meta) (X : Cx) (W : XK) (sc : Scope), GdS M c ea fa fd ps G lv N X W sc → ∀ ir e, chkT n M N sc ir e = true → PG X e (gTv c ea G W ir) ∧ noStar e = true ∧ (match e with | .Tuple .. | .List .. => false | _ => true) = true
def ClTs (n : Nat) : Prop := ∀ (M : Meta) (X : Cx) (W : XK) (sc : Scope), GdS M c ea fa fd ps G lv N X W sc → ∀ ir e, chkTs n M N sc ir e = true → PGs X e (gTs c ea G W ir) ∧ e.all noStar = true ∧ e.length = ir.length
end
section
variable {c : Cfg} {ea fa : Nat → Addr} {fd : Nat → FuncData} {ps : Nat → List Str} {G : Rules} {lv : Nat} {N : List Str} {n : Nat} {M : Meta} {X : Cx} {W : XK} {sc : Scope} {fb : Str → Bool}
theorem t_succ : ClT c ea fa fd ps G lv N (n + 1) := by
  obtain ⟨hE, _, _, _⟩ := sound_e (c := c) (ea := ea) (fa := fa) (fd := fd) (ps := ps) (G := G) (lv := lv) (N := N) n
  intro M X W sc s t e h
  have g := s.g
  have un := g.un
  cases t with
  | nm i =>
    simp only [chkT] at h
    split at h
    · simp only [Bool.and_eq_true] at h
      exact ⟨sg_nm (g.name h.1 h.2), rfl, rfl⟩
    · cases h
  | «at» o f =>
    simp only [chkT] at h
    split at h
    · simp only [Bool.and_eq_true, decide_eq_true_eq] at h
      obtain ⟨h1, h2, h3⟩ := h
      have ex := eq_of_beq h1
      subst ex
      have hc : ∀ k, k < c.ncl → Cls c.K (c.ca k) := fun k hk => g.fx.cl k (by rw [← g.fx.ncl]; exact hk)
      have hn : ∀ k, k < c.ncl → NoAttr c.K (c.ca k) (c.fn f) := fun k hk => by rw [g.fx.fn]; exact g.fx.na k f (by rw [← g.fx.ncl]; exact hk) h2
      rw [← g.fx.fn]
      exact ⟨sg_at g.eK hc hn (hE M X W sc _ g _ _ h3).1, rfl, rfl⟩
    · cases h
  | ix o k =>
    simp only [chkT] at h
    split at h
    · simp only [Bool.and_eq_true] at h
      obtain ⟨h1, h2, h3⟩ := h
      exact ⟨sg_ix (by omega) (hE M X W sc _ g _ _ h2).1 (hE M X W sc _ g _ _ h3).1 h1, rfl, rfl⟩
    · cases h
theorem ts_succ (hT : ClT c ea fa fd ps G lv N n) (hTs : ClTs c ea fa fd ps G lv N n) : ClTs c ea fa fd ps G lv N (n + 1) := by
  intro M X W sc s ts es h
  cases ts with
  | nil =>
    cases es with
    | nil => exact ⟨sgs_nil, rfl, rfl⟩
    | cons _ _ => simp [chkTs] at h
  | cons t ts =>
    cases es with
    | nil => simp [chkTs] at h
    | cons e es =>
      simp only [chkTs, Bool.and_eq_true] at h
      obtain ⟨h1, h2, h3⟩ := h
      obtain ⟨a, b, d⟩ := hTs M X W sc s _ _ h3
      exact ⟨sgs_cons (hT M X W sc s _ _ h2).1 a h1, by simp [h1, b], by simp [d]⟩
theorem comp_of (g : Gd M c ea fa fd ps G lv N X W sc fb) {i : E} {el : Expr} {gs : List Comprehension} {scope : Scope} {pos : Pos} (h : chkE n M N sc i (.ListComp el gs scope pos) = true) (hi : isComp i = true) :
    ∃ tg tp k src cond elt t it ifs, i = .comp tg tp k src cond elt ∧ gs = [⟨t, it, ifs, 0⟩] ∧ SndI X c ea G W t it k src ∧ CompS X c ea G scope el t ifs tg tp cond elt ∧ noSet it = true := by
  cases n with
  | zero => simp [chkE] at h
  | succ n =>
    obtain ⟨hE, _, _, hI⟩ := sound_e (c := c) (ea := ea) (fa := fa) (fd := fd) (ps := ps) (G := G) (lv := lv) (N := N) n
    cases i with
    | comp tg tp k src cond elt =>
      simp only [chkE] at h
      split at h
      · rename_i el' t it ifs scope' pos' e
        cases e
        simp only [Bool.and_eq_true] at h
        obtain ⟨h1, h2, h3, h4, h5, h6⟩ := h
        obtain ⟨q1, q2⟩ := tg_shape h2
        refine ⟨tg, tp, k, src, cond, elt, t, it, ifs, rfl, rfl, hI M X W sc fb g _ _ _ _ h4 t q1, ⟨⟨tgOwn tg t, by rw [g.eN, g.eS]; exact blk_of h1, q2⟩, fun s H C cl fp => (g.blk scope s H C cl fp).tg h2, fun s H C cl fp => ?_, fun s H C cl fp => (hE M _ _ _ _ (g.blk scope s H C cl fp) _ _ h5).1⟩, h3⟩
        split at h6
        · split at h6
          · exact sts_nil
          · cases h6
        · exact sts_one (hE M _ _ _ _ (g.blk scope s H C cl fp) _ _ h6).2.1
        · cases h6
      · cases h
    | _ => cases hi
theorem cs_succ (hC : ClC c ea fa fd ps G lv N n) (hCs : ClCs c ea fa fd ps G lv N n) : ClCs c ea fa fd ps G lv N (n + 1) := by
  intro M X W sc s is sts h
  unfold chkCs at h
  split at h
  · cases sts with
    | nil => exact ss_nil
    | cons _ _ => cases h
  · split at h
    · exact ss_frz (hCs M X W sc s _ _ h)
    · split at h
      · simp only [Bool.and_eq_true] at h
        exact ss_cons (hC M X W sc s _ _ h.1) (hCs M X W sc s _ _ h.2)
      · cases h
theorem c_succ (hCs : ClCs c ea fa fd ps G lv N n) (hT : ClT c ea fa fd ps G lv N n) (hTs : ClTs c ea fa fd ps G lv N n) : ClC c ea fa fd ps G lv N (n + 1) := by
  obtain ⟨hE, hEs, _, hI⟩ := sound_e (c := c) (ea := ea) (fa := fa) (fd := fd) (ps := ps) (G := G) (lv := lv) (N := N) n
  intro M X W sc s ir st h
  have g := s.g
  have un := g.un
  cases ir with
  | expr i =>
    simp only [chkC] at h
    split at h
    · simp only [Bool.and_eq_true] at h
      exact s_expr (hE M X W sc _ g _ _ h.2).1 h.1
    · cases h
  | asg t i =>
    simp only [chkC] at h
    split at h
    · rename_i tg x pos
      simp only [Bool.and_eq_true] at h
      obtain ⟨h1, h2, h3, h4⟩ := h
      obtain ⟨t1, t2, t3⟩ := hT M X W sc s _ _ h1
      have he := (hE M X W sc _ g _ _ h3).1
      have hw := stores_else (x := x) (env := X.env) t3
      split at h4
      · rename_i y py
        have sw := swaps_name (x := x) (y := y) (py := py) (l := pos.line) s.kd g.eS h2
        cases hb : swB sc y py x with
        | false =>
          rw [hb] at sw
          exact s_asg he t1 sw hw t2
        | true =>
          rw [hb] at sw h4
          simp only [Bool.not_true, Bool.false_or, Bool.and_eq_true] at h4
          cases x with
          | ListComp el gs scope lp =>
            obtain ⟨tgs, tp, k, src, cond, elt, t', it, ifs, rfl, rfl, q1, q2, q3⟩ := comp_of g h3 h4.1
            have hl : sc.names.lookup y = some .local := by
              simp only [swB, Bool.and_eq_true] at hb
              exact eq_of_beq hb.1
            cases n with
            | zero => simp [chkT] at h1
            | succ n =>
              cases t with
              | nm i =>
                simp only [chkT, Bool.and_eq_true] at h1
                exact s_setLc g.calm g.nodup (g.slot h1.1) (by rw [g.eS]; exact hl) sw q1 q2 q3
              | «at» _ _ => simp [chkT] at h1
              | ix _ _ => simp [chkT] at h1
          | _ => cases hb
      · rename_i hne
        exact s_asg he t1 (swaps_else (by cases tg <;> first | rfl | exact absurd rfl (hne _ _))) hw t2
    · cases h
  | unp ts i =>
    simp only [chkC] at h
    split at h
    · rename_i tgs kk tp x pos
      simp only [Bool.and_eq_true] at h
      obtain ⟨h1, h2, h3⟩ := h
      obtain ⟨t1, t2, t3⟩ := hTs M X W sc s _ _ h1
      have he := (hE M X W sc _ g _ _ h2).1
      refine s_unp (n := 0) g.eK g.calm he t1 t2 t3 (show swapsWith x (some (Expr.Tuple tgs kk tp)) pos.line X.env = pure false from swaps_else (tg := Expr.Tuple tgs kk tp) rfl) ?_
      split at h3
      · exact sw_no s.kd g.eS h3
      · rename_i hne
        exact stores_val (by cases x <;> first | rfl | exact absurd rfl (hne _ _ _))
    · cases h
  | par is es =>
    simp only [chkC] at h
    split at h
    · simp only [Bool.and_eq_true, decide_eq_true_eq] at h
      obtain ⟨h1, h2, h3, h4, h5, h6, h7, h8⟩ := h
      refine s_par2 g.calm g.nodup (g.slot h1) (g.slot h2) h3 (by rw [g.eS]; exact eq_of_beq h4) (by rw [g.eS]; exact eq_of_beq h5) (hEs M X W sc _ g _ _ h8).1 ?_
      rw [← h6]
      exact sw_yes s.kd g.eS h7
    · simp only [Bool.and_eq_true, decide_eq_true_eq] at h
      obtain ⟨h1, h2, h3, h4, h5, h6, h7, h8, h9, h10, h11, h12⟩ := h
      refine s_par3 g.calm g.nodup (g.slot h1) (g.slot h2) (g.slot h3) h4 h5 h6 (by rw [g.eS]; exact eq_of_beq h7) (by rw [g.eS]; exact eq_of_beq h8) (by rw [g.eS]; exact eq_of_beq h9) (hEs M X W sc _ g _ _ h12).1 ?_
      rw [← h10]
      exact sw_yes s.kd g.eS h11
    · cases h
  | ifs i a b =>
    simp only [chkC] at h
    split at h
    · simp only [Bool.and_eq_true] at h
      exact s_if (hE M X W sc _ g _ _ h.1).2.1 (hCs M X W sc s _ _ h.2.1) (hCs M X W sc s _ _ h.2.2)
    · cases h
  | for_ tg tp k src body =>
    simp only [chkC] at h
    split at h
    · simp only [Bool.and_eq_true] at h
      obtain ⟨h1, h2, h3, h4⟩ := h
      exact s_for s.po g.calm (hI M X W sc _ g _ _ _ _ h3 _ (tg_shape h1).1) (g.tg h1) (hCs M X W sc s _ _ h4) h2
    · cases h
  | whil i body =>
    simp only [chkC] at h
    split at h
    · simp only [Bool.and_eq_true] at h
      exact s_while s.po (hE M X W sc _ g _ _ h.1).2.1 (hCs M X W sc s _ _ h.2)
    · cases h
  | ret i =>
    simp only [chkC] at h
    split at h
    · exact s_ret (hE M X W sc _ g _ _ h).1
    · cases h
  | retN =>
    simp only [chkC] at h
    split at h
    · exact s_retN
    · cases h
  | raise k =>
    simp only [chkC] at h
    split at h
    · simp only [Bool.and_eq_true, decide_eq_true_eq] at h
      obtain ⟨h1, h2, h3, h4⟩ := h
      have ex := eq_of_beq h1
      subst ex
      obtain ⟨q, _⟩ := okn_of h4
      obtain ⟨a1, a2, a3, a4, a5⟩ := g.fx.ex k h2
      rw [← g.eK] at a1 a3 a4 a5
      exact s_raise g.calm s.tk (L2N.pmk_own PySem.F.excBase_ValueError a1 a2 a3 (raises_own a4 a5) (g.glo h3) q)
    · cases h
  | pass =>
    simp only [chkC] at h
    split at h
    · exact s_pass
    · cases h
  | frz i => simp [chkC] at h
theorem sound_c : ∀ n, ClC c ea fa fd ps G lv N n ∧ ClCs c ea fa fd ps G lv N n ∧ ClT c ea fa fd ps G lv N n ∧ ClTs c ea fa fd ps G lv N n
  | 0 => by
    refine ⟨?_, ?_, ?_, ?_⟩
    · intro M X W sc g ir e h; simp [chkC] at h
    · intro M X W sc g ir e h; simp [chkCs] at h
    · intro M X W sc g ir e h; simp [chkT] at h
    · intro M X W sc g ir e h; simp [chkTs] at h
  | n + 1 => by
    obtain ⟨h1, h2, h3, h4⟩ := sound_c n
    exact ⟨c_succ h2 h3 h4, cs_succ h1 h2, t_succ, ts_succ h3 h4⟩
end
end Y

end

section
set_option Elab.async false
set_option linter.all false
set_option maxRecDepth 100000
set_option maxHeartbeats 4000000
namespace Y
open PySem L2 PyProof.Rows
/-! ### the defs of a text -/
structure DefT where
  x : Str
  qual : Str
  params : Arguments
  body : List Stmt
  scope : Scope
  N : List Str
  told : Bool
def fnScopeB (N : List Str) (np : Nat) (sc : Scope) : Bool :=
  decide (sc.kind = .function) && (!sc.isCoroutine && (!sc.isGenerator && (decide N.Nodup && (decide (np ≤ N.length) && (((N.take np).all fun x => match sc.names.lookup x with
    | some .local | some .cell => true
    | _ => false) && (sc.names.all fun y => match y.2 with
    | .free => false
    | _ => true))))))
theorem fnScope_of {N : List Str} {np : Nat} {sc : Scope} (h : fnScopeB N np sc = true) : FnScope N (N.take np) sc ∧ np ≤ N.length := by
  unfold fnScopeB at h
  simp only [Bool.and_eq_true, decide_eq_true_eq, Bool.not_eq_true', List.all_eq_true] at h
  obtain ⟨h1, h2, h3, h4, h5, h6, h7⟩ := h
  refine ⟨⟨h1, h2, h3, h4, by rw [List.length_take, Nat.min_eq_left h5], fun x hx => ?_, fun y hy e => ?_⟩, h5⟩
  · have := h6 x hx
    split at this
    · exact .inl (by assumption)
    · exact .inr (by assumption)
    · cases this
  · have := h7 y hy
    rw [e] at this
    cases this
def defOk (fuel : Nat) (M : Meta) (d : DefT) (fn : Fn) : Bool := fnScopeB d.N fn.ar d.scope && (decide (fn.sl = d.N.length) && chkCs fuel { M with told := d.told } d.N d.scope fn.body d.body)
/-- what is known of a def -/
structure DefF (fuel : Nat) (M : Meta) (c : Cfg) (f : Addr) (fd : FuncData) (ps : List Str) (fn : Fn) (d : DefT) : Prop where
  fun_ : ∃ dvs kws, FunD c.K d.x d.qual d.params d.body d.scope dvs kws f fd
  eps : ps = d.N.take fn.ar
  ok : defOk fuel M d fn = true
theorem get_none : ∀ (n i : Nat), Env.get (List.replicate n none) i = none
  | 0, _ => rfl
  | n + 1, 0 => rfl
  | n + 1, i + 1 => by rw [List.replicate_succ]; exact get_none n i
theorem env_start {c : Cfg} {ι : List Addr} {S : Sto} {H : Hp} : ∀ {ds : List D} {vs : List V} {n : Nat}, RVs c ι S H ds vs → EnvR c ι S H (ds.map some ++ List.replicate n none) (vs.map some ++ List.replicate n none) := by
  intro ds vs n r
  refine ⟨by simp [r.length], fun i d h => ?_⟩
  have get_append : ∀ (ds : List D) (i : Nat) (d : D), Env.get (ds.map some ++ List.replicate n none) i = some d → ds[i]? = some d := by
    intro ds
    induction ds with
    | nil =>
      intro i d h
      exfalso
      simp only [List.map_nil, List.nil_append] at h
      rw [get_none] at h
      cases h
    | cons x ds ih =>
      intro i d h
      cases i with
      | zero => simpa [Env.get] using h
      | succ i => simpa using ih i d (by simpa [Env.get] using h)
  obtain ⟨v, h1, h2⟩ := r.get (get_append ds i d h)
  have hi := (List.getElem?_eq_some_iff.mp h1).1
  exact ⟨v, by rw [List.getElem?_append_left (by simpa using hi), List.getElem?_map, h1]; rfl, h2⟩
section
variable {P : Program} {w : World} {mg : Str → Option Value} {base : Heap} {fuel : Nat} {M : Meta} {c : Cfg} {ea fa : Nat → Addr} {fd : Nat → FuncData} {ps : Nat → List Str}
/-- the def at level k + 1 from those at level k -/
theorem fn_step {k f : Nat} {fn : Fn} {d : DefT} (fx : Facts M c w mg ea fa fd ps) (hf : M.tab.fn f = some fn) (F : DefF fuel M c (fa f) (fd f) (ps f) fn d)
    (ih : ∀ f fn, M.tab.fn f = some fn → FnOk P w c.K mg base (L2N.CX P w) (4 * k) (fa f) (fd f) (ps f) (spF c ea (callAt M.tab k) f))
    (tl : d.told = true → ∀ (A : Around) (outer : List PySem.Env) (s : Shared) (H : Hp) (E : XK), Room (4 * k + 3) (A.deeper (envOfC d.qual d.scope s.heap.objs.size (fa f) (fd f).code)) → ToldOk c ea M.nexc (4 * k) (cxOf (L2N.CX P w) P w c.K mg base d.N d.qual d.scope (fa f) (fd f).code A outer s H E)) :
    FnOk P w c.K mg base (L2N.CX P w) (4 * (k + 1)) (fa f) (fd f) (ps f) (spF c ea (callAt M.tab (k + 1)) f) := by
  obtain ⟨dvs, kws, FD⟩ := F.fun_
  have ok := F.ok
  simp only [defOk, Bool.and_eq_true, decide_eq_true_eq] at ok
  obtain ⟨o1, o2, o3⟩ := ok
  obtain ⟨SC, hle⟩ := fnScope_of o1
  have hlen : (ps f).length = fn.ar := by rw [F.eps, List.length_take, Nat.min_eq_left hle]
  rw [F.eps] at hlen ⊢
  have len : ∀ vs H Q E, spF c ea (callAt M.tab (k + 1)) f vs H Q E → vs.length = (d.N.take fn.ar).length := by
    rintro vs H Q E ⟨z, ι, S, ds, s, r, p⟩
    rw [hlen, ← r.length]
    simp only [callAt, hf] at p
    split at p
    · assumption
    · exact p.elim
  obtain ⟨oc, od, dV, kV, doc, pm, an, cdv, ct, osl, e, lk, hcd, _, _⟩ := FD.ex
  have ecd : (fd f).code = cdv := by rw [e] <;> rfl
  rw [ecd] at tl
  rw [e] at lk ⊢
  refine fn_of (k := 4 * k + 3) lk hcd SC len fun A outer s H vs Q E hr hsp => ?_
  obtain ⟨z, ι, S, ds, sr, r, p⟩ := hsp
  simp only [callAt, hf] at p
  split at p
  · rename_i hd
    refine ⟨tCs c ea ⟨callAt M.tab k, M.tab.init, M.tab.meth⟩ E fn.body, ?_, ?_⟩
    · have fx' : Facts { M with told := d.told } c w mg ea fa fd ps := ⟨fx.gl, fx.bd, fx.bl, fx.gi, fx.gs, fx.gt, fx.ncl, fx.fn, fx.cl, fx.mka, fx.na, fx.me, fx.mf, fx.ex, fx.bo⟩
      have tk : L2N.Takes (cxOf (L2N.CX P w) P w c.K mg base d.N d.qual d.scope (fa f) cdv A outer s H E) (fun cls d _ H => E cls d H) := L2N.takes_of (X := cxOf (L2N.CX P w) P w c.K mg base d.N d.qual d.scope (fa f) cdv A outer s H E) rfl rfl rfl rfl
      have g : Gd { M with told := d.told } c ea fa fd ps ⟨callAt M.tab k, M.tab.init, M.tab.meth⟩ (4 * k) d.N (cxOf (L2N.CX P w) P w c.K mg base d.N d.qual d.scope (fa f) cdv A outer s H E) E d.scope (fun _ => true) :=
        ⟨fx', rfl, rfl, rfl, SC.nd, rfl, rfl, hr.mono (by omega), L2N.passes_call tk (fun _ _ _ _ h => h), ih, rfl, rfl, fun ht => tl ht A outer s H E hr⟩
      have gs : GdS { M with told := d.told } c ea fa fd ps ⟨callAt M.tab k, M.tab.init, M.tab.meth⟩ (4 * k) d.N (cxOf (L2N.CX P w) P w c.K mg base d.N d.qual d.scope (fa f) cdv A outer s H E) E d.scope :=
        ⟨g, tk, passes_of (X := cxOf (L2N.CX P w) P w c.K mg base d.N d.qual d.scope (fa f) cdv A outer s H E) rfl, SC.kind⟩
      exact (sound_c fuel).2.1 _ _ _ _ gs _ _ o3
    · refine ⟨z, ι, S, _, sr, ?_, fin_post sr p⟩
      have := env_start (n := fn.sl - fn.ar) r
      have e1 : d.N.length - vs.length = fn.sl - fn.ar := by rw [o2, ← r.length, hd]
      unfold L2.start
      rw [e1]
      exact this
  · exact p.elim
/-- all defs, at all levels -/
theorem fn_all (fx : Facts M c w mg ea fa fd ps) (df : ∀ f fn, M.tab.fn f = some fn → ∃ d, DefF fuel M c (fa f) (fd f) (ps f) fn d ∧
      (d.told = true → ∀ k, (∀ f fn, M.tab.fn f = some fn → FnOk P w c.K mg base (L2N.CX P w) (4 * k) (fa f) (fd f) (ps f) (spF c ea (callAt M.tab k) f)) → ∀ (A : Around) (outer : List PySem.Env) (s : Shared) (H : Hp) (E : XK), Room (4 * k + 3) (A.deeper (envOfC d.qual d.scope s.heap.objs.size (fa f) (fd f).code)) → ToldOk c ea M.nexc (4 * k) (cxOf (L2N.CX P w) P w c.K mg base d.N d.qual d.scope (fa f) (fd f).code A outer s H E))) :
    ∀ k f fn, M.tab.fn f = some fn → FnOk P w c.K mg base (L2N.CX P w) (4 * k) (fa f) (fd f) (ps f) (spF c ea (callAt M.tab k) f)
  | 0, f, fn, h => ⟨fun vs H Q E ⟨z, ι, S, ds, s, r, p⟩ => p.elim, fun A outer s H args us vs Q E _ _ _ _ ⟨z, ι, S, ds, sr, r, p⟩ => p.elim⟩
  | k + 1, f, fn, h => by
    have ih := fn_all fx df k
    obtain ⟨d, F, tl⟩ := df f fn h
    exact fn_step fx h F ih fun ht A outer s H E hr => tl ht k ih A outer s H E hr
end
end Y

end

section
set_option Elab.async false
set_option linter.all false
set_option maxRecDepth 100000
set_option maxHeartbeats 4000000
namespace Y
open PySem PySem.Spec L2 L2H HotX PyProof.Rows
/-! ### within an except suite: the end of a list's walk -/
section
variable {prog : Program} {w : World} {A : Around} {E : Value → Shared → Prop} {s : Shared}
theorem next_end_hot {it l x1 : Addr} {i : Nat} {items : Array Value} {Q : Option Value → Shared → Prop} (hot : HotAt A x1 s.heap) (nx : x1 ≠ it) (hit : s.heap.IsListIter it l i) (hl : s.heap.IsList l items) (hx : items[i]? = none)
    (hQ : ∀ g, (∀ b o, b ≠ it → s.heap.get? b = some o → g.get? b = some o) → Q none { s with heap := g }) : wpAny (model prog w) A (pyNext (.ref it)) Q E s := by
  obtain ⟨o, ho, hc, hd⟩ := id hit
  obtain ⟨ol, hol, _, nl, hdl⟩ := hl
  obtain ⟨hh, o1, vs1, k1, d1, c1⟩ := hot
  have ne : (Value.ref l == Value.none) = false := rfl
  unfold pyNext
  refine wpAny_bind (wpAny_attempt (wpAny_callSpecial?_slot (name := Str.ofString "__next__") hit.typeIs slot_listiter_next (wpAny_call_entry slot_listiter_next hit.typeIs entry_listiter_next ?_ (args_listiter_next _))))
  show wpAny _ _ (field (.ref it) 0 >>= _) _ _ s; refine wpAny_bind (wpAny_field ho hd (x := .ref l) rfl ?_)
  show wpAny _ _ (if (Value.ref l == Value.none) = true then _ else _) _ _ s; rw [if_neg (by rw [ne]; decide)]
  show wpAny _ _ (field (.ref it) 1 >>= _) _ _ s; refine wpAny_bind (wpAny_field ho hd (x := .int i 0) rfl ?_)
  show wpAny _ _ (seqItems? (.ref l) >>= _) _ _ s; refine wpAny_bind (wpAny_seqItems hol hdl ?_)
  simp only [Int.toNat_natCast, hx]; refine wpAny_bind (wpAny_rule (wpAny_bind (wpAny_setField ho hd (by simp) ?_)))
  show wpAny _ _ (newExc (.type "StopIteration") [] >>= _) _ _ _; refine wpAny_bind ?_
  simp only [newExc, newTuple]; refine wpAny_bind (wpAny_newObj_type ?_ (by size_fits))
  refine wpAny_bind (m := firstArgMember _ _) (wpAny_of_eq (a := Value.none) (by first | rfl | (simp only [firstArgMember]; rfl)) ?_); refine wpAny_newObj_type ?_ (by size_fits)
  have up : ∀ b u, b ≠ it → s.heap.get? b = some u → ((s.heap.update it (Obj.mapFields (·.setIfInBounds 0 Value.none)))).get? b = some u := fun b u hb e => by rw [Heap.get?_update_other _ _ (Ne.symm hb)]; exact e
  have k1' := up x1 o1 nx k1
  refine raiseNew_hot ⟨hh, o1, vs1, Heap.get?_push_of_some _ (Heap.get?_push_of_some _ k1'), d1, c1⟩ (Nat.ne_of_lt (Heap.lt_size (Heap.get?_push_of_some _ k1'))) (Heap.get?_push_size _ rfl) rfl (by first | (simp; done) | (simp; omega)) ?_
  refine wpAny_bind (wpAny_isInstance (T := "StopIteration") (b := true) ⟨_, Heap.get?_update_self _ (Heap.get?_push_size _ rfl) rfl, rfl⟩ isSubtype_stop ?_)
  refine wpAny_pure (hQ _ fun b u hb e => ?_)
  have e2 := up b u hb e
  rw [Heap.get?_update_other _ _ (Nat.ne_of_gt (Heap.lt_size (Heap.get?_push_of_some _ e2)))]
  exact Heap.get?_push_of_some _ (Heap.get?_push_of_some _ e2)
/-- a list's walk there -/
theorem walks_hot {x1 : Addr} {o1 : Obj} {vs1 : Array Value} (hh : A.handled = some (.ref x1)) (d1 : o1.data = .fields vs1) (c1 : vs1[2]? = some .none) (I ax : Addr) (hne : ax ≠ I) (hx : x1 ≠ I) (items : Array Value) :
    Walks prog w A I [I, ax, x1] [I] items.size (fun i v => items[i]? = some v) (fun i h => h.IsListIter I ax i ∧ h.IsList ax items ∧ h.get? x1 = some o1) where
  sub := fun b hb => by simp at hb; simp [hb]
  frame := fun _ _ _ st hk => ⟨st.1.at fun o e => hk I (by simp) o e, st.2.1.at fun o e => hk ax (by simp) o e, hk x1 (by simp) _ st.2.2⟩
  item := fun i s Q E hi st hQ => by
    refine wpAny_pyNext_list_item st.1 st.2.1 (x := items[i]) (by simp [hi]) fun g hit' hs' => ?_
    exact hQ _ g s.toks (by simp [hi]) ⟨hit', st.2.1.extBut hs'.extBut hne, hs'.extBut _ _ hx st.2.2⟩ fun b o hb e => hs'.extBut b o (fun z => hb (by simp [z])) e
  done := fun s Q E st hQ => next_end_hot ⟨hh, o1, vs1, st.2.2, d1, c1⟩ hx st.1 st.2.1 (by simp) fun g he' => hQ g s.toks fun b o hb e => he' b o (fun z => hb (by simp [z])) e
  self := fun _ _ _ _ st hQ => wpAny_pyIter_listiter st.1 hQ
/-- sum there -/
theorem sum_hot {x1 l : Addr} {its : List Value} {ns : List Int} {Q : Value → Shared → Prop} (hot : HotAt A x1 s.heap) (hl : s.heap.IsList l its.toArray) (hi : IntsAre its ns)
    (h : ∀ g tk t', (∀ b o, s.heap.get? b = some o → g.get? b = some o) → Q (.int ns.sum t') { s with heap := g, toks := tk }) : wpAny (model prog w) A (call (.builtin "sum") [.ref l]) Q E s := by
  obtain ⟨xs, e⟩ := hi.allInts.items
  have hn : numsOf (intItems xs).toList = ns := by rw [← e]; exact hi.numsOf
  rw [nums_intItems] at hn
  rw [e] at hl
  obtain ⟨hh, o1, vs1, k1, d1, c1⟩ := hot
  have lt1 := Heap.lt_size k1
  have ltl : l < s.heap.objs.size := by obtain ⟨_, z, _⟩ := hl; exact Heap.lt_size z
  refine call_sum_walkG (wpAny_pyIter_list hl ⟨_, _, _, _, _, _, numAt xs, rfl, walks_hot (A := A.in1) hh d1 c1 _ l (Nat.ne_of_lt ltl) (Nat.ne_of_lt lt1) (intItems xs), ⟨⟨_, Heap.get?_push_size _ rfl, rfl, rfl⟩, hl.push _, Heap.get?_push_of_some _ k1⟩, fun b hb => ?_, fun _ _ => intItems_at, fun g tk t' hk => ?_⟩)
  · show b < (s.heap.push _).objs.size
    rw [Heap.size_push]
    simp at hb
    rcases hb with z | z | z
    · rw [z]; exact Nat.lt_succ_self _
    · rw [z]; exact Nat.lt_succ_of_lt ltl
    · rw [z]; exact Nat.lt_succ_of_lt lt1
  · have q := h g tk t' fun b o e => hk b o (fun z => by simp at z; have lt := Heap.lt_size e; rw [z] at lt; exact Nat.lt_irrefl _ lt) (Heap.get?_push_of_some _ e)
    have e2 : (intItems xs).size = xs.size := by simp [intItems]
    rw [e2, preSum_eq, List.take_of_length_le (by simp), hn]
    exact q
end
/-! ### how many flags are set -/
theorem vals_bls : ∀ {bs : List Bool} {us : List Value}, Vals (bs.map V.bl) us → us = bs.map Value.bool
  | [], _, .nil => rfl
  | b :: bs, _, .cons r rs => by
    have e : _ = Value.bool b := r
    rw [e, vals_bls rs]; rfl
def asNum (b : Bool) : Int := if b then 1 else 0
theorem ints_flags : ∀ {bs : List Bool} {ys : List Value}, Paired (fun v y => ∃ b : Bool, v = Value.bool b ∧ ∃ t, y = Value.int (asNum b) t) (bs.map Value.bool) ys → IntsAre ys (bs.map asNum)
  | [], _, .nil => .nil
  | b :: bs, _, .cons h hs => by
    obtain ⟨k, e, t, rfl⟩ := h
    cases e
    exact .cons _ _ (ints_flags hs)
section
variable {X : Cx}
theorem pe_count {i : Nat} {x y : Str} {scope : Scope} {p q1 q2 q3 q4 q5 q6 pos : Pos} (hc : HotC X) (hN : X.N[i]? = some x) (hv : Vis X.env.scope x) (hd : (x == ("__debug__" : Str)) = false) (hcd : (x == ("__classdict__" : Str)) = false) (hg : Gl X "sum") (hm : X.mg "sum" = none) (hm2 : X.mg "int" = none)
    (hs : scope.kind = .function ∧ (∀ z ∈ scope.names, z.2 ≠ .free) ∧ (∀ z ∈ scope.names, z.2 ≠ .cell) ∧ (∀ z ∈ scope.names, z.2 = .local → scope.names.lookup z.1 = some .local) ∧ scope.names.lookup y = some .local ∧ scope.names.lookup ("int" : Str) = some .globalImplicit ∧ (y == ("__debug__" : Str)) = false) :
    PE X (.Call (.Name "sum" p) [.ListComp (.Call (.Name "int" q1) [.Name y q2] [] q3) [⟨.Name y q4, .Name x q5, [], 0⟩] scope q6] [] pos)
      (fun σ H Q => ∃ (a : Addr) (bs : List Bool), σ[i]? = some (some (.ref a)) ∧ H a = some (.lst (bs.map V.bl)) ∧ Q (.int (bs.map asNum).sum) H) := by
  obtain ⟨s1, s2, s3, s4, s5, s6, s7⟩ := hs
  refine ⟨fun pins s σ H Q I ⟨a, bs, h1, h2, q⟩ => ?_⟩
  refine wpAny_Call_Name_kw (ld_blt (u := .builtin "sum") I hg hm (by decide +kernel) ?_ (by decide) (by decide))
  refine PyProof.Rows.callWith_builtin1 ?_ rfl rfl
  show wpAny _ _ (spliced ((false, eval (.ListComp _ _ _ _) X.env) :: backTo pos (starEach [] X.env))) _ _ s
  refine Calls.spliced_cons (wpAny_ListComp_walk (fun _ => true) (fun v y => ∃ b : Bool, v = Value.bool b ∧ ∃ t, y = Value.int (asNum b) t) s2 s3 s1 s4 s5 ?_)
  refine thn ((pe_var (pos := q5) hN hv hd hcd).run pins s σ H (fun v H1 => v = .ref a ∧ H1 = H) I ⟨_, h1, rfl, rfl⟩) fun u t1 ⟨v, H1, I1, r1, e1, e2⟩ => ?_
  subst e1
  rw [e2] at I1
  obtain rfl : u = Value.ref a := r1
  obtain ⟨its, rv, pl, hz⟩ := I1.list (.inl (.inl h2))
  have hl := pl.isList
  have ei := vals_bls rv
  obtain ⟨x1, hh, o1, vs1, k1, d1, c1⟩ := hc.at I1
  have lt1 := Heap.lt_size k1
  have ltl : a < t1.heap.objs.size := by obtain ⟨_, z, _⟩ := hl; exact Heap.lt_size z
  refine wpAny_pyIter_list hl ⟨_, _, _, _, _, _, rfl, walks_hot hh d1 c1 _ a (Nat.ne_of_lt ltl) (Nat.ne_of_lt lt1) its.toArray, ?_, ⟨⟨_, Heap.get?_push_size _ rfl, rfl, rfl⟩, hl.push _, Heap.get?_push_of_some _ k1⟩, fun b hb => ?_, ?_, ?_⟩
  · have := rv.length
    simp at this hz ⊢
    omega
  · show b < (t1.heap.push _).objs.size
    rw [Heap.size_push]
    simp at hb
    rcases hb with z | z | z
    · rw [z]; exact Nat.lt_succ_self _
    · rw [z]; exact Nat.lt_succ_of_lt ltl
    · rw [z]; exact Nat.lt_succ_of_lt lt1
  · refine ⟨fun C j v t3 m3 E' hP hn hmx hk ht => wpAny_tests_nil ⟨rfl, t3.heap, t3.toks, rfl, fun _ _ e => e⟩, fun C j v t3 m3 E' hP _ hn hmx hk ht => ?_⟩
    have old : ∀ b o, t1.heap.get? b = some o → t3.heap.get? b = some o := fun b o e => hk b o (fun z => by simp at z; have lt := Heap.lt_size e; rw [z] at lt; exact Nat.lt_irrefl _ lt) (Heap.get?_push_of_some _ e)
    obtain ⟨mb, b1, b2⟩ := I1.mod.blt
    refine wpAny_Call_Name_kw (Calls.Name_function_global s1 s6 (Calls.loadGlobal_builtin (mg := X.mg) (mb := mb) (v := .type "int") (by show t3.heap.Ns X.env.globals _; rw [I1.ok.glob]; exact (I1.mod.glob.keeps I1.bk).keeps old) hm2 (by show t3.heap.Ns X.env.builtins _; rw [I1.ok.blt]; exact (b1.keeps I1.bk).keeps old) ((b2 "int" (by decide)).trans (by decide +kernel)) ?_) (by decide))
    refine PyProof.Rows.callWith_type1 ?_ rfl rfl
    show wpAny _ _ (spliced ((false, eval (.Name y q2) _) :: backTo q3 (starEach [] _))) _ _ t3
    refine Calls.spliced_cons (wpAny_Name (wpAny_loadName_local s1 s5 hn hmx (Calls.spliced_nil ?_)) s7)
    have hb : ∃ b : Bool, v = Value.bool b := by
      have hP : its.toArray[j]? = some v := hP
      rw [ei] at hP
      simp only [List.getElem?_toArray, List.getElem?_map, Option.map_eq_some_iff] at hP
      obtain ⟨b, _, e⟩ := hP
      exact ⟨b, e.symm⟩
    obtain ⟨b, rfl⟩ := hb
    exact call_int_bool ⟨⟨b, rfl, _, rfl⟩, t3.heap, _, rfl, fun _ _ e => e⟩
  · intro D g tk ys vs hD hL hP2 hlen hPv hF hk
    have old : ∀ b o, t1.heap.get? b = some o → g.get? b = some o := fun b o e => hk b o (fun z => by simp at z; have lt := Heap.lt_size e; rw [z] at lt; exact Nat.lt_irrefl _ lt) (Heap.get?_push_of_some _ e)
    refine Calls.spliced_nil ?_
    have ev : vs = its := by
      apply List.ext_getElem?
      intro j
      cases hj : vs[j]? with
      | some v => have := hPv j v hj; simp at this; exact this.symm
      | none =>
        have : its.length ≤ j := by have := List.getElem?_eq_none_iff.mp hj; simp at hlen; omega
        rw [List.getElem?_eq_none this]
    subst ev
    have hF2 := ints_flags (bs := bs) (ys := ys.toList) (by have e3 : vs.filter (fun _ => true) = vs := List.filter_eq_self.mpr (fun _ _ => rfl); rw [← ei, ← e3]; exact hF)
    refine sum_hot (ns := bs.map asNum) ⟨hh, o1, vs1, old _ _ k1, d1, c1⟩ (its := ys.toList) (by simpa using hL) hF2 fun g2 tk2 t' hk2 => ?_
    exact ⟨.int _, H, I1.kept (h' := g2) (t' := tk2) fun b o e => hk2 b o (old b o e), ⟨t', rfl⟩, q⟩
end
end Y

end

section
set_option Elab.async false
set_option linter.all false
set_option maxRecDepth 100000
set_option maxHeartbeats 4000000
namespace Y
open PySem PySem.Spec L2 L2H HotX PyProof.Rows
/-! ### the names of the refusals -/
def excs : List Str := ["BadHouse", "BadWord", "BadNumber", "BadWish", "NoWay", "BadText", "BadRows", "Nothing"]
def ename (k : Nat) : Str := (excs[k]?).getD Str.empty
/-- what a told refusal is asked -/
structure ClsF (K : PySem.W.Frag) (mg : Str → Option Value) (ea : Nat → Addr) (nx : Nat) : Prop where
  le : nx ≤ 8
  ex : ∀ k, k < nx → ExcC K (ea k)
  is_ : ∀ k j, k < nx → j < nx → PySem.W.kitOne K (.ref (ea k)) (.ref (ea j)) = some (decide (k = j))
  ve : ∀ k, k < nx → PySem.W.kitOne K (.ref (ea k)) (.type "ValueError") = some true
  nm : ∀ k, k < nx → mg (ename k) = some (.ref (ea k))
  lamp : ∃ CL : Addr, mg "LampError" = some (.ref CL) ∧ ∀ k, k < nx → PySem.W.exmOne K (.ref (ea k)) (.ref CL) = some true
  b1 : mg "isinstance" = none
  b2 : mg "sum" = none
  b3 : mg "int" = none
  b4 : mg "ValueError" = none
section
variable {X : Cx}
theorem call_isP {a D : Addr} {oe : Obj} (hp : (a, oe) ∈ X.pn) (C : ExcC X.K D) (hz : oe.cls = .ref D ∧ oe.dict = none) (hf : ∃ vs, oe.data = .fields vs) : CallR X (.builtin "isinstance") (rIsE X.K D a) := by
  intro pins s σ H xs us Q I r h
  obtain ⟨c, cv, b, rfl, hcv, e, q⟩ := h
  obtain ⟨u, u', rfl, rx, rt⟩ := Vals.two r
  obtain rfl : u = Value.ref a := rx
  have ec := hcv _ rt
  subst ec
  have hget := (I.pin (a, oe) (List.mem_append_left _ hp)).1
  obtain ⟨vs, hv⟩ := hf
  have J : PySem.W.InstAt s.heap a oe D none := by
    obtain ⟨oc, od, oda, osl⟩ := oe
    obtain ⟨k1, k2⟩ := hz
    dsimp only at k1 k2 hv
    subst k1 k2 hv
    exact ⟨hget, rfl, rfl, trivial⟩
  refine PySem.W.kia_one (PySem.W.handS_kitx_exc C.hg C.hk C.hs C.hd C.ha C.hn C.ht C.hm) I.kIn J e (fun z => nomatch z) ?_
  exact fun tk => ⟨.bl b, H, I.kept (t' := tk) fun _ _ z => z, rfl, q⟩
end
/-- isinstance(e, C) -/
def isE (C : Str) (sc : Scope) : Expr → Bool
  | .Call (.Name f _) [.Name x _, .Name y _] [] _ => f == ("isinstance" : Str) && (x == ("e" : Str) && (y == C && (gloB sc f && gloB sc y)))
  | _ => false
def isEs (sc : Scope) : List Str → List Expr → Bool
  | [], [] => true
  | C :: Cs, e :: es => isE C sc e && isEs sc Cs es
  | _, _ => false
def wordsB : List Str → List Expr → Bool
  | [], [] => true
  | C :: Cs, .Constant (.str x) _ _ :: es => x == C && wordsB Cs es
  | _, _ => false
def nextB (sc : Scope) : Expr → Bool
  | .Call (.Attribute (.Name f _) m ap) [.Constant (.bool true) _ _] [] cp => f == ("flags" : Str) && (m == ("index" : Str) && (ap.endLine == cp.line))
  | _ => false
def restB (nx : Nat) (sc : Scope) : List Stmt → Bool
  | [.Return (some (.Subscript (.List ws _) ix _)) _] => wordsB (excs.take nx) ws && nextB sc ix
  | [.Assign [.Name w _] (.List ws _) _, .Return (some (.Subscript (.Name v _) ix _)) _] => w == ("words" : Str) && (decide (sc.names.lookup ("words" : Str) = some .local) && (v == ("words" : Str) && (wordsB (excs.take nx) ws && nextB sc ix)))
  | _ => false
def cmpScope (y : Str) (sc : Scope) : Bool := decide (sc.kind = .function) && ((sc.names.all fun z => match z.2 with
    | .free | .cell => false
    | .local => decide (sc.names.lookup z.1 = some .local)
    | _ => true) && (decide (sc.names.lookup y = some .local) && (decide (sc.names.lookup ("int" : Str) = some .globalImplicit) && !(y == ("__debug__" : Str)))))
def testB (sc : Scope) : Expr → Bool
  | .BoolOp .Or [.Compare (.Call (.Name f _) [.ListComp (.Call (.Name g _) [.Name y _] [] _) [⟨.Name y2 _, .Name x _, [], 0⟩] csc _] [] _) [.NotEq] [.Constant (.int 1) _ _] _, .UnaryOp .Not v _] _ =>
    f == ("sum" : Str) && (gloB sc f && (g == ("int" : Str) && (y2 == y && (x == ("flags" : Str) && (cmpScope y csc && isE "ValueError" sc v)))))
  | _ => false
def classB (nx : Nat) (sc : Scope) : List Stmt → Bool
  | .Assign [.Name f1 _] (.List l1 _) _ :: .Assign [.Name f2 _] (.BinOp (.Name f3 _) .Add (.List l2 _) _) _ :: .If t [.Return (some (.Constant (.str _) _ _)) _] [] _ :: rest =>
    f1 == ("flags" : Str) && (f2 == ("flags" : Str) && (f3 == ("flags" : Str) && (isEs sc (excs.take 4) l1 && (isEs sc ((excs.take nx).drop 4) l2 && (testB sc t && (decide (4 ≤ nx) && restB nx sc rest))))))
  | _ => false

/-- the place where _law_class runs -/
structure HotZ (Z : Cx) (ea : Nat → Addr) (nx k : Nat) (a : Addr) (oe : Obj) (sc : Scope) : Prop where
  hot : HotC Z
  pin : (a, oe) ∈ Z.pn
  cls : oe.cls = .ref (ea k) ∧ oe.dict = none
  fl : ∃ vs, oe.data = .fields vs
  cf : ClsF Z.K Z.mg ea nx
  lt : k < nx
  eS : Z.env.scope = sc
  n0 : Z.N[0]? = some ("e" : Str)
  n1 : Z.N[1]? = some ("flags" : Str)
  n2 : Z.N[2]? = some ("words" : Str)
  nd : Z.N.Nodup
  l0 : sc.names.lookup ("e" : Str) = some .local
  l1 : sc.names.lookup ("flags" : Str) = some .local
section
variable {Z : Cx} {ea : Nat → Addr} {nx k : Nat} {a : Addr} {oe : Obj} {sc : Scope}
theorem HotZ.glo (z : HotZ Z ea nx k a oe sc) {x : Str} (h : gloB sc x = true) : Gl Z x := by
  show Z.env.scope.names.lookup x = _
  rw [z.eS]; exact glo_of h
theorem HotZ.is_ (z : HotZ Z ea nx k a oe sc) {C : Str} {e : Expr} {v : V} {cv : Value} {b : Bool} (h : isE C sc e = true) (hc : ∀ p, Gl Z C → PE Z (.Name C p) (tC v)) (hv : ∀ u, RelV v u → u = cv) (hk : PySem.W.kitOne Z.K (.ref (ea k)) cv = some b) :
    PE Z e (fun σ H Q => σ[0]? = some (some (.ref a)) ∧ Q (.bl b) H) ∧ noStar e = true ∧ plainT e = true := by
  unfold isE at h
  split at h
  · rename_i f q1 x q2 y q3 q4
    simp only [Bool.and_eq_true] at h
    obtain ⟨h1, h2, h3, h4, h5⟩ := h
    have e1 := eq_of_beq h1
    have e2 := eq_of_beq h2
    have e3 := eq_of_beq h3
    subst e1 e2 e3
    have he : PE Z (.Name "e" q2) (tVar 0) := pe_var z.n0 (.inl (by rw [z.eS]; exact z.l0)) (by decide) (by decide)
    refine ⟨PE.mono (pe_callB (call_isP z.pin (z.cf.ex k z.lt) z.cls z.fl) (z.glo h4) z.cf.b1 (by decide +kernel) (pa_cons he (pa_cons (hc q3 (z.glo h5)) pa_nil))) fun σ H Q ⟨q1, q2⟩ => ⟨_, q1, v, cv, b, rfl, hv, hk, q2⟩, rfl, rfl⟩
  · cases h
theorem HotZ.own (z : HotZ Z ea nx k a oe sc) {j : Nat} {e : Expr} (hj : j < nx) (h : isE (ename j) sc e = true) (hd : (ename j == ("__debug__" : Str)) = false) : PE Z e (fun σ H Q => σ[0]? = some (some (.ref a)) ∧ Q (.bl (decide (k = j))) H) ∧ noStar e = true ∧ plainT e = true :=
  z.is_ h (fun p hg => pe_glob (v := .ref (ea j)) hg (z.cf.nm j hj) rfl hd) (fun u r => r) (z.cf.is_ k j z.lt hj)
/-- a row of such flags -/
theorem HotZ.row (z : HotZ Z ea nx k a oe sc) : ∀ {js : List Nat} {es : List Expr}, (∀ j ∈ js, j < nx) → isEs sc (js.map ename) es = true →
    PA Z es (fun σ H Q => σ[0]? = some (some (.ref a)) ∧ Q (js.map fun j => V.bl (decide (k = j))) H)
  | [], [], _, _ => PA.mono pa_nil fun σ H Q h => h.2
  | [], _ :: _, _, h => by simp [isEs] at h
  | _ :: _, [], _, h => by simp [isEs] at h
  | j :: js, e :: es, hj, h => by
    simp only [List.map_cons, isEs, Bool.and_eq_true] at h
    have hn : j < 8 := Nat.lt_of_lt_of_le (hj j (by simp)) z.cf.le
    have hd : (ename j == ("__debug__" : Str)) = false := by
      have : ∀ j : Fin 8, (ename j == ("__debug__" : Str)) = false := by decide +kernel
      exact this ⟨j, hn⟩
    obtain ⟨p1, p2, _⟩ := z.own (hj j (by simp)) h.1 hd
    have p3 := z.row (fun i hi => hj i (by simp [hi])) h.2
    exact PA.mono (pa_cons p1 p3 (star_cons p2)) fun σ H Q ⟨q1, q2⟩ => ⟨q1, q1, q2⟩
theorem words_pa {X : Cx} : ∀ {Cs : List Str} {es : List Expr}, wordsB Cs es = true → PA X es (fun _ H Q => Q (Cs.map V.str) H)
  | [], [], _ => PA.mono pa_nil fun σ H Q h => h
  | [], _ :: _, h => by simp [wordsB] at h
  | _ :: _, [], h => by simp [wordsB] at h
  | C :: Cs, e :: es, h => by
    unfold wordsB at h
    split at h
    · cases ‹_ = []›
    · rename_i e1 e2
      cases e1
      cases e2
      simp only [Bool.and_eq_true] at h
      have e := eq_of_beq h.1
      subst e
      exact PA.mono (pa_cons pe_str (words_pa h.2)) fun σ H Q h => h
    · cases h
/-- flags.index(True) -/
theorem HotZ.next (z : HotZ Z ea nx k a oe sc) {e : Expr} (h : nextB sc e = true) : PE Z e (fun σ H Q => ∃ (l : Addr) (bs : List Bool) (j : Nat), σ[1]? = some (some (.ref l)) ∧ H l = some (.lst (bs.map V.bl)) ∧ bs[j]? = some true ∧ (∀ m, m < j → bs[m]? = some false) ∧ Q (.int (j : Nat)) H) ∧ noSlice e = true := by
  unfold nextB at h
  split at h
  · rename_i f q1 m ap kk q2 cp
    simp only [Bool.and_eq_true] at h
    obtain ⟨h1, h2, h3⟩ := h
    have e1 := eq_of_beq h1
    have e2 := eq_of_beq h2
    subst e1 e2
    have he : PE Z (.Name "flags" q1) (tVar 1) := pe_var z.n1 (.inl (by rw [z.eS]; exact z.l1)) (by decide) (by decide)
    refine ⟨PE.mono (pe_bm PySem.F.plainAttrs_list PySem.F.slot_list_index PySem.F.type_list_index mt_index he (pa_cons pe_bl pa_nil) (attr_base rfl) rfl h3) fun σ H Q ⟨l, bs, j, q1, q2, q3, q4, q5⟩ => ?_, rfl⟩
    refine ⟨_, q1, .inl ⟨rfl, _, .inl (.inl q2)⟩, l, bs.map V.bl, .bl true, j, .bl true, rfl, rfl, .inl (.inl q2), rfl, ?_, by rw [List.getElem?_map, q3]; rfl, rfl, fun m z' hm hz => ?_, q5⟩
    · rw [List.all_map]; exact List.all_eq_true.mpr fun _ _ => rfl
    · rw [List.getElem?_map, q4 m hm] at hz
      cases hz
      rfl
  · cases h
/-- which flags are set -/
def flagsOf (nx k : Nat) : List Bool := (List.range nx).map fun j => decide (k = j)
theorem flags_sum : ∀ nx : Fin 9, ∀ k : Fin 8, k.val < nx.val → ((flagsOf nx k).map asNum).sum = 1 := by decide +kernel
theorem flags_at (nx k : Nat) (h : k < nx) : (flagsOf nx k)[k]? = some true ∧ ∀ m, m < k → (flagsOf nx k)[m]? = some false := by
  unfold flagsOf
  refine ⟨by rw [List.getElem?_map, List.getElem?_range h]; simp, fun m hm => ?_⟩
  rw [List.getElem?_map, List.getElem?_range (Nat.lt_trans hm h)]
  have : ¬ k = m := by omega
  simp [this]
theorem take_names : ∀ nx : Fin 9, (excs.take nx.val) = (List.range nx).map ename := by decide +kernel
theorem word_at : ∀ nx : Fin 9, ∀ k : Fin 8, k.val < nx.val → (excs.take nx.val)[k.val]? = some (excName k) := by decide +kernel
theorem HotZ.rest (z : HotZ Z ea nx k a oe sc) (hfn : ∀ x, Z.fn x = true) {sts : List Stmt} (h : restB nx sc sts = true) : ∃ t, PSs Z sts t ∧ ∀ D σ H, (∃ l, σ[1]? = some (some (.ref l)) ∧ H l = some (.lst ((flagsOf nx k).map V.bl))) → 2 < σ.length →
    (∀ H', (∀ b o, H b = some o → H' b = some o) → D.rt (.str (excName k)) H') → t D σ H := by
  have hnx : nx < 9 := Nat.lt_succ_of_le z.cf.le
  have hk8 : k < 8 := Nat.lt_of_lt_of_le z.lt z.cf.le
  obtain ⟨f1, f2⟩ := flags_at nx k z.lt
  have hw : ((excs.take nx).map V.str)[k]? = some (.str (excName k)) := by rw [List.getElem?_map, word_at ⟨nx, hnx⟩ ⟨k, hk8⟩ z.lt]; rfl
  have hlen : ((excs.take nx).map V.str).length ≤ 8 := by simp [excs]; omega
  have hat : atI ((excs.take nx).map V.str) (k : Int) = some (.str (excName k)) := by
    have hlt := (List.getElem?_eq_some_iff.mp hw).1
    unfold atI ixN
    rw [if_pos (by omega), if_pos (by omega)]
    simpa using hw
  unfold restB at h
  split at h
  · simp only [Bool.and_eq_true] at h
    obtain ⟨h1, h2⟩ := h
    obtain ⟨n1, n2⟩ := z.next h2
    refine ⟨_, pss_one (ps_ret (pe_ix ix_seq (pe_lst (words_pa h1)) n1 (plain_ix n2))), fun D σ H ⟨l, q1, q2⟩ _ hD => ?_⟩
    refine ⟨line_of (by omega), fun p hp => ⟨l, flagsOf nx k, k, q1, by rw [upd_ne (ne_of_none q2 hp)]; exact q2, f1, f2, ?_⟩⟩
    exact .inl ⟨p, _, k, .str (excName k), rfl, rfl, .inl (.inl upd_same), hat, hD _ fun b o e => by rw [upd_ne (ne_of_none e hp)]; exact e⟩
  · rename_i w q1 ws q2 q3 v q4 ix q5 q6
    simp only [Bool.and_eq_true, decide_eq_true_eq] at h
    obtain ⟨h1, h2, h3, h4, h5⟩ := h
    have e1 := eq_of_beq h1
    have e2 := eq_of_beq h3
    subst e1 e2
    obtain ⟨n1, n2⟩ := z.next h5
    have hw : PE Z (.Name "words" q4) (tVar 2) := pe_var z.n2 (.inl (by rw [z.eS]; exact h2)) (by decide) (by decide)
    refine ⟨_, pss_cons (ps_set z.nd z.n2 (.inl (by rw [z.eS]; exact h2)) (pe_lst (words_pa h4)) rfl (.inl (hfn _))) (pss_one (ps_ret (pe_ix ix_seq hw n1 (plain_ix n2)))), fun D σ H ⟨l, q1, q2⟩ hl hD => ?_⟩
    refine ⟨line_of (by omega), fun p hp => ⟨.ref p, by rw [List.getElem?_set_self hl], l, flagsOf nx k, k, ?_, by rw [upd_ne (ne_of_none q2 hp)]; exact q2, f1, f2, ?_⟩⟩
    · rw [List.getElem?_set_ne (by decide)]; exact q1
    · exact .inl ⟨p, _, k, .str (excName k), rfl, rfl, .inl (.inl upd_same), hat, hD _ fun b o e => by rw [upd_ne (ne_of_none e hp)]; exact e⟩
  · cases h
theorem HotZ.test (z : HotZ Z ea nx k a oe sc) {e : Expr} (h : testB sc e = true) : PT Z e (fun σ H Q => σ[0]? = some (some (.ref a)) ∧ (∃ l, σ[1]? = some (some (.ref l)) ∧ H l = some (.lst ((flagsOf nx k).map V.bl))) ∧ Q false H) := by
  have hnx : nx < 9 := Nat.lt_succ_of_le z.cf.le
  have hk8 : k < 8 := Nat.lt_of_lt_of_le z.lt z.cf.le
  unfold testB at h
  split at h
  · rename_i f q1 g q2 y q3 q4 y2 q5 x q6 csc q7 q8 j q9 q10 v q11 q12
    simp only [Bool.and_eq_true] at h
    obtain ⟨h1, h2, h3, h4, h5, h6, h7⟩ := h
    have e1 := eq_of_beq h1
    have e2 := eq_of_beq h3
    have e3 := eq_of_beq h4
    have e4 := eq_of_beq h5
    subst e1 e2 e3 e4
    obtain ⟨i1, i2, i3⟩ := z.is_ (v := .ty "ValueError") (cv := .type "ValueError") h7 (fun p hg => pe_bltn hg z.cf.b4 (by decide +kernel) rfl (by decide) (by decide)) (fun u r => r) (z.cf.ve k z.lt)
    have hcs : csc.kind = .function ∧ (∀ w ∈ csc.names, w.2 ≠ .free) ∧ (∀ w ∈ csc.names, w.2 ≠ .cell) ∧ (∀ w ∈ csc.names, w.2 = .local → csc.names.lookup w.1 = some .local) ∧ csc.names.lookup y2 = some .local ∧ csc.names.lookup ("int" : Str) = some .globalImplicit ∧ (y2 == ("__debug__" : Str)) = false := by
      unfold cmpScope at h6
      simp only [Bool.and_eq_true, decide_eq_true_eq, List.all_eq_true, Bool.not_eq_true'] at h6
      obtain ⟨c1, c2, c3, c4, c5⟩ := h6
      refine ⟨c1, fun w hw e => ?_, fun w hw e => ?_, fun w hw e => ?_, c3, c4, c5⟩
      · have := c2 w hw; rw [e] at this; cases this
      · have := c2 w hw; rw [e] at this; cases this
      · have := c2 w hw; rw [e] at this; simpa using this
    have pc := pe_count (p := q1) (q1 := q2) (q2 := q3) (q3 := q4) (q4 := q5) (q5 := q6) (q6 := q7) (pos := q8) z.hot z.n1 (.inl (by rw [z.eS]; exact z.l1)) (by decide) (by decide) (z.glo h2) z.cf.b2 z.cf.b3 hcs
    refine PT.mono (pw_or (pt_cmpR op_ne pc pe_int rfl) (pw_or1 (pt_not (pt_val i1 (plain_true i3))))).pt fun σ H Q ⟨w1, ⟨l, w2, w3⟩, w4⟩ => ?_
    refine ⟨l, flagsOf nx k, w2, w3, ?_⟩
    rw [flags_sum ⟨nx, hnx⟩ ⟨k, hk8⟩ z.lt]
    exact ⟨rfl, false, rfl, w1, true, rfl, w4⟩
  · cases h
theorem HotZ.body (z : HotZ Z ea nx k a oe sc) (hfn : ∀ x, Z.fn x = true) {sts : List Stmt} (h : classB nx sc sts = true) : ∃ t, PSs Z sts t ∧ ∀ D σ H, σ[0]? = some (some (.ref a)) → 2 < σ.length → (∀ H', (∀ b o, H b = some o → H' b = some o) → D.rt (.str (excName k)) H') → t D σ H := by
  have hnx : nx < 9 := Nat.lt_succ_of_le z.cf.le
  unfold classB at h
  split at h
  · rename_i f1 q1 l1 q2 q3 f2 q4 f3 q5 l2 q6 q7 q8 tt msg j q9 q10 q11 rest
    simp only [Bool.and_eq_true, decide_eq_true_eq] at h
    obtain ⟨h1, h2, h3, h4, h5, h6, h7, h8⟩ := h
    have e1 := eq_of_beq h1
    have e2 := eq_of_beq h2
    have e3 := eq_of_beq h3
    subst e1 e2 e3
    have t4 : excs.take 4 = (List.range 4).map ename := by decide +kernel
    rw [t4] at h4
    rw [take_names ⟨nx, hnx⟩, ← List.map_drop] at h5
    obtain ⟨t, r1, r2⟩ := z.rest hfn h8
    have p1 := z.row (js := List.range 4) (fun j hj => by have := List.mem_range.mp hj; omega) h4
    have p2 := z.row (js := (List.range nx).drop 4) (fun j hj => List.mem_range.mp (List.mem_of_mem_drop hj)) h5
    have pf : PE Z (.Name "flags" q5) (tVar 1) := pe_var z.n1 (.inl (by rw [z.eS]; exact z.l1)) (by decide) (by decide)
    have loc : Loc Z.env.scope ("flags" : Str) := .inl (by rw [z.eS]; exact z.l1)
    refine ⟨_, pss_cons (ps_set z.nd z.n1 loc (pe_lst p1) rfl (.inl (hfn _))) (pss_cons (ps_set z.nd z.n1 loc (pe_op op_cat pf (pe_lst p2)) rfl (.inl (hfn _))) (pss_cons (ps_if (z.test h6) (pss_one (ps_ret pe_str)) pss_nil) r1)), fun D σ H s0 sl hD => ?_⟩
    have hl1 : ∀ x : Option V, (σ.set 1 x)[1]? = some x := fun x => List.getElem?_set_self (by omega)
    refine ⟨s0, line_of (by simp), fun p hp => ?_⟩
    refine ⟨.ref p, by rw [hl1], ?_, line_of (by simp; omega), fun q hq => ?_⟩
    · rw [List.getElem?_set_ne (by decide)]; exact s0
    · have npq : p ≠ q := ne_of_none upd_same hq
      have el : ((List.range 4).map fun j => V.bl (decide (k = j))) ++ (((List.range nx).drop 4).map fun j => V.bl (decide (k = j))) = (flagsOf nx k).map V.bl := by
        have e0 : (List.range nx).take 4 = List.range 4 := by rw [List.take_range, Nat.min_eq_left h7]
        unfold flagsOf
        rw [List.map_map, ← e0, ← List.map_append, List.take_append_drop]
        rfl
      refine ⟨p, q, _, _, rfl, rfl, by rw [upd_ne npq]; exact upd_same, upd_same, line_of (by simp; omega), fun r hr => ?_⟩
      have keep : ∀ b o, H b = some o → upd (upd (upd H p (.lst ((List.range 4).map fun j => V.bl (decide (k = j))))) q (.lst (((List.range nx).drop 4).map fun j => V.bl (decide (k = j))))) r (.lst (((List.range 4).map fun j => V.bl (decide (k = j))) ++ (((List.range nx).drop 4).map fun j => V.bl (decide (k = j))))) b = some o := fun b o e => by
        have e1 : upd H p (.lst ((List.range 4).map fun j => V.bl (decide (k = j)))) b = some o := by rw [upd_ne (ne_of_none e hp)]; exact e
        have e2 := (upd_ne (o := HO.lst (((List.range nx).drop 4).map fun j => V.bl (decide (k = j)))) (ne_of_none e1 hq)).trans e1
        exact (upd_ne (ne_of_none e2 hr)).trans e2
      have w : ∃ l, ((σ.set 1 (some (V.ref p))).set 1 (some (V.ref r)))[1]? = some (some (V.ref l)) ∧ upd (upd (upd H p (.lst ((List.range 4).map fun j => V.bl (decide (k = j))))) q (.lst (((List.range nx).drop 4).map fun j => V.bl (decide (k = j))))) r (.lst (((List.range 4).map fun j => V.bl (decide (k = j))) ++ (((List.range nx).drop 4).map fun j => V.bl (decide (k = j))))) l = some (.lst ((flagsOf nx k).map V.bl)) :=
        ⟨r, List.getElem?_set_self (by simp; omega), by rw [upd_same, el]⟩
      refine ⟨by rw [List.getElem?_set_ne (by decide), List.getElem?_set_ne (by decide)]; exact s0, w, ?_⟩
      simp only [Bool.false_eq_true, if_false]
      exact r2 D _ _ w (by simpa using sl) fun H' hH' => hD H' fun b o e => hH' b o (keep b o e)
  · cases h
end
end Y

end

section
set_option Elab.async false
set_option linter.all false
set_option maxRecDepth 100000
set_option maxHeartbeats 4000000
namespace Y
open PySem PySem.Spec L2 L2H HotX PyProof.Rows
/-! ### _law_class, called in the suite -/
def clsN : List Str := ["e", "flags", "words"]
def clsScope (sc : Scope) : Bool := fnScopeB clsN 1 sc && (decide (sc.names.lookup ("e" : Str) = some .local) && decide (sc.names.lookup ("flags" : Str) = some .local))
theorem class_run {P : Program} {w : World} {K : PySem.W.Frag} {mg : Str → Option Value} {base : Heap} {ea : Nat → Addr} {nx k j : Nat} {a f : Addr} {oe : Obj} {name qual : Str} {params : Arguments} {body : List Stmt} {scope : Scope} {dV kV doc pm cdv ct oc : Value} {an od : Option Addr} {osl : Array (Option Value)}
    (lk : K.lookup f = some ⟨oc, od, .func (PySem.W.fnOf name qual params body scope dV kV doc pm an cdv ct), osl⟩) (hcd : PySem.W.codeIn K cdv qual = true) (hS : clsScope scope = true) (hB : classB nx scope body = true) (cf : ClsF K mg ea nx) (hk : k < nx) (hz : L2N.Zn (.ref (ea k)) none oe) (hf : ∃ vs, oe.data = .fields vs)
    {A : Around} {outer : List PySem.Env} {s : Shared} {H : Hp} {Q : VK} (hr : RoomH (j + 1) A) (hh : A.handled = some (.ref a)) (hpin : PinOk outer H s (a, oe)) (e0 : Env0 P w K mg base A outer s H) (hb : BindsTo s (PySem.W.fnOf name qual params body scope dV kV doc pm an cdv ct) ⟨[.ref a], []⟩ [(("e" : Str), .ref a)])
    (hQ : ∀ H', (∀ b o, H b = some o → H' b = some o) → Q (.str (excName k)) H') : codeAny (model P w) A (.call (.ref f) ⟨[.ref a], []⟩) (CR C8.CX0 outer P w H s Q C8.E0) s := by
  simp only [clsScope, Bool.and_eq_true, decide_eq_true_eq] at hS
  obtain ⟨h1, h2, h3⟩ := hS
  obtain ⟨S, _⟩ := fnScope_of h1
  have S : FnScope clsN ["e"] scope := S
  have KX : K.In s.heap := e0.mod.kin.keeps fun b o e => (e0.bs b o e).1
  have lim : s.heap.NoLimit := e0.mod.nolimit.keeps fun b o e => (e0.bs b o e).1
  refine codeAny_call_function hr.depth (KX _ _ lk) rfl S.co S.gen rfl (PySem.W.codeRec_of KX hcd) (hb _ _ _ _ ?_)
  refine wpAny_newFunctionEnv_cells S.kind (fun y hy => .inl (by simp at hy; rw [hy]; exact h2)) fun env he s1 x => ?_
  subst he
  refine ⟨lim.keeps x.toInCall.keep, codeAny_func ?_⟩
  have hot : Hot1 A (a, oe) := by
    obtain ⟨vs, hv⟩ := hf
    exact ⟨hh, vs, hv, hz.2.2 vs hv⟩
  have I : Inv (cxH C8.CX0 P w K mg base clsN qual scope f cdv A outer s H C8.E0 (a, oe)) [] (L2.start clsN [.ref a]) H s1 := inv_startH (ps := ["e"]) (us := [.ref a]) S hpin e0 rfl (.cons rfl .nil) x
  have z : HotZ (cxH C8.CX0 P w K mg base clsN qual scope f cdv A outer s H C8.E0 (a, oe)) ea nx k a oe scope :=
    ⟨⟨(a, oe), hot, List.mem_singleton.mpr rfl⟩, List.mem_singleton.mpr rfl, ⟨hz.1, hz.2.1⟩, hf, cf, hk, rfl, rfl, rfl, rfl, S.nd, h2, h3⟩
  obtain ⟨t, p1, p2⟩ := z.body (fun _ => rfl) hB
  refine wpAny_mono (p1.run [] s1 _ H { nx := fun _ H' => Q .non H', rt := Q } I (p2 _ _ H rfl (show 2 < 3 by decide) hQ)) (fun fl t1 hs => ?_) fun e t1 hs => hs
  cases fl with
  | ret u => obtain ⟨v, σ', H', J, rv, q⟩ := hs; exact ⟨v, H', J.os, J.bare, J.base, J.hok, rv, q⟩
  | next => obtain ⟨σ', H', J, q⟩ := hs; exact ⟨.non, H', J.os, J.bare, J.base, J.hok, rfl, q⟩
  | brk => exact hs.elim fun _ h => h.elim fun _ h => h.2.elim
  | cont => exact hs.elim fun _ h => h.elim fun _ h => h.2.elim
/-- what is known of _law_class -/
structure ClassF (K : PySem.W.Frag) (mg : Str → Option Value) (nx : Nat) (f : Addr) (fd : FuncData) : Prop where
  at_ : ∃ (params : Arguments) (body : List Stmt) (scope : Scope) (oc : Value) (od : Option Addr) (dV kV doc pm : Value) (an : Option Addr) (cdv ct : Value) (osl : Array (Option Value)), fd = PySem.W.fnOf "_law_class" "_law_class" params body scope dV kV doc pm an cdv ct ∧ K.lookup f = some ⟨oc, od, .func fd, osl⟩ ∧ PySem.W.codeIn K cdv "_law_class" = true ∧ clsScope scope = true ∧ classB nx scope body = true
  bd : Binds K fd ["e"] []
  kp : PySem.W.keepIn K (.ref f) = true
  gl : mg "_law_class" = some (.ref f)
theorem pe_class {X : Cx} {ea : Nat → Addr} {nx k j i : Nat} {a f : Addr} {oe : Obj} {fd : FuncData} {pn : List (Addr × Obj)} {p p2 pos : Pos} (cl : ClassF X.K X.mg nx f fd) (cf : ClsF X.K X.mg ea nx) (hk : k < nx) (hz : L2N.Zn (.ref (ea k)) none oe) (hf : ∃ vs, oe.data = .fields vs) (hr : Room (j + 1) X.A)
    (hg : Gl X "_law_class") (hN : X.N[i]? = some ("e" : Str)) (hv : Vis X.env.scope ("e" : Str)) :
    PE (X.suite a ((a, oe) :: pn)) (.Call (.Name "_law_class" p) [.Name "e" p2] [] pos) (fun σ H Q => σ[i]? = some (some (.ref a)) ∧ ∀ H', (∀ b o, H b = some o → H' b = some o) → Q (.str (excName k)) H') := by
  refine ⟨fun pins s σ H Q I ⟨h1, h2⟩ => ?_⟩
  refine wpAny_Call_Name_kw (ld_glob I hg cl.gl ?_ (by decide))
  have ha : PA (X.suite a ((a, oe) :: pn)) [.Name "e" p2] (tCons (tVar i) tNil) := pa_cons (pe_var hN hv (by decide) (by decide)) pa_nil
  refine PySem.W.callWith_K (h₀ := X.base) I.ok.mod.kin cl.kp (thn (ha.run pos pins s σ H (fun vs H1 => vs = [.ref a] ∧ H1 = H) I ⟨_, h1, rfl, rfl⟩) fun us s1 ⟨vs, H1, I1, r, e1, e2⟩ => ⟨I1.kIn, ?_⟩) rfl rfl
  subst e1
  rw [e2] at I1
  obtain ⟨u, rfl, ru⟩ := Vals.one r
  obtain rfl : u = Value.ref a := ru
  obtain ⟨params, body, scope, oc, od, dV, kV, doc, pm, an, cdv, ct, osl, rfl, lk, hcd, hS, hB⟩ := cl.at_
  have P1 := I1.pin (a, oe) (List.mem_append_left _ List.mem_cons_self)
  have hpin : PinOk X.stack H s1 (a, oe) := ⟨P1.1, P1.2.1, fun hm => (List.mem_cons.mp (I1.stkSub a hm)).elim P1.2.2.1 P1.2.2.2.1, P1.2.2.2.2⟩
  have b := cl.bd s1 [.ref a] I1.kIn rfl
  have rm : RoomH (j + 1) (X.A.mark (some (.ref a))) := ⟨hr.dp, hr.un⟩
  refine wpAny_call (codeAny_mono (class_run (P := X.prog) (w := X.w) (outer := X.stack) (Q := Q) lk hcd hS hB cf hk hz hf rm rfl hpin I1.env0 b h2) fun r s' hq => ?_)
  cases r with
  | error e => exact (show False from hq).elim
  | ok fl =>
    cases fl with
    | ret u => exact I1.after hq
    | next => exact False.elim hq
    | brk => exact False.elim hq
    | cont => exact False.elim hq
/-! ### the lambda, called in _law_told -/
section
variable {X : Cx} {pins : List (Addr × Obj)} {σ : L2.St} {H : Hp} {s : Shared}
theorem pe_actN {Eg : XK} {CXg : CXT} {Ng : List Str} {qg : Str} {sg : Scope} {g f c' : Addr} {cdg pm ctv : Value} {body : Expr} {scope : Scope} {k i : Nat} {x : Str} {pn : List (Addr × Obj)} {xe : Value → Shared → Prop} {W : WX} {E : XK} {tb : TE} {p1 p2 : Pos}
    (I : Inv X pins σ H s) (L : LamX.LamS X.env.scope scope) (hf : s.heap.get? f = some (PySem.W.kla_obj "<lambda>" (X.env.qual ++ "<lambda>") lamArgs body scope (cloFrom X.env.cells scope.names []) pm c' ctv)) (hfn : H f = none) (hfr : f ∉ frs X.stack)
    (tk : L2N.Takes ((cxOf CXg X.prog X.w X.K X.mg X.base Ng qg sg g cdg X.A X.stack s H Eg).tr pn xe) W) (hW : ∀ cls d σ' H', E cls d H' → W cls d σ' H') (hr : Room (k + 1) (X.A.deeper (envOfC qg sg s.heap.objs.size g cdg)))
    (hbody : ∀ (A : Around) (outer : List PySem.Env) (s : Shared) (H : Hp), Room k (A.deeper (LamX.lamEnv X scope s.heap.objs.size f c')) → PE (lamN X A outer s H E scope f c') body tb) (hN : Ng[i]? = some x) (hv : Vis sg x) (hd : (x == ("__debug__" : Str)) = false) (hcd : (x == ("__classdict__" : Str)) = false) :
    PE ((cxOf CXg X.prog X.w X.K X.mg X.base Ng qg sg g cdg X.A X.stack s H Eg).tr pn xe) (.Call (.Name x p1) [] [] p2) (fun σZ HZ Q => σZ[i]? = some (some (.ref f)) ∧ HZ c' = some (LamX.CodeO c' (X.env.qual ++ "<lambda>")) ∧ tb σ HZ Q) := by
  refine ⟨fun pinsZ sZ σZ HZ Q IZ ⟨hs, hc, ht⟩ => ?_⟩
  refine wpAny_Call_Name_kw (thn ((pe_var (pos := p1) (i := i) hN hv hd hcd).run pinsZ sZ σZ HZ (fun v H1 => v = .ref f ∧ H1 = HZ) IZ ⟨.ref f, hs, rfl, rfl⟩) fun u s1 ⟨v, H1, I1, r1, ev, eH⟩ => ?_)
  subst ev; rw [eH] at I1
  obtain rfl : u = Value.ref f := r1
  have of1 := I1.base.keep f _ hf hfn hfr (fun z => nomatch (show f ∈ ([] : List Addr) from z))
  refine PySem.W.callWith_F0 ⟨_, _, _, _, of1⟩ ?_
  have un : Un (frs X.stack) [] H HZ s.heap s1.heap := I1.base
  obtain ⟨⟨oc, vs, t, hoc, hdc, hvc⟩, _, _⟩ := I1.hok c' _ hc
  have rc : codeAny (model X.prog X.w) (X.A.deeper (envOfC qg sg s.heap.objs.size g cdg)) (.call (.ref f) ⟨[], []⟩) (CR (L2N.CX X.prog X.w) (envOfC qg sg s.heap.objs.size g cdg :: X.stack) X.prog X.w HZ s1 Q E) s1 := by
    refine PySem.W.kla_callFunE hr.depth of1 rfl L.co L.gen rfl ⟨c', oc, vs, t, rfl, hoc, hdc, hvc⟩ ?_
    rw [show bindArgs (PySem.W.kla_fn "<lambda>" (X.env.qual ++ "<lambda>") lamArgs body scope (cloFrom X.env.cells scope.names []) pm (.ref c') ctv) ⟨[], []⟩ = pure [] from rfl]
    refine wpAny_pure (wpAny_newFunctionEnv (fun y hy => (L.own y hy).2) (fun y hy => absurd hy (by simp)) (fun g1 hns hsb => ⟨I1.nolimit.fresh _ hsb, ?_⟩) L.kind)
    show codeAny _ _ (.expr body (LamX.lamEnv X scope s1.heap.objs.size f c')) _ _
    have kp : ∀ b o, s1.heap.get? b = some o → g1.get? b = some o := fun b o e => hsb.extBut b o (Nat.ne_of_lt (Heap.lt_size e)) (Heap.get?_push_of_some _ e)
    have J0 := LamX.lam_start2 (E := E) (f := f) (c' := c') (tk := s1.toks + ([] : List (Str × Value)).length) I L I1.env0 hr.hd un hns kp
    have J : Inv (lamN X (X.A.deeper (envOfC qg sg s.heap.objs.size g cdg)) (envOfC qg sg s.heap.objs.size g cdg :: X.stack) s1 HZ E scope f c') [] σ HZ { s1 with heap := g1, toks := s1.toks + ([] : List (Str × Value)).length } := J0.wish _
    refine PySem.W.kla_codeExpr (wpAny_mono ((hbody _ _ s1 HZ (hr.deeper _)).run [] _ _ HZ Q J ht) (fun v s' ⟨w', H', J', rv, q⟩ => ?_) fun e s' hq => hq)
    exact ⟨w', H', J'.os, J'.bare, J'.base, J'.hok, rv, q⟩
  have hx := L2N.passes_call (X := (cxOf CXg X.prog X.w X.K X.mg X.base Ng qg sg g cdg X.A X.stack s H Eg).tr pn xe) (E := E) tk hW
  refine wpAny_call (codeAny_mono rc fun r s' hq => ?_)
  cases r with
  | error e => exact hx pinsZ σZ HZ s1 e s' I1 hq
  | ok fl =>
    cases fl with
    | ret u => exact I1.after hq
    | next => exact False.elim hq
    | brk => exact False.elim hq
    | cont => exact False.elim hq
end
/-! ### _law_told -/
def toldN : List Str := ["deed", "e"]
def toldB (sc : Scope) : List Stmt → Bool
  | [.Try [.Return (some (.Call (.Name a _) [] [] _)) _] [.ExceptHandler (some (.Name x _)) (some n) [.Return (some (.Call (.Name f _) [.Name e _] [] _)) _] _] [] [] _] =>
    a == ("deed" : Str) && (x == ("LampError" : Str) && (n == ("e" : Str) && (f == ("_law_class" : Str) && (e == ("e" : Str) && (gloB sc x && gloB sc f)))))
  | _ => false
def toldScope (sc : Scope) : Bool := fnScopeB toldN 1 sc && (decide (sc.names.lookup ("deed" : Str) = some .local) && decide (sc.names.lookup ("e" : Str) = some .local))
structure ToldF (K : PySem.W.Frag) (mg : Str → Option Value) (f : Addr) (fd : FuncData) : Prop where
  at_ : ∃ (params : Arguments) (body : List Stmt) (scope : Scope) (oc : Value) (od : Option Addr) (dV kV doc pm : Value) (an : Option Addr) (cdv ct : Value) (osl : Array (Option Value)), fd = PySem.W.fnOf "_law_told" "_law_told" params body scope dV kV doc pm an cdv ct ∧ K.lookup f = some ⟨oc, od, .func fd, osl⟩ ∧ PySem.W.codeIn K cdv "_law_told" = true ∧ toldScope scope = true ∧ toldB scope body = true
  bd : Binds K fd ["deed"] []
  kp : PySem.W.keepIn K (.ref f) = true
  gl : mg "_law_told" = some (.ref f)
theorem takesN0 {X : Cx} : L2N.Takes X (fun _ _ _ _ => False) := fun _ _ x => by
  obtain ⟨_, _, _, _, _, _, _, _, _, _, _, _, _, _, _, _, z⟩ := x
  exact z.elim
theorem told_at {Y : Cx} {c : Cfg} {ea : Nat → Addr} {nx lv : Nat} {fT fC cc Pc : Addr} {fdT fdC : FuncData} (T : ToldF Y.K Y.mg fT fdT) (C : ClassF Y.K Y.mg nx fC fdC) (cf : ClsF Y.K Y.mg ea nx) (hcode : Y.env.code = .ref cc) (TB : LamX.TabB Y.base Y.mg cc Pc) (hm : (Pc, Y.env.qual ++ "<lambda>") ∈ c.T) (hu : ∀ p ∈ c.T, p.1 = Pc → p.2 = Y.env.qual ++ "<lambda>") (hr : Room (lv + 3) Y.A) : ToldAt c ea nx lv Y := by
  intro body scope p lpos pos t hg L hbody
  obtain ⟨params, bg, sg, oc, od, dV, kV, doc, pm, an, cdv, ct, osl, rfl, lk, hcg, hS, hB⟩ := T.at_
  simp only [toldScope, Bool.and_eq_true, decide_eq_true_eq] at hS
  obtain ⟨u1, u2, u3⟩ := hS
  obtain ⟨Sg, _⟩ := fnScope_of u1
  have Sg : FnScope toldN ["deed"] sg := Sg
  refine ⟨fun pins s σ H Q I ⟨hT, h⟩ => ?_⟩
  refine wpAny_Call_Name_kw (ld_glob I hg T.gl ?_ (by decide))
  refine PySem.W.callWith_K (h₀ := Y.base) I.ok.mod.kin T.kp ?_ rfl rfl
  show wpAny _ _ (spliced ((false, eval (.Lambda lamArgs body scope lpos) Y.env) :: backTo pos (starEach [] Y.env))) _ _ s
  refine Calls.spliced_cons (LamX.lam_make2 I TB hcode hm hu hT rfl (L.has I.ok) fun f c' pm' ctv H1 s' I1 eN T1 hf hfn hfr hco => ?_)
  refine Calls.spliced_nil ⟨I1.kIn, ?_⟩
  have hT1 := h H1 eN T1
  unfold toldB at hB
  split at hB
  · rename_i an q1 q2 q3 xn q4 nn fn q5 en q6 q7 q8 q9 q10
    simp only [Bool.and_eq_true] at hB
    obtain ⟨b1, b2, b3, b4, b5, b6, b7⟩ := hB
    have e1 := eq_of_beq b1
    have e2 := eq_of_beq b2
    have e3 := eq_of_beq b3
    have e4 := eq_of_beq b4
    have e5 := eq_of_beq b5
    subst e1 e2 e3 e4 e5
    obtain ⟨CL, m1, m2⟩ := cf.lamp
    have rc : codeAny (model Y.prog Y.w) Y.A (.call (.ref fT) ⟨[.ref f], []⟩) (CR C8.CX0 Y.stack Y.prog Y.w H1 s' Q C8.E0) s' := by
      refine LamX.run_ofS (k := lv + 2) (N := toldN) (ps := ["deed"]) (us := [.ref f]) (vs := [.ref f]) lk hcg Sg hr I1.env0 (T.bd s' [.ref f] I1.kIn rfl) (.cons rfl .nil) rfl fun hr' => ?_
      refine ⟨_, PSs.nox (pss_one (L2N.ps_try_as (X := (cxOf C8.CX0 Y.prog Y.w Y.K Y.mg Y.base toldN "_law_told" sg fT cdv Y.A Y.stack s' H1 C8.E0).nox) (c := .ref CL) (i := 1) (Wout := fun _ _ _ _ => False)
        (tb := fun W D σ' H' => ∃ Ech : XK, (∀ cls d σ2 H2, Ech cls d H2 → W cls d σ2 H2) ∧ σ'[0]? = some (some (.ref f)) ∧ H' c' = some (LamX.CodeO c' (Y.env.qual ++ "<lambda>")) ∧ t Ech σ H' D.rt)
        (ts := fun a cls d D σ' H' => ∃ k, cls = .ref (ea k) ∧ d = none ∧ k < nx ∧ (∃ σ0 : L2.St, σ' = σ0.set 1 (some (.ref a))) ∧ ∀ H'', (∀ b o, H' b = some o → H'' b = some o) → D.rt (.str (excName k)) H'')
        rfl rfl Sg.nd rfl u3 ⟨glo_of b6, by decide, .inl m1⟩ takesN0 (fun W pn xe tk _ => ?_) (fun a oe cls d pn hz hf => ?_))), ?_⟩
      · refine ⟨fun pins2 s2 σ2 H2 D I2 ⟨Ech, hW, w1, w2, w3⟩ => ?_⟩
        have act := pe_actN (E := Ech) (W := W) (p1 := q1) (p2 := q2) (i := 0) (x := "deed") (Eg := C8.E0) (CXg := C8.CX0) (Ng := toldN) (qg := "_law_told") (sg := sg) (g := fT) (cdg := cdv) (pn := pn) (xe := xe) (k := lv + 1) (tb := t Ech) I1 L hf hfn hfr tk hW hr' (fun A outer s H hr2 => hbody A outer s H Ech f c' hr2) rfl (.inl u2) (by decide) (by decide)
        exact (pss_one (ps_ret (pos := q3) act)).run pins2 s2 σ2 H2 D I2 ⟨w1, w2, w3⟩
      · refine ⟨fun pins2 s2 σ2 H2 D I2 ⟨k, w1, w2, w3, ⟨σ0, w4⟩, w5⟩ => ?_⟩
        subst w1 w2
        have hl : σ2.length = 2 := I2.len
        have w6 : σ2[1]? = some (some (.ref a)) := by
          subst w4
          rw [List.getElem?_set_self (by rw [List.length_set] at hl; omega)]
        have pc := pe_class (X := (cxOf C8.CX0 Y.prog Y.w Y.K Y.mg Y.base toldN "_law_told" sg fT cdv Y.A Y.stack s' H1 C8.E0).nox) (a := a) (i := 1) (j := lv) (pn := pn) (p := q5) (p2 := q6) (pos := q7) C cf w3 hz hf (hr'.mono (by omega)) (glo_of b7) rfl (.inl u3)
        exact (pss_one (ps_ret (pos := q8) pc)).run pins2 s2 σ2 H2 D I2 ⟨w6, w5⟩
      · refine ⟨_, fun cls d σ2 H2 ⟨w1, k, w2, w3, w4⟩ => ⟨true, by rw [w2]; exact m2 k w3, fun _ a ha => ⟨k, w2, w1, w3, ⟨_, rfl⟩, w4⟩, fun z => nomatch z⟩, rfl, hco, hT1⟩
    refine wpAny_call (codeAny_mono rc fun r s2 hq => ?_)
    cases r with
    | error e => exact (show False from hq).elim
    | ok fl =>
      cases fl with
      | ret u => exact I1.after hq
      | next => exact False.elim hq
      | brk => exact False.elim hq
      | cont => exact False.elim hq
  · cases hB
end Y

end

section
set_option Elab.async false
set_option linter.all false
set_option maxRecDepth 100000
set_option maxHeartbeats 4000000
namespace Y
open PySem L2 PyProof.Rows
/-! ### a law's text -/
def clsBody : Stmt → List Stmt
  | .ClassDef _ _ _ b _ _ _ _ _ _ _ => b
  | _ => []
/-- one def of a law: its number, its text here, where it stands -/
structure LD where
  id : Nat
  fn : Fn
  c : Str
  x : Str
  st : Stmt
  N : List Str
  told : Bool
def LD.qual (d : LD) : Str := if d.c == Str.empty then d.x else d.c ++ ("." : Str) ++ d.x
def LD.at_ (d : LD) : Str × Option Str := if d.c == Str.empty then (d.x, none) else (d.c, some d.x)
def LD.dd (d : LD) : He.DefD := ⟨d.at_, d.x, d.qual, defArgs d.st, defBody d.st, defScope d.st, [], []⟩
def LD.dt (d : LD) : DefT := ⟨d.x, d.qual, defArgs d.st, defBody d.st, defScope d.st, d.N, d.told⟩
/-- a class: its number, name, __init__, methods -/
structure LC where
  id : Nat
  x : Str
  init : Nat
  meths : List (Nat × Nat)
/-- a law -/
structure Lw where
  defs : List LD
  told : Option (Stmt × Stmt)
  cls : List LC
  nexc : Nat
  exl : List Nat
  gints : List (Str × Int)
  gstrs : List (Str × Str)
  gtups : List (Str × List Str)
  bnd : Bool
def Lw.get (l : Lw) (f : Nat) : Option LD := l.defs.find? fun d => d.id == f
/-- a name that is nobody's -/
def oddName (k i : Nat) : Str := ⟨(List.replicate (i + 100) k).toArray⟩
def attrs : List Str := ["fade_time", "first", "goal", "gone", "groups", "heard", "heard_ago", "house", "lamps", "own", "rows", "scenes", "taken", "ticks", "wire"]
def meths : List Str := ["again", "at_once", "do", "drop", "go_to", "hear", "is_meant", "keep", "left", "level", "levels", "log", "need_lamp", "redo", "rest", "send", "state", "tick", "undo"]
def clss : List Str := ["Lamp", "Wire", "Desk"]
def fname (i : Nat) : Str := (attrs[i]?).getD (oddName 0 i)
def mname (i : Nat) : Str := (meths[i]?).getD (oddName 1 i)
def Lw.meta (l : Lw) : Meta where
  tab := { fn := fun f => (l.get f).map (·.fn), init := fun k => match l.cls.find? (fun c => c.id == k) with
    | some c => c.init
    | none => 0, meth := fun k m => match l.cls.find? (fun c => c.id == k) with
    | some c => c.meths.lookup m
    | none => none }
  gname := fun f => match l.get f with
    | some d => if d.c == Str.empty then d.x else Str.empty
    | none => Str.empty
  mname := mname
  cname := fun k => (clss[k]?).getD Str.empty
  fname := fname
  ename := ename
  ncl := l.cls.length
  nfld := 15
  nexc := l.nexc
  exl := l.exl
  gints := l.gints
  gstrs := l.gstrs
  gtups := l.gtups
  told := false
  bnd := l.bnd
/-- a def's parameters are plain -/
def argsB (ps : List Str) (a : Arguments) : Bool := a.posonlyargs.isEmpty && (a.vararg.isNone && (a.kwonlyargs.isEmpty && (a.kw_defaults.isEmpty && (a.kwarg.isNone && (a.defaults.isEmpty && (decide (a.args.map (·.arg) = ps) && decide ps.Nodup))))))
/-- all texts are as told -/
def LD.chk (l : Lw) (d : LD) : Bool := defOk 200 l.meta d.dt d.fn && argsB (d.N.take d.fn.ar) (defArgs d.st)
def Lw.toldB (l : Lw) : Bool := match l.told with
  | some (t, k) => Y.toldB (defScope t) (defBody t) && (toldScope (defScope t) && (argsB ["deed"] (defArgs t) && (classB l.nexc (defScope k) (defBody k) && (clsScope (defScope k) && argsB ["e"] (defArgs k)))))
  | none => true
/-- numbers, classes and methods fit -/
def Lw.fits (l : Lw) : Bool := (l.defs.all fun d => (match l.get d.id with
    | some e => decide (e.c = d.c) && decide (e.x = d.x)
    | none => false)) &&
  ((l.cls.all fun k => decide (k.id < l.cls.length) && (decide ((clss[k.id]?).getD Str.empty = k.x) && ((match l.get k.init with
    | some e => decide (e.c = k.x) && decide (e.x = ("__init__" : Str))
    | none => false) && (k.meths.all fun m => decide (m.1 < 19) && (match l.get m.2 with
    | some e => decide (e.c = k.x) && decide (e.x = mname m.1)
    | none => false))))) && (((List.range l.cls.length).all fun i => l.cls.any fun k => k.id == i) && (decide (l.nexc ≤ 8 ∧ l.cls.length ≤ 3 ∧ ∀ k ∈ List.range l.nexc, k ∈ l.exl) && ((l.told.isSome || l.defs.all fun d => !d.told) && (l.defs.all fun d => decide (d.c ≠ Str.empty) || decide (d.x ≠ Str.empty))))))
def Lw.chk (l : Lw) : Bool := (l.defs.all fun d => d.chk l) && (l.toldB && l.fits)
end Y

end

section
set_option Elab.async false
set_option linter.all false
set_option maxRecDepth 100000
set_option maxHeartbeats 4000000
namespace Y
open PySem PySem.Spec L2 PyProof.Rows
/-! ### names that are all unlike -/
theorem fname_in : ∀ i : Fin 15, (fname i).cps.size < 100 := by decide +kernel
theorem mname_in : ∀ i : Fin 19, (mname i).cps.size < 100 := by decide +kernel
theorem fname_fin : ∀ i j : Fin 15, fname i = fname j → i = j := by decide +kernel
theorem fm_fin : ∀ (i : Fin 15) (j : Fin 19), fname i ≠ mname j := by decide +kernel
theorem fname_out {i : Nat} (h : 15 ≤ i) : fname i = oddName 0 i := by
  unfold fname
  rw [List.getElem?_eq_none (by simpa [attrs] using h)]
  rfl
theorem mname_out {i : Nat} (h : 19 ≤ i) : mname i = oddName 1 i := by
  unfold mname
  rw [List.getElem?_eq_none (by simpa [meths] using h)]
  rfl
theorem odd_size (k i : Nat) : (oddName k i).cps.size = i + 100 := by simp [oddName]
theorem fname_inj (i j : Nat) (h : fname i = fname j) : i = j := by
  by_cases hi : i < 15
  · by_cases hj : j < 15
    · exact congrArg Fin.val (fname_fin ⟨i, hi⟩ ⟨j, hj⟩ h)
    · have a := fname_in ⟨i, hi⟩
      rw [show fname (⟨i, hi⟩ : Fin 15).val = fname j from h, fname_out (by omega), odd_size] at a
      omega
  · rw [fname_out (by omega)] at h
    by_cases hj : j < 15
    · have a := fname_in ⟨j, hj⟩
      rw [show fname (⟨j, hj⟩ : Fin 15).val = oddName 0 i from h.symm, odd_size] at a
      omega
    · rw [fname_out (by omega)] at h
      have := congrArg (fun z : Str => z.cps.size) h
      simp only [odd_size] at this
      omega
theorem fm_ne (i j : Nat) : fname i ≠ mname j := by
  intro h
  by_cases hi : i < 15
  · by_cases hj : j < 19
    · exact fm_fin ⟨i, hi⟩ ⟨j, hj⟩ h
    · have a := fname_in ⟨i, hi⟩
      rw [show fname (⟨i, hi⟩ : Fin 15).val = mname j from h, mname_out (by omega), odd_size] at a
      omega
  · rw [fname_out (by omega)] at h
    by_cases hj : j < 19
    · have a := mname_in ⟨j, hj⟩
      rw [show mname (⟨j, hj⟩ : Fin 19).val = oddName 0 i from h.symm, odd_size] at a
      omega
    · rw [mname_out (by omega)] at h
      have e := congrArg (fun z : Str => z.cps[0]?) h
      simp [oddName, List.getElem?_replicate] at e
/-! ### plain parameters -/
theorem zip_look : ∀ (ps : List Str) (us : List Value), us.length = ps.length → ∀ x ∈ ps, ((ps.zip us).lookup x).isNone = false
  | [], _, _, x, h => by simp at h
  | p :: ps, [], hl, x, h => by simp at hl
  | p :: ps, u :: us, hl, x, h => by
    simp only [List.zip_cons_cons, List.lookup]
    split
    · rfl
    · rename_i e
      refine zip_look ps us (by simpa using hl) x ?_
      rcases List.mem_cons.mp h with z | z
      · subst z; simp at e
      · exact z
theorem fm_congr {α β : Type} {f g : α → Option β} : ∀ {l : List α}, (∀ x ∈ l, f x = g x) → l.filterMap f = l.filterMap g
  | [], _ => rfl
  | x :: l, h => by
    rw [List.filterMap_cons, List.filterMap_cons, h x (by simp), fm_congr fun y hy => h y (by simp [hy])]
theorem zip_fm : ∀ (ps : List Str) (us : List Value), ps.Nodup → us.length = ps.length → (ps.filterMap fun n => Option.map (fun x => (n, x)) ((ps.zip us).lookup n)) = ps.zip us
  | [], [], _, _ => rfl
  | [], _ :: _, _, hl => by simp at hl
  | p :: ps, [], _, hl => by simp at hl
  | p :: ps, u :: us, nd, hl => by
    obtain ⟨n1, n2⟩ := List.nodup_cons.mp nd
    have e0 : ((p, u) :: ps.zip us).lookup p = some u := by simp [List.lookup]
    have e1 : (ps.filterMap fun n => Option.map (fun x => (n, x)) (((p, u) :: ps.zip us).lookup n)) = ps.zip us := by
      rw [fm_congr (g := fun n => Option.map (fun x => (n, x)) ((ps.zip us).lookup n))]
      · exact zip_fm ps us n2 (by simpa using hl)
      · intro x hx
        have e : (x == p) = false := by
          have : x ≠ p := fun z => n1 (by rw [← z]; exact hx)
          simpa using this
        simp only [List.lookup, e]
    rw [List.zip_cons_cons, List.filterMap_cons, e0, e1]
    rfl
theorem binds_args {ps : List Str} {a : Arguments} (h : argsB ps a = true) {x qual : Str} {body : List Stmt} {scope : Scope} (kV doc pm : Value) (an : Option Addr) (cdv ct : Value) (us : List Value) (hl : us.length = ps.length) :
    bindArgs (PySem.W.fnOf x qual a body scope .none kV doc pm an cdv ct) ⟨us, []⟩ = pure (ps.zip us) := by
  obtain ⟨po, ar, va, ko, kd, kw, df⟩ := a
  unfold argsB at h
  simp only [Bool.and_eq_true, decide_eq_true_eq, List.isEmpty_iff, Option.isNone_iff_eq_none] at h
  obtain ⟨rfl, rfl, rfl, rfl, rfl, rfl, h7, h8⟩ := h
  have hm : (ps.filter fun n => ((ps.zip us).lookup n).isNone) = [] := List.filter_eq_nil_iff.mpr fun x hx => by rw [zip_look ps us hl x hx]; decide
  have hs : seqItems? .none = (pure none : Sem (Option (Array Value))) := rfl
  unfold bindArgs PySem.W.fnOf
  simp only [h7, List.map_nil, List.nil_append, List.forIn_nil, pure_bind, hs, Option.getD_none, List.length_nil, Nat.zero_sub, List.drop_nil, Nat.sub_zero, List.take_length, hm, List.isEmpty_nil, Bool.not_true, List.drop_length, List.zip_nil_left]
  rw [hl]
  simp only [Nat.lt_irrefl, gt_iff_lt, decide_false, Bool.false_and, Bool.false_eq_true, if_false, List.append_nil]
  simp [zip_fm ps us h8 hl]
/-! ### what is looked at in the heap -/
def tabOf (K : PySem.W.Frag) (p : Str × Option Str) : Addr × Addr := match K.lookup (He.fAd K p) with
  | some ⟨_, _, .func fd, _⟩ => (match fd.code with
    | .ref c => (match K.lookup c with
      | some ⟨_, _, .fields vs, _⟩ => (match (vs[11]? : Option Value) with
        | some (.ref P) => (c, P)
        | _ => (0, 0))
      | _ => (0, 0))
    | _ => (0, 0))
  | _ => (0, 0)
def Lw.tds (l : Lw) : List LD := l.defs.filter (·.told)
def dTold (t : Stmt) : He.DefD := ⟨("_law_told", none), "_law_told", "_law_told", defArgs t, defBody t, defScope t, [], []⟩
def dClass (t : Stmt) : He.DefD := ⟨("_law_class", none), "_law_class", "_law_class", defArgs t, defBody t, defScope t, [], []⟩
def Lw.ds (l : Lw) : List He.DefD := (match l.told with
  | some (t, k) => [dTold t, dClass k]
  | none => []) ++ l.defs.map LD.dd
def cut (l : Lw) (K1 : PySem.W.Frag) : PySem.W.Frag := K1.filter fun q => !((l.tds.map fun d => (tabOf K1 d.at_).2).contains q.1)
theorem cut_in {l : Lw} {K1 : PySem.W.Frag} {h : Heap} (X : K1.In h) : (cut l K1).In h := by
  have key : ∀ (p : Addr → Bool) (K : PySem.W.Frag) (a : Addr) (o : Obj), (K.filter fun q => p q.1).lookup a = some o → K.lookup a = some o := by
    intro p K
    induction K with
    | nil => intro a o h; simp at h
    | cons q K ih =>
      intro a o h
      by_cases hp : p q.1 = true
      · rw [List.filter_cons_of_pos (p := fun q : Addr × Obj => p q.1) hp] at h
        simp only [List.lookup] at h ⊢
        split at h
        · exact h
        · exact ih a o h
      · rw [List.filter_cons_of_neg (p := fun q : Addr × Obj => p q.1) hp] at h
        have h2 := ih a o h
        simp only [List.lookup]
        split
        · rename_i e
          exfalso
          have e := eq_of_beq e
          subst e
          -- a is not among the kept
          have : ∀ K : PySem.W.Frag, (K.filter fun q => p q.1).lookup q.1 = none := by
            intro K
            induction K with
            | nil => rfl
            | cons r K ih2 =>
              by_cases hr : p r.1 = true
              · rw [List.filter_cons_of_pos (p := fun q : Addr × Obj => p q.1) hr]
                simp only [List.lookup]
                split
                · rename_i e
                  have e := eq_of_beq e
                  rw [e] at hp
                  exact absurd hr hp
                · exact ih2
              · rw [List.filter_cons_of_neg (p := fun q : Addr × Obj => p q.1) hr]; exact ih2
          rw [this K] at h
          cases h
        · exact h2
  exact fun a o e => X a o (key (fun a => !((l.tds.map fun d : LD => (tabOf K1 d.at_).2).contains a)) K1 a o e)
def excB (K : PySem.W.Frag) (x : Str) : Bool := (He.Fa.glo x).ok K && (He.Fa.exc x).ok K
def excCB (K : PySem.W.Frag) (x : Str) : Bool :=
  He.eqO (PySem.W.findIn K (.ref (He.ga K x)) "__getattribute__") (some (some (.builtin "BaseException.__getattribute__"))) && (He.eqO (PySem.W.findIn K (.ref (He.ga K x)) "__getattr__") (some none) &&
  (decide (PySem.W.subIn K (.ref (He.ga K x)) (.type "BaseException") = some true) && (PySem.W.hasDictIn K (He.ga K x) && (He.eqO (PySem.W.findIn K (.ref (He.ga K x)) "__class__") (some (some (.builtin "object.__class__"))) &&
  (He.eqO (PySem.W.specialIn K (.builtin "object.__class__") "__get__") (some (some (.builtin "getset_descriptor.__get__"))) && (decide (PySem.W.takesIn K (.builtin "object.__class__") = some true) && decide (PySem.W.mroIn K (He.ga K x) (.type "object") = some true)))))))
theorem excC_of {K : PySem.W.Frag} {x : Str} (h : excCB K x = true) : ExcC K (He.ga K x) := by
  unfold excCB at h
  simp only [Bool.and_eq_true, decide_eq_true_eq] at h
  obtain ⟨h1, h2, h3, h4, h5, h6, h7, h8⟩ := h
  exact ⟨He.eqO_ok h1, He.eqO_ok h2, h3, h4, He.eqO_ok h5, He.eqO_ok h6, h7, h8⟩
def clsB (K : PySem.W.Frag) (k : LC) : Bool := (He.Fa.glo k.x).ok K && ((He.Fa.cls k.x).ok K && ((He.Fa.mkr k.x).ok K && ((attrs.all fun f => (He.Fa.noat k.x f).ok K) && (k.meths.all fun m => (He.Fa.meth k.x (mname m.1)).ok K))))
def tupS (xs : List Str) : List He.Dv := xs.map .str
def okK (l : Lw) (K : PySem.W.Frag) : Bool :=
  (l.ds.all fun d => d.ok K) && ((l.defs.all fun d => decide (d.c ≠ Str.empty) || (He.Fa.glo d.x).ok K) && ((bltns.all fun x => (He.Fa.free x).ok K) &&
  ((l.gints.all fun p => (He.Fa.int p.1 p.2).ok K) && ((l.gstrs.all fun p => (He.Fa.str p.1 p.2).ok K) && ((l.gtups.all fun p => (He.Fa.glo p.1).ok K && He.tupB K p.1 (tupS p.2)) &&
  ((l.cls.all fun k => clsB K k) && ((l.exl.all fun k => excB K (ename k)) && (!l.bnd || ((He.Fa.glo "BOUNDS").ok K && He.valsB K (He.ga K "BOUNDS") (bounds.map fun p => (p.1, .int p.2)))))))))))
def okT (l : Lw) (K K1 : PySem.W.Frag) : Bool := match l.told with
  | none => true
  | some _ => ((He.Fa.glo "_law_told").ok K && ((He.Fa.glo "_law_class").ok K && ((He.Fa.free "ValueError").ok K && (He.Fa.glo "LampError").ok K))) &&
    (((List.range l.nexc).all fun k => excCB K (ename k) && (decide (PySem.W.kitOne K (.ref (He.ga K (ename k))) (.type "ValueError") = some true) && (decide (PySem.W.exmOne K (.ref (He.ga K (ename k))) (.ref (He.ga K "LampError")) = some true) &&
      (List.range l.nexc).all fun j => decide (PySem.W.kitOne K (.ref (He.ga K (ename k))) (.ref (He.ga K (ename j))) = some (decide (k = j)))))) &&
    (l.tds.all fun d => (match K.lookup (He.fAd K d.at_) with
      | some ⟨_, _, .func fd, _⟩ => decide (fd.code = .ref (tabOf K d.at_).1)
      | _ => false) && (PySem.W.codeHdIn K (tabOf K d.at_).1 (tabOf K d.at_).2 && ((K.lookup (tabOf K d.at_).2).isNone && ((match K1.lookup (tabOf K d.at_).2 with
      | some ⟨.none, none, .fields vs, sl⟩ => vs.isEmpty && sl.isEmpty
      | _ => false) && l.tds.all fun e => decide (d.qual = e.qual) || decide ((tabOf K d.at_).2 ≠ (tabOf K e.at_).2))))))
abbrev AlY : Type := Bool × List He.FnW × List (Option (List (Option (Str × Int))))
def obsK (l : Lw) (K1 K : PySem.W.Frag) : AlY := (okK l K && okT l K K1, l.ds.map fun d => He.fnW K d.at_, if l.bnd then [He.dicW K (He.ga K "BOUNDS")] else [])
def valY (l : Lw) (w : World) : AlY := (true, l.ds.map He.DefD.val, if l.bnd then [some (He.keysIn w.params (bounds.map (·.1)))] else [])
def obsY (l : Lw) (n : Nat) (g : Addr → Option Obj) : AlY := obsK l (He.frG g (He.asD g n)) (cut l (He.frG g (He.asD g n)))
def hookY (l : Lw) (n : Nat) : PySem.W.Hook where
  α := AlY
  obs := fun s => obsY l n s.heap.get?
  val := fun w => valY l w
  says := fun w h => ∃ K1 : PySem.W.Frag, K1.In h ∧ obsK l K1 (cut l K1) = valY l w
  of := fun _ _ e => ⟨_, He.frG_in, e⟩
  keeps := fun _ _ _ ⟨K, hK, c⟩ k => ⟨K, PySem.W.Frag.In.keeps hK k, c⟩
theorem obsY_eq {l : Lw} {n : Nat} {g : Addr → Option Obj} {s : Shared} (h : ∀ a, g a = s.heap.get? a) : obsY l n g = (hookY l n).obs s := by
  have e : g = s.heap.get? := funext h
  rw [e] <;> rfl
end Y

end

section
set_option Elab.async false
set_option linter.all false
set_option maxRecDepth 100000
set_option maxHeartbeats 4000000
namespace Y
open PySem PySem.Spec L2 PyProof.Rows
def eaK (K : PySem.W.Frag) (k : Nat) : Addr := He.ga K (ename k)
def faK (l : Lw) (K : PySem.W.Frag) (f : Nat) : Addr := match l.get f with
  | some d => He.fAd K d.at_
  | none => 0
def fdOf (K : PySem.W.Frag) (a : Addr) : FuncData := match K.lookup a with
  | some ⟨_, _, .func fd, _⟩ => fd
  | _ => default
def fdK (l : Lw) (K : PySem.W.Frag) (f : Nat) : FuncData := fdOf K (faK l K f)
def psK (l : Lw) (f : Nat) : List Str := match l.get f with
  | some d => d.N.take d.fn.ar
  | none => []
def lamName (q : Str) : Str := (q ++ ".<locals>.") ++ "<lambda>"
def cfgK (l : Lw) (K : PySem.W.Frag) : Cfg where
  K := K
  ca := fun k => He.ga K ((clss[k]?).getD Str.empty)
  fn := fname
  inj := fname_inj
  T := l.tds.map fun d => ((tabOf K d.at_).2, lamName d.qual)
  ncl := l.cls.length
  z := []
theorem lookup_mem {α β : Type} [BEq α] [LawfulBEq α] {a : α} {b : β} : ∀ {l : List (α × β)}, l.lookup a = some b → (a, b) ∈ l
  | [], h => by simp at h
  | (k, v) :: l, h => by
    simp only [List.lookup] at h
    split at h
    · rename_i e
      have e := eq_of_beq e
      subst e
      cases h
      exact List.mem_cons_self
    · exact List.mem_cons_of_mem _ (lookup_mem h)
theorem get_mem {l : Lw} {f : Nat} {d : LD} (h : l.get f = some d) : d ∈ l.defs ∧ d.id = f := by
  unfold Lw.get at h
  exact ⟨List.mem_of_find?_eq_some h, by have := List.find?_some h; simpa using this⟩
theorem tab_get {l : Lw} {f : Nat} {fn : Fn} (h : l.meta.tab.fn f = some fn) : ∃ d, l.get f = some d ∧ d.fn = fn := by
  have h : (l.get f).map (·.fn) = some fn := h
  cases hg : l.get f with
  | none => rw [hg] at h; cases h
  | some d => rw [hg] at h; exact ⟨d, rfl, by simpa using h⟩
section
variable {l : Lw} {K : PySem.W.Frag}
theorem funD_of (ok : (l.ds.all fun d => d.ok K) = true) (eq : (l.ds.map fun d => He.fnW K d.at_) = l.ds.map He.DefD.val) {d : He.DefD} (hd : d ∈ l.ds) : FunD K d.name d.qual d.params d.body d.scope (d.dvs K) (d.kws K) (He.fAd K d.at_) (fdOf K (He.fAd K d.at_)) := by
  have e : He.fnW K d.at_ = d.val := by
    obtain ⟨i, hi⟩ := List.mem_iff_getElem?.mp hd
    have e2 : (l.ds.map fun d => He.fnW K d.at_)[i]? = (l.ds.map He.DefD.val)[i]? := by rw [eq]
    rw [List.getElem?_map, List.getElem?_map, hi] at e2
    exact Option.some.inj e2
  obtain ⟨fd, F⟩ := He.DefD.funD e (List.all_eq_true.mp ok d hd)
  obtain ⟨oc, od, dV, kV, doc, pm, an, cdv, ct, osl, e1, lk, _⟩ := F.ex
  have : fdOf K (He.fAd K d.at_) = fd := by
    unfold fdOf
    rw [lk]
  rw [this]
  exact F
theorem at_own {d : LD} (h : d.c = Str.empty) : d.at_ = (d.x, none) := by
  unfold LD.at_
  rw [h]
  rfl
theorem at_cls {d : LD} (h : d.c ≠ Str.empty) : d.at_ = (d.c, some d.x) := by
  unfold LD.at_
  rw [if_neg (by simpa using h)]
structure Says (l : Lw) (K : PySem.W.Frag) (w : World) (mg : Str → Option Value) (h : Heap) : Prop where
  X : K.In h
  G : h.Ns mainGlobals mg
  ok : okK l K = true
  eq : (l.ds.map fun d => He.fnW K d.at_) = l.ds.map He.DefD.val
  dic : l.bnd = true → He.dicW K (He.ga K "BOUNDS") = some (He.keysIn w.params (bounds.map (·.1)))
  chk : l.chk = true
end
section
variable {l : Lw} {K : PySem.W.Frag} {w : World} {mg : Str → Option Value} {h : Heap}
theorem Says.fits (s : Says l K w mg h) : l.fits = true := by
  have := s.chk
  unfold Lw.chk at this
  simp only [Bool.and_eq_true] at this
  exact this.2.2
theorem Says.fun_ (s : Says l K w mg h) {d : LD} (hd : d ∈ l.defs) : FunD K d.x d.qual (defArgs d.st) (defBody d.st) (defScope d.st) [] [] (He.fAd K d.at_) (fdOf K (He.fAd K d.at_)) := by
  have ok := s.ok
  unfold okK at ok
  simp only [Bool.and_eq_true] at ok
  exact funD_of ok.1 s.eq (d := d.dd) (by unfold Lw.ds; exact List.mem_append_right _ (List.mem_map_of_mem hd))
theorem Says.args (s : Says l K w mg h) {d : LD} (hd : d ∈ l.defs) : defOk 200 l.meta d.dt d.fn = true ∧ argsB (d.N.take d.fn.ar) (defArgs d.st) = true := by
  have := s.chk
  unfold Lw.chk at this
  simp only [Bool.and_eq_true, List.all_eq_true] at this
  have := this.1 d hd
  unfold LD.chk at this
  simpa using this
/-- the facts -/
theorem Says.facts (s : Says l K w mg h) : Facts l.meta (cfgK l K) w mg (eaK K) (faK l K) (fdK l K) (psK l) := by
  have ok := s.ok
  unfold okK at ok
  simp only [Bool.and_eq_true, List.all_eq_true] at ok
  obtain ⟨k1, k2, k3, k4, k5, k6, k7, k8, k9⟩ := ok
  have ft := s.fits
  unfold Lw.fits at ft
  simp only [Bool.and_eq_true, List.all_eq_true, decide_eq_true_eq] at ft
  obtain ⟨f1, f2, f3, f4, f5, f6⟩ := ft
  have cl_at : ∀ k, k < l.cls.length → ∃ c ∈ l.cls, c.id = k ∧ (clss[k]?).getD Str.empty = c.x := fun k hk => by
    have := f3 k (List.mem_range.mpr hk)
    obtain ⟨c, hc, e⟩ := List.any_eq_true.mp this
    have e := eq_of_beq e
    subst e
    exact ⟨c, hc, rfl, ((f2 c hc).2).1⟩
  have find_cl : ∀ {k c}, l.cls.find? (fun c => c.id == k) = some c → c ∈ l.cls ∧ c.id = k := fun {k c} hc => ⟨List.mem_of_find?_eq_some hc, by have := List.find?_some hc; simpa using this⟩
  refine ⟨?gl, ?bd, ?bl, ?gi, ?gs, ?gt, rfl, rfl, ?cl, ?mka, ?na, ?me, fm_ne, ?ex, ?bo⟩
  case gl =>
    intro f fn hf hn
    obtain ⟨d, hg, rfl⟩ := tab_get hf
    obtain ⟨hd, rfl⟩ := get_mem hg
    have en : l.meta.gname d.id = if d.c == Str.empty then d.x else Str.empty := by show (match l.get d.id with | some d => if d.c == Str.empty then d.x else Str.empty | none => Str.empty) = _; rw [hg]
    by_cases hc : d.c = Str.empty
    · rw [hc] at en
      have en : l.meta.gname d.id = d.x := by rw [en]; rfl
      rw [en]
      have ea : faK l K d.id = He.ga K d.x := by
        unfold faK
        rw [hg]
        show He.fAd K d.at_ = _
        rw [at_own hc]; rfl
      rw [ea]
      have := k2 d hd
      simp only [Bool.or_eq_true, decide_eq_true_eq] at this
      have g0 := this.resolve_left (fun z => z hc)
      refine ⟨He.glo_ok s.X s.G g0, ?_⟩
      have kp := (s.fun_ hd).kp
      rw [at_own hc] at kp
      exact kp
    · rw [if_neg (by simpa using hc)] at en
      exact absurd en hn
  case bd =>
    intro f fn hf
    obtain ⟨d, hg, rfl⟩ := tab_get hf
    obtain ⟨hd, rfl⟩ := get_mem hg
    have e1 : psK l d.id = d.N.take d.fn.ar := by unfold psK; rw [hg]
    have e2 : fdK l K d.id = fdOf K (He.fAd K d.at_) := by unfold fdK faK; rw [hg]
    rw [e1, e2]
    exact (s.fun_ hd).bindsN fun kV doc pm an cdv ct us hl => binds_args (s.args hd).2 kV doc pm an cdv ct us hl
  case bl => exact fun x hx => He.free_ok s.X s.G (k3 x hx)
  case gi =>
    intro x i hx
    exact He.int_ok s.X s.G (k4 _ (PySem.mem_of_lookup hx))
  case gs =>
    intro x i hx
    exact He.str_ok s.X s.G (k5 _ (PySem.mem_of_lookup hx))
  case gt =>
    intro x xs hx
    obtain ⟨a1, a2⟩ := k6 _ (PySem.mem_of_lookup hx)
    refine ⟨He.ga K x, He.glo_ok s.X s.G a1, fun H => ?_⟩
    have := He.tupB_ok a2 H
    unfold tupS at this
    rw [List.map_map] at this
    exact this
  case cl =>
    intro k hk
    obtain ⟨c, hc, e, en⟩ := cl_at k hk
    have := k7 c hc
    unfold clsB at this
    simp only [Bool.and_eq_true] at this
    show Cls K (He.ga K ((clss[k]?).getD Str.empty))
    rw [en]
    exact He.cls_ok this.2.1
  case mka =>
    intro k hk
    obtain ⟨c, hc, e, en⟩ := cl_at k hk
    have q := k7 c hc
    unfold clsB at q
    simp only [Bool.and_eq_true] at q
    show mg ((clss[k]?).getD Str.empty) = some (.ref (He.ga K ((clss[k]?).getD Str.empty))) ∧ Mk K (He.ga K ((clss[k]?).getD Str.empty)) (faK l K (l.meta.tab.init k)) ∧ ∃ fn, l.meta.tab.fn (l.meta.tab.init k) = some fn
    rw [en]
    have hfc : ∃ c', l.cls.find? (fun c => c.id == k) = some c' ∧ c' ∈ l.cls ∧ c'.id = k := by
      cases hf : l.cls.find? (fun c => c.id == k) with
      | none =>
        have := List.find?_eq_none.mp hf c hc
        simp [e] at this
      | some c' => exact ⟨c', rfl, find_cl hf⟩
    obtain ⟨c', hf, hc', e'⟩ := hfc
    have ex : c'.x = c.x := by
      have := (f2 c' hc').2.1
      rw [e', en] at this
      exact this.symm
    have ei : l.meta.tab.init k = c'.init := by show (match l.cls.find? (fun c => c.id == k) with | some c => c.init | none => 0) = _; rw [hf]
    have := (f2 c' hc').2.2.1
    cases hg : l.get c'.init with
    | none => rw [hg] at this; cases this
    | some d =>
      rw [hg] at this
      simp only [Bool.and_eq_true, decide_eq_true_eq] at this
      obtain ⟨d1, d2⟩ := this
      rw [ei]
      have hcn : d.c ≠ Str.empty := by
        intro z
        rw [d1, ex, ← en] at z
        have hk3 : ∀ i : Fin 3, (clss[i.val]?).getD Str.empty ≠ Str.empty := by decide +kernel
        by_cases h3 : k < 3
        · exact hk3 ⟨k, h3⟩ z
        · have hk : k < l.cls.length := hk
          omega
      refine ⟨He.glo_ok s.X s.G q.1, ?_, d.fn, ?_⟩
      · have ea : faK l K c'.init = He.ma K (He.ga K c.x) "__init__" := by
          unfold faK
          rw [hg]
          show He.fAd K d.at_ = _
          rw [at_cls hcn, d1, ex, d2]; rfl
        rw [ea]
        exact He.mkr_ok q.2.2.1
      · show (l.get c'.init).map (·.fn) = _
        rw [hg]; rfl
  case na =>
    intro k f hk hf
    obtain ⟨c, hc, e, en⟩ := cl_at k hk
    have q := k7 c hc
    unfold clsB at q
    simp only [Bool.and_eq_true, List.all_eq_true] at q
    show NoAttr K (He.ga K ((clss[k]?).getD Str.empty)) (fname f)
    rw [en]
    refine He.noat_ok (q.2.2.2.1 (fname f) ?_)
    have hf : f < 15 := hf
    have : ∀ i : Fin 15, fname i ∈ attrs := by decide +kernel
    exact this ⟨f, hf⟩
  case me =>
    intro k m f hm0
    have hm : (match l.cls.find? (fun c => c.id == k) with | some c => c.meths.lookup m | none => none) = some f := hm0
    cases hf : l.cls.find? (fun c => c.id == k) with
    | none => rw [hf] at hm; cases hm
    | some c =>
      rw [hf] at hm
      obtain ⟨hc, e⟩ := find_cl hf
      subst e
      obtain ⟨g1, g2, g3, g4⟩ := f2 c hc
      have mm := lookup_mem (show c.meths.lookup m = some f from hm)
      obtain ⟨g5, g6⟩ := g4 _ mm
      simp only at g5 g6
      have q := k7 c hc
      unfold clsB at q
      simp only [Bool.and_eq_true, List.all_eq_true] at q
      cases hg : l.get f with
      | none => rw [hg] at g6; cases g6
      | some d =>
        rw [hg] at g6
        simp only [Bool.and_eq_true, decide_eq_true_eq] at g6
        obtain ⟨d1, d2⟩ := g6
        have hcn : d.c ≠ Str.empty := by
          intro z
          rw [d1, ← g2] at z
          have hk3 : ∀ i : Fin 3, (clss[i.val]?).getD Str.empty ≠ Str.empty := by decide +kernel
          exact hk3 ⟨c.id, by omega⟩ z
        refine ⟨g1, ?_, d.fn, by show (l.get f).map (·.fn) = _; rw [hg]; rfl⟩
        show Meth K (He.ga K ((clss[c.id]?).getD Str.empty)) (mname m) (faK l K f)
        have ea : faK l K f = He.ma K (He.ga K c.x) (mname m) := by
          unfold faK
          rw [hg]
          show He.fAd K d.at_ = _
          rw [at_cls hcn, d1, d2]; rfl
        rw [ea, g2]
        exact He.meth_ok (q.2.2.2.2 _ mm)
  case ex =>
    intro k hk
    have := k8 k hk
    unfold excB at this
    simp only [Bool.and_eq_true] at this
    obtain ⟨e1, e2, e3, e4⟩ := He.exc_ok this.2
    exact ⟨e1, He.glo_ok s.X s.G this.1, e2, e3, e4⟩
  case bo =>
    intro hb
    have hb : l.bnd = true := hb
    rw [hb] at k9
    simp only [Bool.not_true, Bool.false_or, Bool.and_eq_true] at k9
    obtain ⟨es, n, d1, d2, _⟩ := He.dicW_ok (s.dic hb)
    refine ⟨_, He.glo_ok s.X s.G k9.1, fun z k hz => ?_⟩
    obtain ⟨u, u1, u2⟩ := He.valsB_ok k9.2 (q := (z, .int k)) (List.mem_map.mpr ⟨(z, k), PySem.mem_of_lookup hz, rfl⟩)
    exact ⟨es, n, u, d1, d2, u1, u2⟩
end
end Y

end

section
set_option Elab.async false
set_option linter.all false
set_option maxRecDepth 100000
set_option maxHeartbeats 4000000
namespace Y
open PySem PySem.Spec L2 PyProof.Rows
section
variable {l : Lw} {K K1 : PySem.W.Frag} {w : World} {mg : Str → Option Value} {h : Heap}
/-- what is known of the told part -/
structure SaysT (l : Lw) (K : PySem.W.Frag) (mg : Str → Option Value) (h : Heap) : Prop where
  told : ToldF K mg (He.ga K "_law_told") (fdOf K (He.ga K "_law_told"))
  cls : ClassF K mg l.nexc (He.ga K "_law_class") (fdOf K (He.ga K "_law_class"))
  cf : ClsF K mg (eaK K) l.nexc
  code : ∀ d ∈ l.tds, (fdOf K (He.fAd K d.at_)).code = .ref (tabOf K d.at_).1
  hd : ∀ d ∈ l.tds, PySem.W.CodeHd h (tabOf K d.at_).1 (tabOf K d.at_).2
  none : ∀ d ∈ l.tds, K.lookup (tabOf K d.at_).2 = none
  tab : ∀ d ∈ l.tds, h.get? (tabOf K d.at_).2 = some { cls := .none, data := .fields #[] }
  one : ∀ d ∈ l.tds, ∀ e ∈ l.tds, (tabOf K d.at_).2 = (tabOf K e.at_).2 → d.qual = e.qual
theorem Says.told (s : Says l K w mg h) (X1 : K1.In h) (t : okT l K K1 = true) (hs : l.told.isSome = true) : SaysT l K mg h := by
  obtain ⟨⟨st, sk⟩, ht⟩ := Option.isSome_iff_exists.mp hs
  have ok := s.ok
  unfold okK at ok
  simp only [Bool.and_eq_true, List.all_eq_true] at ok
  obtain ⟨k1, k2, k3, k4, k5, k6, k7, k8, k9⟩ := ok
  have ft := s.fits
  unfold Lw.fits at ft
  simp only [Bool.and_eq_true, List.all_eq_true, decide_eq_true_eq] at ft
  have ck := s.chk
  unfold Lw.chk Lw.toldB at ck
  rw [ht] at ck
  simp only [Bool.and_eq_true] at ck
  obtain ⟨_, ⟨c1, c2, c3, c4, c5, c6⟩, _⟩ := ck
  unfold okT at t
  rw [ht] at t
  simp only [Bool.and_eq_true, List.all_eq_true, decide_eq_true_eq] at t
  obtain ⟨⟨t1, t2, t3, t4⟩, t5, t6⟩ := t
  have m1 : dTold st ∈ l.ds := by unfold Lw.ds; rw [ht]; simp
  have m2 : dClass sk ∈ l.ds := by unfold Lw.ds; rw [ht]; simp
  have okall : (l.ds.all fun d => d.ok K) = true := List.all_eq_true.mpr k1
  have F1 := funD_of okall s.eq m1
  have F2 := funD_of okall s.eq m2
  have F1 : FunD K "_law_told" "_law_told" (defArgs st) (defBody st) (defScope st) [] [] (He.ga K "_law_told") (fdOf K (He.ga K "_law_told")) := F1
  have F2 : FunD K "_law_class" "_law_class" (defArgs sk) (defBody sk) (defScope sk) [] [] (He.ga K "_law_class") (fdOf K (He.ga K "_law_class")) := F2
  refine ⟨⟨?_, F1.bindsN fun kV doc pm an cdv ct us hl => binds_args c3 kV doc pm an cdv ct us hl, F1.kp, He.glo_ok s.X s.G t1⟩, ⟨?_, F2.bindsN fun kV doc pm an cdv ct us hl => binds_args c6 kV doc pm an cdv ct us hl, F2.kp, He.glo_ok s.X s.G t2⟩, ?_, ?_, ?_, ?_, ?_, ?_⟩
  · obtain ⟨oc, od, dV, kV, doc, pm, an, cdv, ct, osl, e, lk, hcd, _⟩ := F1.ex
    exact ⟨_, _, _, oc, od, dV, kV, doc, pm, an, cdv, ct, osl, e, lk, hcd, c2, c1⟩
  · obtain ⟨oc, od, dV, kV, doc, pm, an, cdv, ct, osl, e, lk, hcd, _⟩ := F2.ex
    exact ⟨_, _, _, oc, od, dV, kV, doc, pm, an, cdv, ct, osl, e, lk, hcd, c5, c4⟩
  · refine ⟨ft.2.2.2.1.1, fun k hk => excC_of (t5 k (List.mem_range.mpr hk)).1, fun k j hk hj => (t5 k (List.mem_range.mpr hk)).2.2.2 j (List.mem_range.mpr hj), fun k hk => (t5 k (List.mem_range.mpr hk)).2.1, fun k hk => ?_, ⟨_, He.glo_ok s.X s.G t4, fun k hk => (t5 k (List.mem_range.mpr hk)).2.2.1⟩, He.free_ok s.X s.G (k3 _ (by decide +kernel)), He.free_ok s.X s.G (k3 _ (by decide +kernel)), He.free_ok s.X s.G (k3 _ (by decide +kernel)), He.free_ok s.X s.G t3⟩
    have := k8 k (ft.2.2.2.1.2.2 k (List.mem_range.mpr hk))
    unfold excB at this
    simp only [Bool.and_eq_true] at this
    exact He.glo_ok s.X s.G this.1
  · intro d hd
    have := (t6 d hd).1
    unfold fdOf
    split at this
    · rename_i fd _ e
      try rw [e]
      simpa using this
    · cases this
  · intro d hd
    exact PySem.W.codeHd_of_K s.X (t6 d hd).2.1
  · intro d hd
    simpa using (t6 d hd).2.2.1
  · intro d hd
    have := (t6 d hd).2.2.2.1
    split at this
    · rename_i vs sl e
      simp only [Bool.and_eq_true, Array.isEmpty_iff] at this
      obtain ⟨rfl, rfl⟩ := this
      exact X1 _ _ e
    · cases this
  · intro d hd e he eq
    have := (t6 d hd).2.2.2.2 e he
    simp only [Bool.or_eq_true, decide_eq_true_eq] at this
    exact this.resolve_right fun z => z eq
theorem tds_mem {d : LD} : d ∈ l.tds ↔ d ∈ l.defs ∧ d.told = true := by
  unfold Lw.tds
  exact List.mem_filter
theorem Says.df {P : Program} {base : Heap} (s : Says l K w mg h) (t : l.told.isSome = true → SaysT l K mg h) (TB : ∀ d ∈ l.tds, LamX.TabB base mg (tabOf K d.at_).1 (tabOf K d.at_).2) :
    ∀ f fn, l.meta.tab.fn f = some fn → ∃ d, DefF 200 l.meta (cfgK l K) (faK l K f) (fdK l K f) (psK l f) fn d ∧
      (d.told = true → ∀ k, (∀ f fn, l.meta.tab.fn f = some fn → FnOk P w (cfgK l K).K mg base (L2N.CX P w) (4 * k) (faK l K f) (fdK l K f) (psK l f) (spF (cfgK l K) (eaK K) (callAt l.meta.tab k) f)) → ∀ (A : Around) (outer : List PySem.Env) (s : Shared) (H : Hp) (E : XK), Room (4 * k + 3) (A.deeper (envOfC d.qual d.scope s.heap.objs.size (faK l K f) (fdK l K f).code)) → ToldOk (cfgK l K) (eaK K) l.meta.nexc (4 * k) (cxOf (L2N.CX P w) P w (cfgK l K).K mg base d.N d.qual d.scope (faK l K f) (fdK l K f).code A outer s H E)) := by
  intro f fn hf
  obtain ⟨d, hg, rfl⟩ := tab_get hf
  obtain ⟨hd, rfl⟩ := get_mem hg
  have e1 : psK l d.id = d.N.take d.fn.ar := by unfold psK; rw [hg]
  have e0 : faK l K d.id = He.fAd K d.at_ := by unfold faK; rw [hg]
  have e2 : fdK l K d.id = fdOf K (He.fAd K d.at_) := by unfold fdK; rw [e0]
  refine ⟨d.dt, ⟨⟨[], [], by rw [e0, e2]; exact s.fun_ hd⟩, e1, (s.args hd).1⟩, fun ht k _ A outer sh H E hr Y h1 h2 h3 h4 h5 h6 h7 h8 h9 h10 => ?_⟩
  have ft := s.fits
  unfold Lw.fits at ft
  simp only [Bool.and_eq_true, List.all_eq_true, decide_eq_true_eq, Bool.or_eq_true] at ft
  have hsome : l.told.isSome = true := by
    rcases ft.2.2.2.2.1 with z | z
    · exact z
    · have := z d hd
      have ht : d.told = true := ht
      rw [ht] at this
      cases this
  have T := t hsome
  have hm : d ∈ l.tds := tds_mem.mpr ⟨hd, ht⟩
  have eq : Y.env.qual ++ "<lambda>" = lamName d.qual := by rw [h10]; rfl
  refine told_at (c := cfgK l K) (nx := l.nexc) (by rw [h3, h4]; exact T.told) (by rw [h3, h4]; exact T.cls) (by rw [h3, h4]; exact T.cf) (cc := (tabOf K d.at_).1) (Pc := (tabOf K d.at_).2) ?_ (by rw [h5, h4]; exact TB d hm) ?_ ?_ (by rw [h6]; exact hr)
  · rw [h9]
    show (fdK l K d.id).code = _
    rw [e2]
    exact T.code d hm
  · rw [eq]
    exact List.mem_map.mpr ⟨d, hm, rfl⟩
  · intro p hp hP
    obtain ⟨e, he, rfl⟩ := List.mem_map.mp hp
    rw [eq]
    show lamName e.qual = lamName d.qual
    rw [T.one e he d hm hP]
end
/-! ### the end -/
theorem law_at {l : Lw} {law : PySem.W.OpenLaw} {K1 : PySem.W.Frag} {w : World} {mg : Str → Option Value} {h : Heap} {fa : Addr} {n lid kk : Nat} {d : LD} (X1 : K1.In h) (G : h.Ns mainGlobals mg) (e : obsK l K1 (cut l K1) = valY l w) (chk : l.chk = true)
    (hl : l.get lid = some d) (hc : d.c = Str.empty) (hx : d.x = ("law" : Str)) (hp : d.N.take d.fn.ar = [("script" : Str)]) (hmg : mg ("law" : Str) = some (.ref fa))
    (plain : ∀ ns : List Int, ns.length ≤ n → (∀ z ∈ ns, Builtin.Int.intBits z ≤ 1048576) → ∃ S', callAt l.meta.tab kk lid [.scr ns] [] = .ok (.bl true) S') :
    ∃ K : PySem.W.Frag, K.In h ∧ LamX.LawAtS law w K (L2N.CX law.prog w) (4 * kk) n "script" mg fa h := by
  have X := cut_in (l := l) X1
  generalize hK : cut l K1 = K at X e
  have ok1 : (okK l K && okT l K K1) = true := congrArg (fun z : AlY => z.1) e
  have eq : (l.ds.map fun d => He.fnW K d.at_) = l.ds.map He.DefD.val := congrArg (fun z : AlY => z.2.1) e
  have dic : (if l.bnd then [He.dicW K (He.ga K "BOUNDS")] else []) = if l.bnd then [some (He.keysIn w.params (bounds.map (·.1)))] else [] := congrArg (fun z : AlY => z.2.2) e
  simp only [Bool.and_eq_true] at ok1
  have s : Says l K w mg h := ⟨X, G, ok1.1, eq, fun hb => by rw [hb] at dic; simpa using dic, chk⟩
  have T : l.told.isSome = true → SaysT l K mg h := fun ht => s.told X1 ok1.2 ht
  obtain ⟨hd, rfl⟩ := get_mem hl
  have ft := s.fits
  unfold Lw.fits at ft
  simp only [Bool.and_eq_true, List.all_eq_true, decide_eq_true_eq, Bool.or_eq_true] at ft
  have hsome : ∀ d ∈ l.tds, l.told.isSome = true := fun d hd => by
    obtain ⟨m1, m2⟩ := tds_mem.mp hd
    rcases ft.2.2.2.2.1 with z | z
    · exact z
    · have := z d m1
      rw [m2] at this
      cases this
  have F := s.fun_ hd
  have ea : faK l K d.id = He.fAd K d.at_ := by unfold faK; rw [hl]
  have ef : fdK l K d.id = fdOf K (He.fAd K d.at_) := by unfold fdK; rw [ea]
  have ep : psK l d.id = [("script" : Str)] := by unfold psK; rw [hl]; exact hp
  have eg : He.fAd K d.at_ = fa := by
    have ok := ok1.1
    unfold okK at ok
    simp only [Bool.and_eq_true, List.all_eq_true] at ok
    have := ok.2.1 d hd
    simp only [Bool.or_eq_true, decide_eq_true_eq] at this
    have g0 := He.glo_ok X G (this.resolve_left (fun z => z hc))
    rw [hx, hmg] at g0
    rw [at_own hc, hx]
    exact (Value.ref.inj (Option.some.inj g0)).symm
  refine ⟨K, X, fdK l K d.id, l.tds.map fun d => tabOf K d.at_, spF (cfgK l K) (eaK K) (callAt l.meta.tab kk) d.id, ?_, ?_, ?_, ?_, ?_, ?_⟩
  · intro p hp
    obtain ⟨e, he, rfl⟩ := List.mem_map.mp hp
    exact (T (hsome e he)).tab e he
  · intro p hp
    obtain ⟨e, he, rfl⟩ := List.mem_map.mp hp
    exact (T (hsome e he)).none e he
  · intro p hp
    obtain ⟨e, he, rfl⟩ := List.mem_map.mp hp
    exact (T (hsome e he)).hd e he
  · intro sh u
    rw [ef]
    exact FunD.bindsA (ps := [("script" : Str)]) F (fun kV doc pm an cdv ct us hl => by rw [← hp] at hl ⊢; exact binds_args (s.args hd).2 kV doc pm an cdv ct us hl) sh [u] rfl
  · intro H a ns hlen hbits hH hS
    obtain ⟨S', hp⟩ := plain ns hlen hbits
    refine ⟨[], [], [], [.scr ns], ⟨rfl, fun n m a o o' z => by simp at z, fun n a o z => by simp at z, ?_, fun a ha => by cases ha⟩, ⟨⟨a, rfl, ?_⟩, trivial⟩, ?_⟩
    · intro p hp
      obtain ⟨e, he, rfl⟩ := List.mem_map.mp hp
      exact LamX.TabS.nil (hH _ (List.mem_map.mpr ⟨e, he, rfl⟩))
    · rcases hS with z | z
      · exact .inl ⟨z, fun ⟨n, o, q, _⟩ => by simp at q, fun q => by cases q⟩
      · exact .inr z
    · rw [hp]
      exact fun v ι' H' _ _ r => r
  · intro base hKb hGb hTB
    have := fn_all (P := law.prog) (base := base) s.facts (s.df T fun d hd => hTB _ (List.mem_map.mpr ⟨d, hd, rfl⟩)) kk d.id d.fn (by show (l.get d.id).map (·.fn) = _; rw [hl]; rfl)
    rw [ep, ea, eg] at this
    exact this
theorem cx_never {P : Program} {w : World} {H : Hp} {s : Shared} {e : Value} {s' : Shared} (h : L2N.CX P w [] H s (fun _ _ _ => False) e s') : False := by
  obtain ⟨_, _, _, _, _, _, _, _, _, _, _, _, z⟩ := h
  exact z
end Y

end

section
set_option Elab.async false
set_option linter.all false
set_option maxRecDepth 100000
namespace Y
open PySem L2
/-! the defs of all laws (printed by gen.py) -/
/-- is_count (k10 k20 k30 k32 k40 k41 k42 k50 k52 k60 k70 k71 k72 k80 k81 k90 k99) -/
def f0_is_count : Fn := ⟨3, 3, true, [.ret (.and (.isi (.var 0) [.int]) (.and (.not (.isi (.var 0) [.bool])) (.chain .le .le (.var 1) (.var 0) (.var 2))))]⟩
/-- is_lamp (k10 k20 k32 k40 k41 k42 k52 k60 k70 k71 k72 k80 k81 k90 k99) -/
def f1_is_lamp : Fn := ⟨1, 1, true, [.ifs (.or (.not (.isi (.var 0) [.tuple])) (.or (.cmp .ne (.bi .len [(.var 0)]) (.kon (.int 4))) (.not (.call 0 [(.idx (.var 0) (.kon (.int 0))), (.kon (.int 0)), (.kon (.int 65535))])))) [.ret (.kon (.bl false))] [],
    .ifs (.and (.notN (.idx (.var 0) (.kon (.int 1)))) (.not (.call 0 [(.idx (.var 0) (.kon (.int 1))), (.kon (.int 0)), (.kon (.int 15))]))) [.ret (.kon (.bl false))] [],
    .ret (.and (.call 0 [(.idx (.var 0) (.kon (.int 2))), (.kon (.int 1)), (.kon (.int 100))]) (.call 0 [(.idx (.var 0) (.kon (.int 3))), (.idx (.var 0) (.kon (.int 2))), (.kon (.int 100))]))]⟩
def f2_c0 : E := .comp [1] false .seq [(.var 0)] (.kon (.bl true)) (.call 1 [(.var 1)])
def f2_c1 : E := .comp [1] false .seq [(.var 0)] (.kon (.bl true)) (.idx (.var 1) (.kon (.int 0)))
/-- need_house (k10 k20 k32 k40 k41 k42 k52 k60 k70 k71 k72 k80 k81 k90 k99) -/
def f2_need_house : Fn := ⟨1, 2, true, [.ifs (.or (.not (.isi (.var 0) [.list])) (.or (.not (.chain .le .le (.kon (.int 1)) (.bi .len [(.var 0)]) (.kon (.int 8)))) (.not (.bi .all [f2_c0])))) [.raise 0] [],
    .ifs (.cmp .ne (.bi .nset [f2_c1]) (.bi .len [(.var 0)])) [.raise 0] []]⟩
/-- _law_cell (k10 k20 k30 k32 k40 k41 k42 k50 k52 k60 k70 k71 k72 k80 k81 k90 k99) -/
def f4_law_cell : Fn := ⟨2, 2, true, [.ifs (.cmp .eq (.var 0) (.lst [])) [.ret (.bin .mul (.var 1) (.kon (.int 7919)))] [],
    .ret (.bin .add (.idx (.var 0) (.bin .mod (.var 1) (.bi .len [(.var 0)]))) (.bin .mul (.bin .fdiv (.var 1) (.bi .len [(.var 0)])) (.kon (.int 104729))))]⟩
/-- _law_drawn (k10 k20 k30 k32 k40 k41 k42 k50 k52 k60 k70 k71 k72 k80 k81 k90 k99) -/
def f5_law_drawn : Fn := ⟨2, 3, true, [.asg (.nm 2) (.bin .mod (.bin .add (.bin .mul (.var 0) (.kon (.int 6364136223846793005))) (.bin .mul (.bin .add (.var 1) (.kon (.int 1))) (.kon (.int 1442695040888963407)))) (.kon (.int 340282366920938463463374607431768211507))),
    .asg (.nm 2) (.bin .mod (.bin .mul (.var 2) (.var 2)) (.kon (.int 340282366920938463463374607431768211297))),
    .asg (.nm 2) (.bin .mul (.bin .mul (.bin .add (.bin .mod (.var 2) (.kon (.int 18446744073709551557))) (.kon (.int 1))) (.bin .add (.bin .fdiv (.var 2) (.kon (.int 18446744073709551557))) (.kon (.int 1)))) (.var 2)),
    .ret (.bin .mod (.var 2) (.kon (.int 340282366920938463463374607431768211507)))]⟩
def f6_b0 : List C := [.asg (.nm 6) (.bin .mod (.bin .add (.var 6) (.kon (.int 1))) (.kon (.int 65536)))]
def f6_w0 : C := .whil (.cmp .isin (.var 6) (.var 3)) f6_b0
def f6_b1 : List C := [.asg (.nm 5) (.call 5 [(.var 0), (.var 4)]),
    .asg (.nm 6) (.bin .mod (.bin .fdiv (.var 5) (.kon (.int 8))) (.idx (.lst [(.kon (.int 65536)), (.kon (.int 40))]) (.bin .mod (.var 5) (.kon (.int 2))))),
    f6_w0,
    .expr (.bm .append (.var 3) [(.var 6)]),
    .asg (.nm 7) (.ite (.cmp .gt (.bin .mod (.bin .fdiv (.var 5) (.kon (.int 4))) (.kon (.int 4))) (.kon (.int 0))) (.bin .mod (.bin .fdiv (.var 5) (.bin .pow (.kon (.int 2)) (.kon (.int 20)))) (.idx (.lst [(.kon (.int 16)), (.kon (.int 4))]) (.bin .mod (.bin .fdiv (.var 5) (.kon (.int 2))) (.kon (.int 2))))) (.kon .non)),
    .asg (.nm 8) (.bin .add (.kon (.int 1)) (.bin .mod (.bin .fdiv (.var 5) (.bin .pow (.kon (.int 2)) (.kon (.int 30)))) (.idx (.lst [(.kon (.int 100)), (.kon (.int 20)), (.kon (.int 1))]) (.bin .mod (.bin .fdiv (.var 5) (.bin .pow (.kon (.int 2)) (.kon (.int 40)))) (.kon (.int 3)))))),
    .expr (.bm .append (.var 2) [(.tup [(.var 6), (.var 7), (.var 8), (.bin .add (.var 8) (.bin .mod (.bin .fdiv (.var 5) (.bin .pow (.kon (.int 2)) (.kon (.int 50)))) (.bin .sub (.kon (.int 101)) (.var 8))))])])]
def f6_l0 : C := .for_ [4] false .rng [(.bin .add (.kon (.int 1)) (.bin .mod (.var 0) (.var 1)))] f6_b1
/-- _law_house (k10 k32 k40 k41 k42 k52 k60 k70 k71 k72 k80 k81 k90 k99) -/
def f6_law_house : Fn := ⟨2, 9, true, [.par [2, 3] [(.newL []), (.newL [])],
    f6_l0,
    .frz 2,
    .ret (.var 2)]⟩
def f8_b0 : List C := [.pass]
def f8_w0 : C := .whil (.kon (.bl true)) f8_b0
/-- _wall (k20 k42 k52 k60 k70 k71 k72 k80 k81) -/
def f8_wall : Fn := ⟨1, 1, true, [f8_w0]⟩
/-- let_by (k20 k32 k40 k41 k42 k52 k60 k70 k71 k72 k80 k81 k90 k99) -/
def f9_let_by : Fn := ⟨2, 2, true, [.ret (.ite (.cmp .eq (.var 1) (.kon (.int 0))) (.kon (.int 0)) (.bi .max [(.idx (.var 0) (.kon (.int 2))), (.bi .min [(.idx (.var 0) (.kon (.int 3))), (.var 1)])]))]⟩
/-- is_pair (k20 k32 k40 k41 k42 k52 k60 k70 k71 k72 k80 k81 k90 k99) -/
def f10_is_pair : Fn := ⟨2, 2, true, [.ifs (.or (.not (.isi (.var 0) [.tuple])) (.or (.cmp .ne (.bi .len [(.var 0)]) (.kon (.int 2))) (.or (.not (.isi (.idx (.var 0) (.kon (.int 0))) [.str])) (.cmp .notin (.idx (.var 0) (.kon (.int 0))) (.var 1))))) [.ret (.kon (.bl false))] [],
    .ret (.call 0 [(.idx (.var 0) (.kon (.int 1))), (.kon (.int 0)), (.bounds (.idx (.var 0) (.kon (.int 0))))])]⟩
/-- is_address (k20 k32 k40 k41 k42 k52 k60 k70 k71 k72 k80 k81 k90 k99) -/
def f11_is_address : Fn := ⟨1, 1, true, [.ret (.or (.cmp .eq (.var 0) (.tup [(.kon (.str "all"))])) (.call 10 [(.var 0), (.tup [(.kon (.str "short")), (.kon (.str "group"))])]))]⟩
/-- is_command (k20 k32 k40 k41 k42 k52 k60 k70 k71 k72 k80 k81 k90 k99) -/
def f12_is_command : Fn := ⟨1, 1, true, [.ifs (.and (.isi (.var 0) [.tuple]) (.and (.cmp .eq (.bi .len [(.var 0)]) (.kon (.int 1))) (.isi (.idx (.var 0) (.kon (.int 0))) [.str]))) [.ret (.cmp .isin (.idx (.var 0) (.kon (.int 0))) (.sli (.gtup ["off", "up", "down", "level?", "group?"]) [] [(.kon (.int 4))]))] [],
    .ret (.or (.call 10 [(.var 0), (.gtup ["level", "scene", "fade", "join", "leave", "store", "forget"])]) (.call 13 [(.var 0)]))]⟩
/-- is_ask_group (k20 k32 k40 k41 k42 k52 k60 k70 k71 k72 k80 k81 k90 k99) -/
def f13_is_ask_group : Fn := ⟨1, 1, true, [.ifs (.or (.not (.isi (.var 0) [.tuple])) (.or (.cmp .ne (.bi .len [(.var 0)]) (.kon (.int 2))) (.cmp .ne (.idx (.var 0) (.kon (.int 0))) (.kon (.str "group?"))))) [.ret (.kon (.bl false))] [],
    .ret (.call 0 [(.idx (.var 0) (.kon (.int 1))), (.kon (.int 0)), (.kon (.int 7))])]⟩
/-- is_word (k20 k32 k40 k41 k42 k52 k60 k70 k71 k72 k80 k81 k90 k99) -/
def f14_is_word : Fn := ⟨1, 1, true, [.ret (.and (.isi (.var 0) [.tuple]) (.and (.cmp .eq (.bi .len [(.var 0)]) (.kon (.int 2))) (.and (.call 11 [(.idx (.var 0) (.kon (.int 0)))]) (.call 12 [(.idx (.var 0) (.kon (.int 1)))]))))]⟩
/-- need_word (k20 k32 k40 k41 k42 k52 k60 k70 k71 k72 k80 k81 k90 k99) -/
def f15_need_word : Fn := ⟨1, 1, true, [.ifs (.not (.call 14 [(.var 0)])) [.raise 1] []]⟩
/-- word_text (k20 k99) -/
def f17_word_text : Fn := ⟨1, 1, false, [.ret (.bin .add (.bin .add (.call 16 [(.idx (.var 0) (.kon (.int 0)))]) (.kon (.str ": "))) (.call 16 [(.idx (.var 0) (.kon (.int 1)))]))]⟩
/-- written (k20 k99) -/
def f18_written : Fn := ⟨1, 1, false, [.expr (.call 15 [(.var 0)]),
    .ret (.call 17 [(.var 0)])]⟩
/-- between (k20 k30 k32 k40 k41 k42 k52 k60 k70 k71 k72 k80 k81 k90 k99) -/
def f21_between : Fn := ⟨4, 5, true, [.ifs (.cmp .ge (.var 3) (.var 2)) [.ret (.var 1)] [],
    .asg (.nm 4) (.bin .fdiv (.bin .mul (.bi .abs [(.bin .sub (.var 1) (.var 0))]) (.var 3)) (.var 2)),
    .ret (.ite (.cmp .ge (.var 1) (.var 0)) (.bin .add (.var 0) (.var 4)) (.bin .sub (.var 0) (.var 4)))]⟩
/-- Lamp.__init__ (k20 k32 k40 k41 k42 k52 k60 k70 k71 k72 k80 k81 k90 k99) -/
def f22_Lamp___init : Fn := ⟨2, 2, false, [.asg (.at (.var 0) 9) (.var 1),
    .asg (.at (.var 0) 1) (.kon (.int 0)),
    .asg (.at (.var 0) 2) (.kon (.int 0)),
    .asg (.at (.var 0) 13) (.kon (.int 0)),
    .asg (.at (.var 0) 3) (.kon (.int 0)),
    .asg (.at (.var 0) 0) (.kon (.int 0)),
    .asg (.at (.var 0) 4) (.lst []),
    .asg (.at (.var 0) 11) (.newD [] []),
    .asg (.at (.var 0) 5) (.kon .non),
    .asg (.at (.var 0) 6) (.kon (.int 0))]⟩
/-- Lamp.level (k20 k32 k40 k41 k42 k52 k60 k70 k71 k72 k80 k81 k90 k99) -/
def f23_Lamp_level : Fn := ⟨1, 1, true, [.ifs (.cmp .ge (.attr (.var 0) 3) (.attr (.var 0) 13)) [.ret (.attr (.var 0) 2)] [],
    .ret (.call 21 [(.attr (.var 0) 1), (.ite (.cmp .gt (.attr (.var 0) 2) (.kon (.int 0))) (.attr (.var 0) 2) (.idx (.attr (.var 0) 9) (.kon (.int 2)))), (.attr (.var 0) 13), (.attr (.var 0) 3)])]⟩
/-- Lamp.left (k20 k60 k72 k81) -/
def f24_Lamp_left : Fn := ⟨1, 1, true, [.expr (.call 8 [(.kon (.int 0))])]⟩
/-- Lamp.at_once (k20 k32 k40 k41 k42 k52 k60 k70 k71 k72 k80 k81 k90 k99) -/
def f25_Lamp_at_once : Fn := ⟨2, 2, false, [.unp [(.at (.var 0) 1), (.at (.var 0) 2), (.at (.var 0) 13), (.at (.var 0) 3)] (.tup [(.var 1), (.var 1), (.kon (.int 0)), (.kon (.int 0))])]⟩
/-- Lamp.go_to (k20 k32 k40 k41 k42 k52 k60 k70 k71 k72 k80 k81 k90 k99) -/
def f26_Lamp_go_to : Fn := ⟨2, 4, false, [.par [2, 3] [(.meth 9 (.var 0) []), (.call 9 [(.attr (.var 0) 9), (.var 1)])],
    .ifs (.or (.cmp .eq (.var 2) (.var 3)) (.cmp .eq (.attr (.var 0) 0) (.kon (.int 0)))) [.expr (.meth 1 (.var 0) [(.var 3)])] [.asg (.at (.var 0) 1) (.ite (.cmp .gt (.var 2) (.kon (.int 0))) (.var 2) (.idx (.attr (.var 0) 9) (.kon (.int 2)))),
    .unp [(.at (.var 0) 2), (.at (.var 0) 13), (.at (.var 0) 3)] (.tup [(.var 3), (.attr (.var 0) 0), (.kon (.int 0))])]]⟩
/-- Lamp.tick (k20 k60) -/
def f27_Lamp_tick : Fn := ⟨2, 2, true, [.expr (.call 8 [(.kon (.int 1))])]⟩
/-- Lamp.is_meant (k20 k32 k40 k41 k42 k52 k60 k70 k71 k72 k80 k81 k90 k99) -/
def f28_Lamp_is_meant : Fn := ⟨2, 2, true, [.ifs (.cmp .eq (.idx (.var 1) (.kon (.int 0))) (.kon (.str "all"))) [.ret (.kon (.bl true))] [],
    .ret (.ite (.cmp .eq (.idx (.var 1) (.kon (.int 0))) (.kon (.str "short"))) (.cmp .eq (.idx (.attr (.var 0) 9) (.kon (.int 1))) (.idx (.var 1) (.kon (.int 1)))) (.cmp .isin (.idx (.var 1) (.kon (.int 1))) (.attr (.var 0) 4)))]⟩
/-- Lamp.hear (k20 k32 k40 k41 k42 k52 k60 k70 k71 k72 k80 k81 k90 k99) -/
def f29_Lamp_hear : Fn := ⟨2, 6, false, [.unp [(.nm 2), (.nm 3)] (.var 1),
    .asg (.nm 4) (.and (.cmp .eq (.attr (.var 0) 5) (.var 1)) (.cmp .le (.attr (.var 0) 6) (.kon (.int 5)))),
    .asg (.nm 5) (.and (.cmp .isin (.idx (.var 3) (.kon (.int 0))) (.gtup ["fade", "join", "leave", "store", "forget"])) (.not (.var 4))),
    .asg (.at (.var 0) 5) (.ite (.var 5) (.var 1) (.kon .non)),
    .asg (.at (.var 0) 6) (.kon (.int 0)),
    .ifs (.or (.not (.meth 6 (.var 0) [(.var 2)])) (.var 5)) [.ret (.kon .non)] [],
    .ret (.meth 2 (.var 0) [(.var 3)])]⟩
/-- Lamp.do (k20 k32 k40 k41 k42 k52 k60 k70 k71 k72 k80 k81 k90 k99) -/
def f30_Lamp_do : Fn := ⟨2, 3, false, [.asg (.nm 2) (.idx (.var 1) (.kon (.int 0))),
    .ifs (.cmp .eq (.var 2) (.kon (.str "level?"))) [.ret (.meth 9 (.var 0) [])] [],
    .ifs (.cmp .eq (.var 2) (.kon (.str "group?"))) [.ret (.bi .int [(.cmp .isin (.idx (.var 1) (.kon (.int 1))) (.attr (.var 0) 4))])] [],
    .ifs (.cmp .isin (.var 2) (.gtup ["fade", "join", "leave", "store", "forget"])) [.expr (.meth 7 (.var 0) [(.var 2), (.idx (.var 1) (.kon (.int 1)))])] [.ifs (.cmp .eq (.var 2) (.kon (.str "level"))) [.expr (.meth 4 (.var 0) [(.idx (.var 1) (.kon (.int 1)))])] [.ifs (.cmp .eq (.var 2) (.kon (.str "scene"))) [.ifs (.cmp .isin (.idx (.var 1) (.kon (.int 1))) (.attr (.var 0) 11)) [.expr (.meth 4 (.var 0) [(.idx (.attr (.var 0) 11) (.idx (.var 1) (.kon (.int 1))))])] []] [.ifs (.cmp .eq (.var 2) (.kon (.str "off"))) [.expr (.meth 1 (.var 0) [(.kon (.int 0))])] [.ifs (.cmp .gt (.meth 9 (.var 0) []) (.kon (.int 0))) [.expr (.meth 1 (.var 0) [(.bi .max [(.idx (.attr (.var 0) 9) (.kon (.int 2))), (.bi .min [(.idx (.attr (.var 0) 9) (.kon (.int 3))), (.bin .add (.meth 9 (.var 0) []) (.ite (.cmp .eq (.var 2) (.kon (.str "up"))) (.kon (.int 1)) (.neg (.kon (.int 1)))))])])])] []]]]],
    .ret (.kon .non)]⟩
def f31_c0 : E := .comp [3] false .seq [(.attr (.var 0) 4)] (.cmp .ne (.var 3) (.var 2)) (.var 3)
def f31_c1 : E := .comp [3] false .seq [(.attr (.var 0) 4)] (.cmp .ne (.var 3) (.var 2)) (.var 3)
/-- Lamp.keep (k20 k32 k40 k41 k42 k52 k60 k70 k71 k72 k80 k81 k90 k99) -/
def f31_Lamp_keep : Fn := ⟨3, 4, false, [.ifs (.cmp .eq (.var 1) (.kon (.str "fade"))) [.asg (.at (.var 0) 0) (.var 2)] [.ifs (.cmp .eq (.var 1) (.kon (.str "join"))) [.asg (.at (.var 0) 4) (.bi .sorted [(.bin .add f31_c0 (.lst [(.var 2)]))])] [.ifs (.cmp .eq (.var 1) (.kon (.str "leave"))) [.asg (.at (.var 0) 4) f31_c1] [.ifs (.cmp .eq (.var 1) (.kon (.str "store"))) [.asg (.ix (.attr (.var 0) 11) (.var 2)) (.meth 9 (.var 0) [])] [.expr (.dpop (.attr (.var 0) 11) (.var 2))]]]]]⟩
/-- Lamp.state (k20 k60) -/
def f32_Lamp_state : Fn := ⟨1, 1, true, [.expr (.call 8 [(.kon (.int 2))])]⟩
def f33_c0 : E := .comp [2] false .seq [(.var 1)] (.kon (.bl true)) (.new 0 [(.var 2)])
/-- Wire.__init__ (k20 k32 k40 k41 k42 k52 k60 k70 k71 k72 k80 k81 k90 k99) -/
def f33_Wire___init : Fn := ⟨2, 3, false, [.expr (.call 2 [(.var 1)]),
    .asg (.at (.var 0) 8) f33_c0]⟩
def f34_c0 : E := .comp [3] false .seq [(.var 2)] (.kon (.bl true)) (.call 0 [(.var 3), (.kon (.int 0)), (.bin .sub (.bi .len [(.attr (.var 0) 8)]) (.kon (.int 1)))])
def f34_c1 : E := .comp [3, 5] true .enum [(.attr (.var 0) 8)] (.cmp .notin (.var 3) (.var 2)) (.meth 5 (.var 5) [(.var 1)])
def f34_c2 : E := .comp [7] false .seq [(.var 4)] (.notN (.var 7)) (.var 7)
/-- Wire.send (k20 k32 k40 k41 k42 k52 k60 k70 k71 k72 k80 k81 k90 k99) -/
def f34_Wire_send : Fn := ⟨3, 8, false, [.expr (.call 15 [(.var 1)]),
    .ifs (.or (.not (.isi (.var 2) [.list])) (.not (.bi .all [f34_c0]))) [.raise 2] [],
    .asg (.nm 4) f34_c1,
    .asg (.nm 6) f34_c2,
    .ifs (.cmp .gt (.bi .len [(.var 6)]) (.kon (.int 1))) [.ret (.kon (.str "clash"))] [],
    .ret (.ite (.cmp .ne (.var 6) (.lst [])) (.idx (.var 6) (.kon (.int 0))) (.kon .non))]⟩
/-- Wire.tick (k20 k60) -/
def f35_Wire_tick : Fn := ⟨2, 2, true, [.expr (.call 8 [(.kon (.int 3))])]⟩
/-- Wire.need_lamp (k20 k32 k40 k41 k42 k52 k60 k70 k71 k72 k80 k81 k90 k99) -/
def f36_Wire_need_lamp : Fn := ⟨2, 2, true, [.ifs (.not (.call 0 [(.var 1), (.kon (.int 0)), (.bin .sub (.bi .len [(.attr (.var 0) 8)]) (.kon (.int 1)))])) [.raise 2] []]⟩
/-- Wire.level (k20 k32 k40 k41 k42 k52 k60 k70 k71 k72 k80 k81 k90 k99) -/
def f37_Wire_level : Fn := ⟨2, 2, true, [.expr (.meth 12 (.var 0) [(.var 1)]),
    .ret (.meth 9 (.idx (.attr (.var 0) 8) (.var 1)) [])]⟩
/-- Wire.state (k20 k60) -/
def f38_Wire_state : Fn := ⟨2, 2, true, [.expr (.call 8 [(.kon (.int 4))])]⟩
/-- Wire.rest (k20 k60) -/
def f39_Wire_rest : Fn := ⟨1, 1, true, [.expr (.call 8 [(.kon (.int 5))])]⟩
/-- Wire.levels (k20) -/
def f40_Wire_levels : Fn := ⟨1, 1, true, [.expr (.call 8 [(.kon (.int 6))])]⟩
/-- _law_address (k20 k40 k41 k70 k71 k80 k90 k99) -/
def f41_law_address : Fn := ⟨1, 1, true, [.ret (.idx (.lst [(.tup [(.kon (.str "all"))]), (.tup [(.kon (.str "short")), (.bin .mod (.bin .fdiv (.var 0) (.kon (.int 8))) (.kon (.int 5)))]), (.tup [(.kon (.str "group")), (.bin .mod (.bin .fdiv (.var 0) (.kon (.int 8))) (.kon (.int 4)))]), (.tup [(.kon (.str "short")), (.bin .mod (.bin .fdiv (.var 0) (.kon (.int 8))) (.kon (.int 16)))])]) (.bin .mod (.var 0) (.kon (.int 4))))]⟩
/-- _law_word (k20 k40 k41 k70 k71 k80 k90 k99) -/
def f42_law_word : Fn := ⟨1, 3, true, [.asg (.nm 1) (.bin .fdiv (.var 0) (.kon (.int 64))),
    .asg (.nm 2) (.lst [(.tup [(.kon (.str "level")), (.idx (.lst [(.kon (.int 0)), (.kon (.int 100)), (.bin .mod (.var 1) (.kon (.int 101))), (.bin .mod (.var 1) (.kon (.int 30)))]) (.bin .mod (.bin .fdiv (.var 1) (.kon (.int 128))) (.kon (.int 4))))]), (.tup [(.kon (.str "off"))]), (.tup [(.kon (.str "up"))]), (.tup [(.kon (.str "down"))])]),
    .asg (.nm 2) (.bin .add (.var 2) (.lst [(.tup [(.kon (.str "scene")), (.bin .mod (.var 1) (.kon (.int 3)))]), (.tup [(.kon (.str "level?"))]), (.tup [(.kon (.str "group?")), (.bin .mod (.var 1) (.kon (.int 4)))]), (.tup [(.kon (.str "level")), (.bin .mod (.var 1) (.kon (.int 101)))])])),
    .asg (.nm 2) (.bin .add (.var 2) (.lst [(.tup [(.kon (.str "fade")), (.idx (.lst [(.kon (.int 0)), (.kon (.int 1)), (.kon (.int 7)), (.kon (.int 50))]) (.bin .mod (.var 1) (.kon (.int 4))))]), (.tup [(.kon (.str "join")), (.bin .mod (.var 1) (.kon (.int 4)))]), (.tup [(.kon (.str "leave")), (.bin .mod (.var 1) (.kon (.int 4)))])])),
    .asg (.nm 2) (.bin .add (.var 2) (.lst [(.tup [(.kon (.str "store")), (.bin .mod (.var 1) (.kon (.int 3)))]), (.tup [(.kon (.str "forget")), (.bin .mod (.var 1) (.kon (.int 3)))]), (.tup [(.kon (.str "fade")), (.bin .mod (.var 1) (.kon (.int 51)))])])),
    .ret (.tup [(.call 41 [(.bin .fdiv (.var 0) (.kon (.int 16)))]), (.idx (.var 2) (.bin .mod (.var 0) (.kon (.int 14))))])]⟩
/-- _law_is_word (k20) -/
def f43_law_is_word : Fn := ⟨1, 4, false, [.asg (.nm 1) (.newD ["level", "scene", "group?", "fade", "join", "leave", "store", "forget"] [(.kon (.int 100)), (.kon (.int 7)), (.kon (.int 7)), (.kon (.int 50)), (.kon (.int 7)), (.kon (.int 7)), (.kon (.int 7)), (.kon (.int 7))]),
    .unp [(.nm 2), (.nm 3)] (.var 0),
    .ifs (.and (.cmp .ne (.var 2) (.tup [(.kon (.str "all"))])) (.or (.cmp .ne (.bi .len [(.var 2)]) (.kon (.int 2))) (.cmp .notin (.idx (.var 2) (.kon (.int 0))) (.lst [(.kon (.str "short")), (.kon (.str "group"))])))) [.ret (.kon (.bl false))] [],
    .ifs (.cmp .ne (.var 2) (.tup [(.kon (.str "all"))])) [.ifs (.or (.not (.isi (.idx (.var 2) (.kon (.int 1))) [.int])) (.not (.chain .le .le (.kon (.int 0)) (.idx (.var 2) (.kon (.int 1))) (.idx (.lst [(.kon (.int 7)), (.kon (.int 15))]) (.bi .int [(.cmp .eq (.idx (.var 2) (.kon (.int 0))) (.kon (.str "short")))]))))) [.ret (.kon (.bl false))] []] [],
    .ifs (.cmp .eq (.bi .len [(.var 3)]) (.kon (.int 1))) [.ret (.cmp .isin (.idx (.var 3) (.kon (.int 0))) (.lst [(.kon (.str "off")), (.kon (.str "up")), (.kon (.str "down")), (.kon (.str "level?"))]))] [],
    .ifs (.or (.cmp .ne (.bi .len [(.var 3)]) (.kon (.int 2))) (.or (.cmp .notin (.idx (.var 3) (.kon (.int 0))) (.var 1)) (.not (.isi (.idx (.var 3) (.kon (.int 1))) [.int])))) [.ret (.kon (.bl false))] [],
    .ret (.chain .le .le (.kon (.int 0)) (.idx (.var 3) (.kon (.int 1))) (.idx (.var 1) (.idx (.var 3) (.kon (.int 0)))))]⟩
def f45_c0 : E := .comp [3] false .rng [(.bin .add (.var 2) (.kon (.int 1)))] (.kon (.bl true)) (.call 21 [(.var 0), (.var 1), (.var 2), (.var 3)])
/-- fade (k30 k32 k99) -/
def f45_fade : Fn := ⟨3, 4, true, [.ifs (.or (.not (.call 0 [(.var 0), (.kon (.int 0)), (.kon (.int 100))])) (.not (.call 0 [(.var 1), (.kon (.int 0)), (.kon (.int 100))]))) [.raise 2] [],
    .ifs (.not (.call 0 [(.var 2), (.kon (.int 0)), (.kon (.int 50))])) [.raise 2] [],
    .ret f45_c0]⟩
def f46_c0 : E := .comp [6, 7] true .enum [(.var 4)] (.ite (.cmp .ge (.var 1) (.var 0)) (.cmp .ge (.var 7) (.var 3)) (.cmp .le (.var 7) (.var 3))) (.var 6)
/-- first_tick (k30) -/
def f46_first_tick : Fn := ⟨4, 8, true, [.asg (.nm 4) (.call 45 [(.var 0), (.var 1), (.var 2)]),
    .ifs (.not (.call 0 [(.var 3), (.kon (.int 0)), (.kon (.int 100))])) [.raise 2] [],
    .ifs (.not (.chain .le .le (.bi .min [(.idx (.var 4) (.kon (.int 0))), (.var 1)]) (.var 3) (.bi .max [(.idx (.var 4) (.kon (.int 0))), (.var 1)]))) [.ret (.kon .non)] [],
    .asg (.nm 5) f46_c0,
    .ret (.idx (.var 5) (.kon (.int 0)))]⟩
def f47_b0 : List C := [.asg (.nm 5) (.bin .fdiv (.bin .mul (.bin .sub (.bi .max [(.var 0), (.var 1)]) (.bi .min [(.var 0), (.var 1)])) (.var 4)) (.var 2)),
    .expr (.bm .append (.var 3) [(.ite (.cmp .lt (.var 0) (.var 1)) (.bin .add (.var 0) (.var 5)) (.bin .sub (.var 0) (.var 5)))])]
def f47_l0 : C := .for_ [4] false .rng [(.bin .add (.var 2) (.kon (.int 1)))] f47_b0
/-- _law_row (k30 k40 k70 k71 k80 k90) -/
def f47_law_row : Fn := ⟨3, 6, true, [.ifs (.cmp .eq (.var 2) (.kon (.int 0))) [.ret (.lst [(.var 1)])] [],
    .asg (.nm 3) (.newL []),
    f47_l0,
    .frz 3,
    .ret (.var 3)]⟩
def f48_c0 : E := .comp [10, 11] true .zip [(.sli (.var 8) [] [(.neg (.kon (.int 1)))]), (.sli (.var 8) [(.kon (.int 1))] [])] (.kon (.bl true)) (.bi .abs [(.bin .sub (.var 10) (.var 11))])
def f48_c1 : E := .comp [10] false .seq [(.var 8)] (.kon (.bl true)) (.bin .sub (.kon (.int 100)) (.var 10))
def f48_c2 : E := .comp [14, 10] true .enum [(.var 8)] (.ite (.cmp .ge (.var 6) (.var 5)) (.cmp .ge (.var 10) (.var 12)) (.cmp .le (.var 10) (.var 12))) (.var 14)
def f48_b0 : List C := [.asg (.nm 13) f48_c2,
    .asg (.nm 15) (.chain .le .le (.bi .min [(.idx (.var 8) (.kon (.int 0))), (.var 6)]) (.var 12) (.bi .max [(.idx (.var 8) (.kon (.int 0))), (.var 6)])),
    .asg (.nm 16) (.ite (.var 15) (.idx (.var 13) (.kon (.int 0))) (.kon .non)),
    .ifs (.cmp .ne (.call 46 [(.var 5), (.var 6), (.var 7), (.var 12)]) (.var 16)) [.ret (.kon (.bl false))] []]
def f48_l0 : C := .for_ [12] false .rng [(.kon (.int 0)), (.kon (.int 101)), (.bin .add (.kon (.int 1)) (.bin .mod (.bin .fdiv (.var 4) (.bin .pow (.kon (.int 2)) (.kon (.int 30)))) (.kon (.int 9))))] f48_b0
def f48_b1 : List C := [.asg (.nm 4) (.call 5 [(.var 2), (.bin .add (.kon (.int 10)) (.var 3))]),
    .unp [(.nm 5), (.nm 6), (.nm 7)] (.tup [(.bin .mod (.bin .fdiv (.var 4) (.kon (.int 8))) (.kon (.int 101))), (.bin .mod (.bin .fdiv (.var 4) (.kon (.int 1024))) (.kon (.int 101))), (.idx (.lst [(.kon (.int 0)), (.kon (.int 1)), (.kon (.int 50)), (.bin .mod (.bin .fdiv (.var 4) (.bin .pow (.kon (.int 2)) (.kon (.int 20)))) (.kon (.int 51)))]) (.bin .mod (.var 4) (.kon (.int 4))))]),
    .asg (.nm 8) (.call 45 [(.var 5), (.var 6), (.var 7)]),
    .ifs (.or (.cmp .ne (.var 8) (.call 47 [(.var 5), (.var 6), (.var 7)])) (.or (.cmp .ne (.idx (.var 8) (.neg (.kon (.int 1)))) (.var 6)) (.cmp .ne (.bi .len [(.var 8)]) (.bin .add (.var 7) (.kon (.int 1)))))) [.ret (.kon (.bl false))] [],
    .ifs (.or (.and (.cmp .gt (.var 7) (.kon (.int 0))) (.cmp .ne (.idx (.var 8) (.kon (.int 0))) (.var 5))) (.cmp .notin (.bi .sorted [(.var 8)]) (.lst [(.var 8), (.rev (.var 8))]))) [.ret (.kon (.bl false))] [],
    .asg (.nm 9) f48_c0,
    .ifs (.and (.cmp .ne (.var 9) (.lst [])) (.cmp .gt (.bi .max [(.var 9)]) (.bin .fdiv (.bin .sub (.bin .add (.bi .abs [(.bin .sub (.var 6) (.var 5))]) (.var 7)) (.kon (.int 1))) (.var 7)))) [.ret (.kon (.bl false))] [],
    .ifs (.cmp .ne f48_c1 (.call 45 [(.bin .sub (.kon (.int 100)) (.var 5)), (.bin .sub (.kon (.int 100)) (.var 6)), (.var 7)])) [.ret (.kon (.bl false))] [],
    f48_l0]
def f48_l1 : C := .for_ [3] false .rng [(.kon (.int 6))] f48_b1
def f48_b2 : List C := [.asg (.nm 13) (.newL [(.told 6 (.call 45 [(.var 17), (.kon (.int 0)), (.kon (.int 0))]))]),
    .expr (.bm .append (.var 13) [(.told 6 (.call 45 [(.kon (.int 0)), (.var 17), (.kon (.int 0))]))]),
    .expr (.bm .append (.var 13) [(.told 6 (.call 45 [(.kon (.int 0)), (.kon (.int 0)), (.var 17)]))]),
    .expr (.bm .append (.var 13) [(.told 6 (.call 46 [(.kon (.int 0)), (.kon (.int 0)), (.kon (.int 0)), (.var 17)]))]),
    .frz 13,
    .ifs (.cmp .ne (.var 13) (.bin .mul (.lst [(.kon (.str "BadNumber"))]) (.kon (.int 4)))) [.ret (.kon (.bl false))] []]
def f48_l2 : C := .for_ [17] false .seq [(.lst [(.neg (.kon (.int 1))), (.kon (.int 101)), (.kon .non), (.kon (.bl true)), (.kon (.str "1"))])] f48_b2
def f48_b3 : List C := [.asg (.nm 2) (.call 5 [(.call 4 [(.var 0), (.var 1)]), (.var 1)]),
    f48_l1,
    f48_l2,
    .ifs (.cmp .ne (.told 6 (.call 45 [(.kon (.int 0)), (.kon (.int 0)), (.kon (.int 51))])) (.kon (.str "BadNumber"))) [.ret (.kon (.bl false))] []]
def f48_l3 : C := .for_ [1] false .rng [(.bi .max [(.kon (.int 1)), (.bi .min [(.kon (.int 4)), (.bi .len [(.var 0)])])])] f48_b3
/-- law (k30) -/
def f48_law : Fn := ⟨1, 18, true, [f48_l3,
    .ret (.kon (.bl true))]⟩
/-- Lamp.left (k32 k40 k41 k42 k52 k70 k71 k80 k90 k99) -/
def f49_Lamp_left : Fn := ⟨1, 1, true, [.ret (.bi .max [(.kon (.int 0)), (.bin .sub (.attr (.var 0) 13) (.attr (.var 0) 3))])]⟩
/-- Lamp.tick (k32 k40 k41 k42 k70 k71 k72 k80 k81 k90 k99) -/
def f50_Lamp_tick : Fn := ⟨2, 2, false, [.asg (.at (.var 0) 3) (.bi .min [(.attr (.var 0) 13), (.bin .add (.attr (.var 0) 3) (.var 1))]),
    .asg (.at (.var 0) 6) (.bin .add (.attr (.var 0) 6) (.var 1))]⟩
def f51_c0 : E := .comp [2] false .seq [(.bi .sorted [(.attr (.var 0) 11)])] (.kon (.bl true)) (.tup [(.var 2), (.idx (.attr (.var 0) 11) (.var 2))])
/-- Lamp.state (k32 k40 k41 k42 k90 k99) -/
def f51_Lamp_state : Fn := ⟨1, 3, true, [.asg (.nm 1) (.bi .tuple [f51_c0]),
    .ret (.tup [(.meth 9 (.var 0) []), (.attr (.var 0) 2), (.meth 8 (.var 0) []), (.attr (.var 0) 0), (.bi .tuple [(.attr (.var 0) 4)]), (.var 1)])]⟩
def f52_b0 : List C := [.expr (.meth 17 (.var 2) [(.var 1)])]
def f52_l0 : C := .for_ [2] false .seq [(.attr (.var 0) 8)] f52_b0
/-- Wire.tick (k32 k40 k41 k42 k70 k71 k72 k80 k81 k90 k99) -/
def f52_Wire_tick : Fn := ⟨2, 3, false, [.ifs (.not (.call 0 [(.var 1), (.kon (.int 0)), (.kon (.int 1000000))])) [.raise 2] [],
    f52_l0]⟩
/-- Wire.state (k32 k40 k41 k42 k90 k99) -/
def f53_Wire_state : Fn := ⟨2, 2, true, [.expr (.meth 12 (.var 0) [(.var 1)]),
    .ret (.meth 16 (.idx (.attr (.var 0) 8) (.var 1)) [])]⟩
def f54_c0 : E := .comp [1] false .seq [(.attr (.var 0) 8)] (.kon (.bl true)) (.meth 8 (.var 1) [])
/-- Wire.rest (k32 k40 k41 k70 k71 k80 k90 k99) -/
def f54_Wire_rest : Fn := ⟨1, 2, true, [.ret (.bi .max [f54_c0])]⟩
def f55_c0 : E := .comp [1] false .seq [(.attr (.var 0) 8)] (.kon (.bl true)) (.meth 9 (.var 1) [])
/-- Wire.levels (k32 k40 k41 k42 k52 k60 k70 k71 k72 k80 k81 k90 k99) -/
def f55_Wire_levels : Fn := ⟨1, 2, true, [.ret f55_c0]⟩
/-- _law_let (k32 k40 k52 k60 k70 k71 k80 k90) -/
def f56_law_let : Fn := ⟨2, 2, true, [.ifs (.cmp .eq (.var 1) (.kon (.int 0))) [.ret (.kon (.int 0))] [],
    .ret (.ite (.cmp .lt (.var 1) (.idx (.var 0) (.kon (.int 2)))) (.idx (.var 0) (.kon (.int 2))) (.ite (.cmp .gt (.var 1) (.idx (.var 0) (.kon (.int 3)))) (.idx (.var 0) (.kon (.int 3))) (.var 1)))]⟩
def f57_b0 : List C := [.expr (.bm .append (.var 16) [(.meth 9 (.var 4) [(.kon (.int 0))])]),
    .expr (.meth 17 (.var 4) [(.kon (.int 1))])]
def f57_l0 : C := .for_ [17] false .rng [(.var 15)] f57_b0
def f57_b1 : List C := [.asg (.nm 8) (.call 5 [(.var 2), (.bin .add (.kon (.int 30)) (.var 7))]),
    .ifs (.cmp .eq (.bin .mod (.var 8) (.kon (.int 4))) (.kon (.int 0))) [.asg (.nm 6) (.idx (.lst [(.bin .mod (.bin .fdiv (.var 8) (.kon (.int 8))) (.kon (.int 51))), (.bin .mod (.bin .fdiv (.var 8) (.kon (.int 8))) (.kon (.int 3)))]) (.bin .mod (.bin .fdiv (.var 8) (.bin .pow (.kon (.int 2)) (.kon (.int 60)))) (.kon (.int 2)))),
    .expr (.meth 15 (.var 4) [(.tup [(.var 5), (.tup [(.kon (.str "fade")), (.var 6)])]), (.lst [])]),
    .expr (.meth 15 (.var 4) [(.tup [(.var 5), (.tup [(.kon (.str "fade")), (.var 6)])]), (.lst [])])] [],
    .par [9, 10] [(.meth 9 (.var 4) [(.kon (.int 0))]), (.idx (.lst [(.kon (.int 0)), (.bin .mod (.bin .fdiv (.var 8) (.kon (.int 64))) (.kon (.int 101))), (.kon (.int 1)), (.bin .mod (.bin .fdiv (.var 8) (.kon (.int 64))) (.kon (.int 101)))]) (.bin .mod (.bin .fdiv (.var 8) (.kon (.int 4))) (.kon (.int 4))))],
    .asg (.nm 11) (.call 56 [(.var 3), (.var 10)]),
    .expr (.meth 15 (.var 4) [(.tup [(.var 5), (.tup [(.kon (.str "level")), (.var 10)])]), (.lst [])]),
    .asg (.nm 12) (.ite (.cmp .gt (.var 9) (.kon (.int 0))) (.var 9) (.idx (.var 3) (.kon (.int 2)))),
    .asg (.nm 13) (.ite (.cmp .gt (.var 11) (.kon (.int 0))) (.var 11) (.idx (.var 3) (.kon (.int 2)))),
    .asg (.nm 14) (.ite (.and (.cmp .ne (.var 9) (.var 11)) (.cmp .gt (.var 6) (.kon (.int 0)))) (.bin .add (.sli (.call 45 [(.var 12), (.var 13), (.var 6)]) [] [(.neg (.kon (.int 1)))]) (.lst [(.var 11)])) (.lst [(.var 11)])),
    .ifs (.or (.cmp .ne (.meth 14 (.var 4) []) (.bin .sub (.bi .len [(.var 14)]) (.kon (.int 1)))) (.cmp .ne (.sli (.meth 16 (.var 4) [(.kon (.int 0))]) [] [(.kon (.int 3))]) (.tup [(.idx (.var 14) (.kon (.int 0))), (.var 11), (.bin .sub (.bi .len [(.var 14)]) (.kon (.int 1)))]))) [.ret (.kon (.bl false))] [],
    .asg (.nm 15) (.bin .mod (.bin .fdiv (.var 8) (.bin .pow (.kon (.int 2)) (.kon (.int 20)))) (.kon (.int 60))),
    .asg (.nm 16) (.newL []),
    f57_l0,
    .frz 16,
    .ifs (.cmp .ne (.var 16) (.sli (.bin .add (.var 14) (.bin .mul (.lst [(.var 11)]) (.kon (.int 60)))) [] [(.var 15)])) [.ret (.kon (.bl false))] [],
    .ifs (.cmp .eq (.bin .mod (.bin .fdiv (.var 8) (.bin .pow (.kon (.int 2)) (.kon (.int 40)))) (.kon (.int 5))) (.kon (.int 0))) [.asg (.nm 9) (.meth 9 (.var 4) [(.kon (.int 0))]),
    .asg (.nm 18) (.idx (.lst [(.kon (.str "up")), (.kon (.str "down")), (.kon (.str "off"))]) (.bin .mod (.bin .fdiv (.var 8) (.bin .pow (.kon (.int 2)) (.kon (.int 50)))) (.kon (.int 3)))),
    .expr (.meth 15 (.var 4) [(.tup [(.var 5), (.tup [(.var 18)])]), (.lst [])]),
    .asg (.nm 19) (.ite (.cmp .eq (.var 18) (.kon (.str "up"))) (.kon (.int 1)) (.neg (.kon (.int 1)))),
    .asg (.nm 11) (.ite (.or (.cmp .eq (.var 18) (.kon (.str "off"))) (.cmp .eq (.var 9) (.kon (.int 0)))) (.kon (.int 0)) (.bi .max [(.idx (.var 3) (.kon (.int 2))), (.bi .min [(.idx (.var 3) (.kon (.int 3))), (.bin .add (.var 9) (.var 19))])])),
    .ifs (.or (.cmp .ne (.meth 10 (.var 4) []) (.lst [(.var 11)])) (.and (.cmp .ne (.meth 14 (.var 4) []) (.kon (.int 0))) (.cmp .gt (.var 9) (.kon (.int 0))))) [.ret (.kon (.bl false))] []] []]
def f57_l1 : C := .for_ [7] false .rng [(.bin .mod (.bin .fdiv (.var 2) (.kon (.int 8))) (.kon (.int 15)))] f57_b1
def f57_b2 : List C := [.asg (.nm 2) (.call 5 [(.call 4 [(.var 0), (.var 1)]), (.var 1)]),
    .asg (.nm 3) (.idx (.call 6 [(.call 5 [(.var 2), (.kon (.int 1))]), (.kon (.int 1))]) (.kon (.int 0))),
    .par [4, 5, 6] [(.new 1 [(.lst [(.var 3)])]), (.tup [(.kon (.str "all"))]), (.kon (.int 0))],
    f57_l1]
def f57_l2 : C := .for_ [1] false .rng [(.bi .max [(.kon (.int 1)), (.bi .min [(.kon (.int 3)), (.bi .len [(.var 0)])])])] f57_b2
/-- law (k32) -/
def f57_law : Fn := ⟨1, 20, false, [f57_l2,
    .ret (.kon (.bl true))]⟩
def f58_b0 : List C := [.expr (.bm .append (.var 1) [(.newD ["own", "row", "time", "groups", "scenes", "heard", "ago"] [(.var 2), (.lst [(.kon (.int 0))]), (.kon (.int 0)), (.lst []), (.newD [] []), (.kon .non), (.kon (.int 0))])])]
def f58_l0 : C := .for_ [2] false .seq [(.var 0)] f58_b0
/-- _law_new (k40 k70 k71 k80 k90) -/
def f58_law_new : Fn := ⟨1, 3, false, [.asg (.nm 1) (.newL []),
    f58_l0,
    .frz 1,
    .ret (.var 1)]⟩
/-- _law_is_meant (k40 k70 k71 k80 k90) -/
def f59_law_is_meant : Fn := ⟨2, 2, true, [.ifs (.cmp .eq (.idx (.var 1) (.kon (.int 0))) (.kon (.str "short"))) [.ret (.cmp .eq (.idx (.idx (.var 0) (.kon (.str "own"))) (.kon (.int 1))) (.idx (.var 1) (.kon (.int 1))))] [],
    .ret (.or (.cmp .eq (.idx (.var 1) (.kon (.int 0))) (.kon (.str "all"))) (.cmp .isin (.idx (.var 1) (.kon (.int 1))) (.idx (.var 0) (.kon (.str "groups")))))]⟩
/-- _law_go (k40 k70 k71 k80 k90) -/
def f60_law_go : Fn := ⟨2, 6, false, [.par [2, 3] [(.idx (.idx (.var 0) (.kon (.str "row"))) (.kon (.int 0))), (.call 56 [(.idx (.var 0) (.kon (.str "own"))), (.var 1)])],
    .ifs (.or (.cmp .eq (.var 2) (.var 3)) (.cmp .eq (.idx (.var 0) (.kon (.str "time"))) (.kon (.int 0)))) [.asg (.ix (.var 0) (.kon (.str "row"))) (.lst [(.var 3)]),
    .retN] [],
    .asg (.nm 4) (.ite (.cmp .gt (.var 2) (.kon (.int 0))) (.var 2) (.idx (.idx (.var 0) (.kon (.str "own"))) (.kon (.int 2)))),
    .asg (.nm 5) (.call 47 [(.var 4), (.ite (.cmp .gt (.var 3) (.kon (.int 0))) (.var 3) (.idx (.idx (.var 0) (.kon (.str "own"))) (.kon (.int 2)))), (.idx (.var 0) (.kon (.str "time")))]),
    .asg (.ix (.var 0) (.kon (.str "row"))) (.bin .add (.sli (.var 5) [] [(.neg (.kon (.int 1)))]) (.lst [(.var 3)]))]⟩
def f61_c0 : E := .comp [4] false .seq [(.idx (.var 0) (.kon (.str "groups")))] (.cmp .ne (.var 4) (.idx (.var 1) (.kon (.int 1)))) (.var 4)
/-- _law_do (k40 k70 k71 k80 k90) -/
def f61_law_do : Fn := ⟨2, 5, false, [.par [2, 3] [(.idx (.var 1) (.kon (.int 0))), (.idx (.idx (.var 0) (.kon (.str "row"))) (.kon (.int 0)))],
    .ifs (.cmp .eq (.var 2) (.kon (.str "level?"))) [.ret (.var 3)] [],
    .ifs (.cmp .eq (.var 2) (.kon (.str "group?"))) [.ret (.ite (.cmp .isin (.idx (.var 1) (.kon (.int 1))) (.idx (.var 0) (.kon (.str "groups")))) (.kon (.int 1)) (.kon (.int 0)))] [],
    .ifs (.cmp .eq (.var 2) (.kon (.str "level"))) [.expr (.call 60 [(.var 0), (.idx (.var 1) (.kon (.int 1)))])] [],
    .ifs (.and (.cmp .eq (.var 2) (.kon (.str "scene"))) (.cmp .isin (.idx (.var 1) (.kon (.int 1))) (.idx (.var 0) (.kon (.str "scenes"))))) [.expr (.call 60 [(.var 0), (.idx (.idx (.var 0) (.kon (.str "scenes"))) (.idx (.var 1) (.kon (.int 1))))])] [],
    .ifs (.cmp .eq (.var 2) (.kon (.str "off"))) [.asg (.ix (.var 0) (.kon (.str "row"))) (.lst [(.kon (.int 0))])] [],
    .ifs (.and (.cmp .isin (.var 2) (.lst [(.kon (.str "up")), (.kon (.str "down"))])) (.cmp .gt (.var 3) (.kon (.int 0)))) [.asg (.ix (.var 0) (.kon (.str "row"))) (.lst [(.call 56 [(.idx (.var 0) (.kon (.str "own"))), (.ite (.cmp .eq (.var 2) (.kon (.str "up"))) (.bin .add (.var 3) (.kon (.int 1))) (.bin .sub (.var 3) (.kon (.int 1))))])]),
    .ifs (.and (.cmp .eq (.var 3) (.kon (.int 1))) (.cmp .eq (.var 2) (.kon (.str "down")))) [.asg (.ix (.var 0) (.kon (.str "row"))) (.lst [(.idx (.idx (.var 0) (.kon (.str "own"))) (.kon (.int 2)))])] []] [],
    .ifs (.cmp .eq (.var 2) (.kon (.str "fade"))) [.asg (.ix (.var 0) (.kon (.str "time"))) (.idx (.var 1) (.kon (.int 1)))] [],
    .ifs (.cmp .isin (.var 2) (.lst [(.kon (.str "join")), (.kon (.str "leave"))])) [.asg (.ix (.var 0) (.kon (.str "groups"))) f61_c0,
    .asg (.ix (.var 0) (.kon (.str "groups"))) (.bin .add (.idx (.var 0) (.kon (.str "groups"))) (.bin .mul (.lst [(.idx (.var 1) (.kon (.int 1)))]) (.bi .int [(.cmp .eq (.var 2) (.kon (.str "join")))])))] [],
    .ifs (.cmp .eq (.var 2) (.kon (.str "store"))) [.asg (.ix (.idx (.var 0) (.kon (.str "scenes"))) (.idx (.var 1) (.kon (.int 1)))) (.var 3)] [],
    .ifs (.and (.cmp .eq (.var 2) (.kon (.str "forget"))) (.cmp .isin (.idx (.var 1) (.kon (.int 1))) (.idx (.var 0) (.kon (.str "scenes"))))) [.expr (.dpop1 (.idx (.var 0) (.kon (.str "scenes"))) (.idx (.var 1) (.kon (.int 1))))] [],
    .ret (.kon .non)]⟩
/-- _law_hear (k40 k70 k71 k80 k90) -/
def f62_law_hear : Fn := ⟨2, 4, false, [.asg (.nm 2) (.cmp .isin (.idx (.idx (.var 1) (.kon (.int 1))) (.kon (.int 0))) (.lst [(.kon (.str "fade")), (.kon (.str "join")), (.kon (.str "leave")), (.kon (.str "store")), (.kon (.str "forget"))])),
    .asg (.nm 3) (.and (.var 2) (.or (.cmp .ne (.idx (.var 0) (.kon (.str "heard"))) (.var 1)) (.cmp .gt (.idx (.var 0) (.kon (.str "ago"))) (.kon (.int 5))))),
    .unp [(.ix (.var 0) (.kon (.str "heard"))), (.ix (.var 0) (.kon (.str "ago")))] (.tup [(.ite (.var 3) (.var 1) (.kon .non)), (.kon (.int 0))]),
    .ret (.ite (.and (.call 59 [(.var 0), (.idx (.var 1) (.kon (.int 0)))]) (.not (.var 3))) (.call 61 [(.var 0), (.idx (.var 1) (.kon (.int 1)))]) (.kon .non))]⟩
def f63_c0 : E := .comp [4, 5] true .enum [(.var 0)] (.cmp .notin (.var 4) (.var 2)) (.call 62 [(.var 5), (.var 1)])
def f63_c1 : E := .comp [5] false .seq [(.var 3)] (.notN (.var 5)) (.var 5)
/-- _law_send (k40 k70 k71 k80 k90) -/
def f63_law_send : Fn := ⟨3, 6, false, [.asg (.nm 3) f63_c0,
    .asg (.nm 3) f63_c1,
    .ret (.ite (.cmp .gt (.bi .len [(.var 3)]) (.kon (.int 1))) (.kon (.str "clash")) (.idx (.bin .add (.var 3) (.lst [(.kon .non)])) (.kon (.int 0))))]⟩
def f64_b0 : List C := [.asg (.ix (.var 2) (.kon (.str "row"))) (.sli (.idx (.var 2) (.kon (.str "row"))) [(.bi .min [(.var 1), (.bin .sub (.bi .len [(.idx (.var 2) (.kon (.str "row")))]) (.kon (.int 1)))])] []),
    .asg (.ix (.var 2) (.kon (.str "ago"))) (.bin .add (.idx (.var 2) (.kon (.str "ago"))) (.var 1))]
def f64_l0 : C := .for_ [2] false .seq [(.var 0)] f64_b0
/-- _law_tick (k40 k70 k71 k80 k90) -/
def f64_law_tick : Fn := ⟨2, 3, false, [f64_l0]⟩
def f65_c0 : E := .comp [5] false .seq [(.bi .sorted [(.idx (.var 3) (.kon (.str "scenes")))])] (.kon (.bl true)) (.tup [(.var 5), (.idx (.idx (.var 3) (.kon (.str "scenes"))) (.var 5))])
def f65_b0 : List C := [.asg (.nm 4) (.bi .tuple [f65_c0]),
    .asg (.nm 6) (.idx (.var 3) (.kon (.str "row"))),
    .expr (.bm .append (.var 2) [(.tup [(.idx (.var 6) (.kon (.int 0))), (.idx (.var 6) (.neg (.kon (.int 1)))), (.bin .sub (.bi .len [(.var 6)]) (.kon (.int 1))), (.idx (.var 3) (.kon (.str "time"))), (.bi .tuple [(.bi .sorted [(.idx (.var 3) (.kon (.str "groups")))])]), (.var 4)])])]
def f65_l0 : C := .for_ [3] false .seq [(.var 1)] f65_b0
def f65_c1 : E := .comp [5] false .rng [(.bi .len [(.var 1)])] (.kon (.bl true)) (.meth 16 (.var 0) [(.var 5)])
def f65_c2 : E := .comp [7] false .seq [(.var 2)] (.kon (.bl true)) (.idx (.var 7) (.kon (.int 2)))
def f65_c3 : E := .comp [7] false .seq [(.var 2)] (.kon (.bl true)) (.idx (.var 7) (.kon (.int 0)))
def f65_c4 : E := .comp [5] false .rng [(.bi .len [(.var 1)])] (.kon (.bl true)) (.meth 9 (.var 0) [(.var 5)])
def f65_c5 : E := .comp [7] false .seq [(.var 2)] (.kon (.bl true)) (.idx (.var 7) (.kon (.int 0)))
/-- _law_right (k40) -/
def f65_law_right : Fn := ⟨2, 8, true, [.asg (.nm 2) (.newL []),
    f65_l0,
    .frz 2,
    .ifs (.cmp .ne f65_c1 (.var 2)) [.ret (.kon (.bl false))] [],
    .ifs (.or (.cmp .ne (.meth 14 (.var 0) []) (.bi .max [f65_c2])) (.cmp .ne (.meth 10 (.var 0) []) f65_c3)) [.ret (.kon (.bl false))] [],
    .ret (.cmp .eq f65_c4 f65_c5)]⟩
def f66_c0 : E := .comp [2] false .rng [(.var 1)] (.cmp .eq (.bin .mod (.call 5 [(.var 0), (.var 2)]) (.kon (.int 5))) (.kon (.int 0))) (.var 2)
/-- _law_deaf (k40 k41 k90) -/
def f66_law_deaf : Fn := ⟨2, 3, true, [.ret (.ite (.cmp .eq (.bin .mod (.var 0) (.kon (.int 3))) (.kon (.int 0))) f66_c0 (.lst []))]⟩
def f67_b0 : List C := [.ifs (.cmp .ne (.told 6 (.meth 15 (.var 0) [(.var 2), (.var 3)])) (.kon (.str "BadNumber"))) [.ret (.kon (.bl false))] []]
def f67_l0 : C := .for_ [3] false .seq [(.lst [(.kon .non), (.tup []), (.lst [(.var 1)]), (.lst [(.neg (.kon (.int 1)))]), (.lst [(.kon (.str "0"))]), (.lst [(.kon .non)]), (.lst [(.kon (.bl true))])])] f67_b0
def f67_b1 : List C := [.ifs (.cmp .ne (.told 6 (.meth 17 (.var 0) [(.var 3)])) (.kon (.str "BadNumber"))) [.ret (.kon (.bl false))] []]
def f67_l1 : C := .for_ [3] false .seq [(.lst [(.neg (.kon (.int 1))), (.kon (.int 1000001)), (.kon .non), (.kon (.bl true)), (.kon (.str "1"))])] f67_b1
def f67_b2 : List C := [.ifs (.cmp .ne (.told 6 (.meth 9 (.var 0) [(.var 3)])) (.kon (.str "BadNumber"))) [.ret (.kon (.bl false))] [],
    .ifs (.cmp .ne (.told 6 (.meth 16 (.var 0) [(.var 3)])) (.kon (.str "BadNumber"))) [.ret (.kon (.bl false))] []]
def f67_l2 : C := .for_ [3] false .seq [(.lst [(.neg (.kon (.int 1))), (.var 1), (.kon .non), (.kon (.bl true)), (.kon (.str "0"))])] f67_b2
/-- _law_none_let (k40) -/
def f67_law_none_let : Fn := ⟨2, 4, false, [.asg (.nm 2) (.tup [(.tup [(.kon (.str "all"))]), (.tup [(.kon (.str "off"))])]),
    f67_l0,
    f67_l1,
    f67_l2,
    .ret (.cmp .eq (.told 6 (.new 1 [(.lst [])])) (.kon (.str "BadHouse")))]⟩
def f68_b0 : List C := [.ifs (.cmp .ne (.meth 15 (.var 4) [(.var 8), (.var 9)]) (.call 63 [(.var 5), (.var 8), (.var 9)])) [.ret (.kon (.bl false))] [],
    .asg (.nm 11) (.idx (.lst [(.kon (.int 0)), (.kon (.int 0)), (.kon (.int 1)), (.kon (.int 5)), (.kon (.int 6)), (.kon (.int 3))]) (.bin .mod (.bin .fdiv (.bin .fdiv (.var 7) (.bin .pow (.kon (.int 2)) (.kon (.int 50)))) (.bin .add (.var 10) (.kon (.int 1)))) (.kon (.int 6)))),
    .expr (.meth 17 (.var 4) [(.var 11)]),
    .expr (.call 64 [(.var 5), (.var 11)])]
def f68_l0 : C := .for_ [10] false .rng [(.bin .add (.kon (.int 1)) (.bi .int [(.cmp .lt (.bin .mod (.var 7) (.kon (.int 4))) (.kon (.int 3)))]))] f68_b0
def f68_b1 : List C := [.asg (.nm 7) (.call 5 [(.var 2), (.bin .add (.kon (.int 30)) (.var 6))]),
    .par [8, 9] [(.call 42 [(.bin .fdiv (.var 7) (.kon (.int 8)))]), (.call 66 [(.call 5 [(.var 7), (.kon (.int 1))]), (.bi .len [(.var 3)])])],
    f68_l0,
    .ifs (.cmp .eq (.bin .mod (.bin .fdiv (.var 7) (.bin .pow (.kon (.int 2)) (.kon (.int 60)))) (.kon (.int 5))) (.kon (.int 0))) [.asg (.nm 11) (.idx (.lst [(.kon (.int 20)), (.kon (.int 50)), (.kon (.int 1000)), (.kon (.int 7))]) (.bin .mod (.bin .fdiv (.var 7) (.bin .pow (.kon (.int 2)) (.kon (.int 20)))) (.kon (.int 4)))),
    .expr (.meth 17 (.var 4) [(.var 11)]),
    .expr (.call 64 [(.var 5), (.var 11)])] [],
    .ifs (.not (.call 65 [(.var 4), (.var 5)])) [.ret (.kon (.bl false))] []]
def f68_l1 : C := .for_ [6] false .rng [(.bin .mod (.bin .fdiv (.var 2) (.kon (.int 8))) (.kon (.int 51)))] f68_b1
def f68_b2 : List C := [.asg (.nm 2) (.call 5 [(.call 4 [(.var 0), (.var 1)]), (.var 1)]),
    .asg (.nm 3) (.call 6 [(.call 5 [(.var 2), (.kon (.int 1))]), (.kon (.int 6))]),
    .par [4, 5] [(.new 1 [(.var 3)]), (.call 58 [(.var 3)])],
    .ifs (.not (.call 65 [(.var 4), (.var 5)])) [.ret (.kon (.bl false))] [],
    f68_l1,
    .ifs (.or (.not (.call 67 [(.var 4), (.bi .len [(.var 3)])])) (.not (.call 65 [(.var 4), (.var 5)]))) [.ret (.kon (.bl false))] []]
def f68_l2 : C := .for_ [1] false .rng [(.bi .max [(.kon (.int 1)), (.bi .min [(.kon (.int 3)), (.bi .len [(.var 0)])])])] f68_b2
/-- law (k40) -/
def f68_law : Fn := ⟨1, 12, false, [f68_l2,
    .ret (.kon (.bl true))]⟩
/-- _law_is_twice (k41) -/
def f69_law_is_twice : Fn := ⟨1, 1, true, [.ret (.cmp .isin (.idx (.idx (.var 0) (.kon (.int 1))) (.kon (.int 0))) (.lst [(.kon (.str "fade")), (.kon (.str "join")), (.kon (.str "leave")), (.kon (.str "store")), (.kon (.str "forget"))]))]⟩
def f70_c0 : E := .comp [6] false .seq [(.var 3)] (.kon (.bl true)) (.new 1 [(.lst [(.var 6)])])
def f70_c1 : E := .comp [14, 15] true .enum [(.var 5)] (.cmp .notin (.var 14) (.var 10)) (.meth 15 (.var 15) [(.var 9), (.lst [])])
def f70_c2 : E := .comp [16] false .seq [(.var 13)] (.notN (.var 16)) (.var 16)
def f70_b0 : List C := [.asg (.nm 12) (.meth 15 (.var 4) [(.var 9), (.var 10)]),
    .asg (.nm 13) f70_c1,
    .asg (.nm 13) f70_c2,
    .ifs (.cmp .ne (.var 12) (.ite (.cmp .gt (.bi .len [(.var 13)]) (.kon (.int 1))) (.kon (.str "clash")) (.idx (.bin .add (.var 13) (.lst [(.kon .non)])) (.kon (.int 0))))) [.ret (.kon (.bl false))] []]
def f70_l0 : C := .for_ [11] false .rng [(.bin .add (.kon (.int 1)) (.bi .int [(.and (.call 69 [(.var 9)]) (.cmp .gt (.bin .mod (.var 8) (.kon (.int 4))) (.kon (.int 0))))]))] f70_b0
def f70_b1 : List C := [.expr (.meth 17 (.var 15) [(.var 18)])]
def f70_l1 : C := .for_ [18] false .seq [(.lst [(.bin .fdiv (.var 17) (.kon (.int 2))), (.kon (.int 0)), (.bin .sub (.var 17) (.bin .fdiv (.var 17) (.kon (.int 2))))])] f70_b1
def f70_b2 : List C := [f70_l1]
def f70_l2 : C := .for_ [15] false .seq [(.var 5)] f70_b2
def f70_c3 : E := .comp [14] false .rng [(.bi .len [(.var 3)])] (.kon (.bl true)) (.meth 16 (.var 4) [(.var 14)])
def f70_c4 : E := .comp [15] false .seq [(.var 5)] (.kon (.bl true)) (.meth 16 (.var 15) [(.kon (.int 0))])
def f70_b3 : List C := [.asg (.nm 8) (.call 5 [(.var 2), (.bin .add (.kon (.int 30)) (.var 7))]),
    .unp [(.nm 9), (.nm 10)] (.tup [(.call 42 [(.bin .fdiv (.var 8) (.kon (.int 8)))]), (.call 66 [(.call 5 [(.var 8), (.kon (.int 1))]), (.bi .len [(.var 3)])])]),
    f70_l0,
    .asg (.nm 17) (.bin .mod (.bin .fdiv (.var 8) (.bin .pow (.kon (.int 2)) (.kon (.int 30)))) (.kon (.int 12))),
    .expr (.meth 17 (.var 4) [(.var 17)]),
    f70_l2,
    .ifs (.cmp .ne f70_c3 f70_c4) [.ret (.kon (.bl false))] []]
def f70_l3 : C := .for_ [7] false .rng [(.bin .mod (.bin .fdiv (.var 2) (.kon (.int 8))) (.kon (.int 41)))] f70_b3
def f70_c5 : E := .comp [15] false .seq [(.var 5)] (.kon (.bl true)) (.meth 14 (.var 15) [])
def f70_c6 : E := .comp [14] false .rng [(.bi .len [(.var 3)])] (.kon (.bl true)) (.idx (.meth 16 (.var 4) [(.var 14)]) (.kon (.int 1)))
def f70_c7 : E := .comp [14] false .rng [(.bi .len [(.var 3)])] (.kon (.bl true)) (.meth 9 (.var 4) [(.var 14)])
def f70_b4 : List C := [.asg (.nm 2) (.call 5 [(.call 4 [(.var 0), (.var 1)]), (.var 1)]),
    .asg (.nm 3) (.call 6 [(.call 5 [(.var 2), (.kon (.int 1))]), (.kon (.int 6))]),
    .unp [(.nm 4), (.nm 5)] (.tup [(.new 1 [(.var 3)]), f70_c0]),
    f70_l3,
    .asg (.nm 19) (.meth 14 (.var 4) []),
    .ifs (.cmp .ne (.var 19) (.bi .max [f70_c5])) [.ret (.kon (.bl false))] [],
    .asg (.nm 20) f70_c6,
    .ifs (.cmp .gt (.var 19) (.kon (.int 0))) [.expr (.meth 17 (.var 4) [(.bin .sub (.var 19) (.kon (.int 1)))]),
    .ifs (.cmp .ne (.meth 14 (.var 4) []) (.kon (.int 1))) [.ret (.kon (.bl false))] [],
    .expr (.meth 17 (.var 4) [(.kon (.int 1))])] [],
    .ifs (.or (.cmp .ne (.meth 14 (.var 4) []) (.kon (.int 0))) (.cmp .ne (.meth 10 (.var 4) []) (.var 20))) [.ret (.kon (.bl false))] [],
    .expr (.meth 17 (.var 4) [(.bin .mod (.bin .fdiv (.var 2) (.kon (.int 64))) (.kon (.int 1000)))]),
    .ifs (.or (.cmp .ne (.meth 10 (.var 4) []) (.var 20)) (.cmp .ne f70_c7 (.var 20))) [.ret (.kon (.bl false))] []]
def f70_l4 : C := .for_ [1] false .rng [(.bi .max [(.kon (.int 1)), (.bi .min [(.kon (.int 3)), (.bi .len [(.var 0)])])])] f70_b4
/-- law (k41) -/
def f70_law : Fn := ⟨1, 21, false, [f70_l4,
    .ret (.kon (.bl true))]⟩
/-- Wire.rest (k42) -/
def f71_Wire_rest : Fn := ⟨1, 1, true, [.expr (.call 8 [(.kon (.int 0))])]⟩
/-- _law_twice (k42) -/
def f72_law_twice : Fn := ⟨2, 2, false, [.expr (.meth 15 (.var 0) [(.var 1), (.lst [])]),
    .expr (.meth 15 (.var 0) [(.var 1), (.lst [])])]⟩
def f73_c0 : E := .comp [5] false .rng [(.var 1)] (.kon (.bl true)) (.idx (.meth 16 (.var 0) [(.var 5)]) (.kon (.int 4)))
def f73_c1 : E := .comp [5] false .rng [(.var 1)] (.kon (.bl true)) (.idx (.meth 16 (.var 0) [(.var 5)]) (.kon (.int 5)))
/-- _law_forgotten_right (k42) -/
def f73_law_forgotten_right : Fn := ⟨3, 6, false, [.asg (.nm 3) (.tup [(.kon (.str "all"))]),
    .expr (.meth 15 (.var 0) [(.tup [(.tup [(.kon (.str "group")), (.kon (.int 3))]), (.tup [(.kon (.str "level")), (.kon (.int 50))])]), (.lst [])]),
    .expr (.call 72 [(.var 0), (.tup [(.tup [(.kon (.str "group")), (.kon (.int 3))]), (.tup [(.kon (.str "leave")), (.kon (.int 3))])])]),
    .asg (.nm 4) (.meth 10 (.var 0) []),
    .expr (.meth 15 (.var 0) [(.tup [(.tup [(.kon (.str "group")), (.kon (.int 3))]), (.tup [(.kon (.str "off"))])]), (.lst [])]),
    .ifs (.or (.cmp .ne (.meth 10 (.var 0) []) (.var 4)) (.cmp .ne f73_c0 (.bin .mul (.lst [(.tup [])]) (.var 1)))) [.ret (.kon (.bl false))] [],
    .expr (.call 72 [(.var 0), (.tup [(.var 3), (.tup [(.kon (.str "forget")), (.var 2)])])]),
    .expr (.meth 15 (.var 0) [(.tup [(.var 3), (.tup [(.kon (.str "scene")), (.var 2)])]), (.lst [])]),
    .ifs (.or (.cmp .ne (.meth 10 (.var 0) []) (.var 4)) (.cmp .ne f73_c1 (.bin .mul (.lst [(.tup [])]) (.var 1)))) [.ret (.kon (.bl false))] [],
    .ret (.kon (.bl true))]⟩
def f74_c0 : E := .comp [4, 5] true .enum [(.call 6 [(.call 5 [(.var 2), (.kon (.int 1))]), (.kon (.int 6))])] (.kon (.bl true)) (.tup [(.idx (.var 5) (.kon (.int 0))), (.var 4), (.idx (.var 5) (.kon (.int 2))), (.idx (.var 5) (.kon (.int 3)))])
def f74_b0 : List C := [.expr (.meth 15 (.var 6) [(.tup [(.tup [(.kon (.str "short")), (.var 4)]), (.tup [(.kon (.str "level")), (.bin .mod (.bin .fdiv (.call 5 [(.var 2), (.var 4)]) (.kon (.int 8))) (.kon (.int 101)))])]), (.lst [])])]
def f74_l0 : C := .for_ [4] false .rng [(.var 7)] f74_b0
def f74_c1 : E := .comp [15] false .seq [(.var 9)] (.kon (.bl true)) (.ite (.cmp .isin (.var 11) (.tup [(.kon (.int 0)), (.kon (.int 4))])) (.tup [(.tup [(.var 10), (.var 15)])]) (.tup []))
def f74_c2 : E := .comp [4] false .rng [(.var 7)] (.kon (.bl true)) (.idx (.meth 16 (.var 6) [(.var 4)]) (.kon (.int 5)))
def f74_c3 : E := .comp [4] false .rng [(.var 7)] (.cmp .eq (.bin .mod (.call 5 [(.var 2), (.bin .add (.kon (.int 40)) (.var 4))]) (.kon (.int 2))) (.kon (.int 0))) (.var 4)
def f74_b1 : List C := [.expr (.call 72 [(.var 6), (.tup [(.tup [(.kon (.str "short")), (.var 4)]), (.tup [(.kon (.str "join")), (.kon (.int 3))])])])]
def f74_l1 : C := .for_ [4] false .seq [(.var 16)] f74_b1
def f74_c4 : E := .comp [4] false .rng [(.var 7)] (.kon (.bl true)) (.ite (.and (.cmp .isin (.var 4) (.var 16)) (.cmp .isin (.var 11) (.tup [(.kon (.int 0)), (.kon (.int 4))]))) (.idx (.var 9) (.var 4)) (.kon (.int 0)))
def f74_b2 : List C := [.asg (.nm 2) (.call 5 [(.call 4 [(.var 0), (.var 1)]), (.var 1)]),
    .asg (.nm 3) f74_c0,
    .unp [(.nm 6), (.nm 7), (.nm 8)] (.tup [(.new 1 [(.var 3)]), (.bi .len [(.var 3)]), (.tup [(.kon (.str "all"))])]),
    f74_l0,
    .unp [(.nm 9), (.nm 10)] (.tup [(.meth 10 (.var 6) []), (.bin .mod (.bin .fdiv (.var 2) (.kon (.int 8))) (.kon (.int 8)))]),
    .asg (.nm 11) (.bin .mod (.var 2) (.kon (.int 5))),
    .par [12, 13] [(.tup [(.var 8), (.tup [(.kon (.str "store")), (.var 10)])]), (.tup [(.var 8), (.tup [(.kon (.str "store")), (.var 10)])])],
    .expr (.meth 15 (.var 6) [(.var 12), (.lst [])]),
    .ifs (.cmp .eq (.var 11) (.kon (.int 1))) [.expr (.meth 15 (.var 6) [(.tup [(.var 8), (.tup [(.kon (.str "level?"))])]), (.lst [])])] [],
    .ifs (.cmp .eq (.var 11) (.kon (.int 2))) [.expr (.meth 17 (.var 6) [(.kon (.int 6))])] [],
    .ifs (.cmp .eq (.var 11) (.kon (.int 3))) [.asg (.nm 13) (.tup [(.var 8), (.tup [(.kon (.str "store")), (.bin .mod (.bin .add (.var 10) (.kon (.int 1))) (.kon (.int 8)))])])] [],
    .ifs (.cmp .eq (.var 11) (.kon (.int 4))) [.expr (.meth 17 (.var 6) [(.kon (.int 5))])] [],
    .expr (.meth 15 (.var 6) [(.var 13), (.lst [])]),
    .asg (.nm 14) f74_c1,
    .ifs (.cmp .ne f74_c2 (.var 14)) [.ret (.kon (.bl false))] [],
    .asg (.nm 16) f74_c3,
    f74_l1,
    .expr (.meth 15 (.var 6) [(.tup [(.var 8), (.tup [(.kon (.str "off"))])]), (.lst [])]),
    .expr (.meth 15 (.var 6) [(.tup [(.tup [(.kon (.str "group")), (.kon (.int 3))]), (.tup [(.kon (.str "scene")), (.var 10)])]), (.lst [])]),
    .ifs (.cmp .ne (.meth 10 (.var 6) []) f74_c4) [.ret (.kon (.bl false))] [],
    .ifs (.not (.call 73 [(.var 6), (.var 7), (.var 10)])) [.ret (.kon (.bl false))] []]
def f74_l2 : C := .for_ [1] false .rng [(.bi .max [(.kon (.int 1)), (.bi .min [(.kon (.int 3)), (.bi .len [(.var 0)])])])] f74_b2
/-- law (k42) -/
def f74_law : Fn := ⟨1, 17, false, [f74_l2,
    .ret (.kon (.bl true))]⟩
def f75_c0 : E := .comp [1] false .seq [(.var 0)] (.kon (.bl true)) (.call 0 [(.var 1), (.kon (.int 0)), (.kon (.int 65535))])
/-- need_longs (k50 k52 k99) -/
def f75_need_longs : Fn := ⟨1, 2, true, [.ifs (.or (.not (.isi (.var 0) [.list])) (.not (.bi .all [f75_c0]))) [.raise 0] [],
    .ifs (.cmp .ne (.bi .nset [(.var 0)]) (.bi .len [(.var 0)])) [.raise 0] []]⟩
def f76_b0 : List C := [.asg (.nm 4) (.bin .fdiv (.bin .add (.var 1) (.var 3)) (.kon (.int 2))),
    .asg (.nm 5) (.cmp .le (.bi .min [(.var 0)]) (.var 4)),
    .expr (.bm .append (.var 2) [(.tup [(.var 4), (.var 5)])]),
    .ifs (.var 5) [.asg (.nm 3) (.var 4)] [.asg (.nm 1) (.bin .add (.var 4) (.kon (.int 1)))]]
def f76_w0 : C := .whil (.and (.cmp .ne (.var 0) (.lst [])) (.cmp .lt (.var 1) (.var 3))) f76_b0
/-- halved (k50 k52 k99) -/
def f76_halved : Fn := ⟨2, 6, true, [.asg (.nm 2) (.newL [(.tup [(.kon (.int 65535)), (.cmp .ne (.var 0) (.lst []))])]),
    .asg (.nm 3) (.kon (.int 65535)),
    f76_w0,
    .frz 2,
    .ret (.var 2)]⟩
def f77_b0 : List C := [.expr (.bm .append (.var 4) [(.call 76 [(.var 2), (.var 3)])]),
    .ifs (.cmp .eq (.var 2) (.lst [])) [.ret (.frz (.var 4))] [],
    .ifs (.var 1) [.asg (.nm 3) (.bin .add (.idx (.var 2) (.kon (.int 0))) (.kon (.int 1)))] [],
    .asg (.nm 2) (.sli (.var 2) [(.kon (.int 1))] [])]
def f77_w0 : C := .whil (.kon (.bl true)) f77_b0
/-- asked (k50 k52 k99) -/
def f77_asked : Fn := ⟨2, 5, true, [.par [2, 3, 4] [(.bi .sorted [(.var 0)]), (.kon (.int 0)), (.newL [])],
    f77_w0]⟩
/-- plain (k50 k52 k99) -/
def f78_plain : Fn := ⟨1, 1, true, [.expr (.call 75 [(.var 0)]),
    .ret (.call 77 [(.var 0), (.kon (.bl false))])]⟩
/-- quick (k50 k52 k99) -/
def f79_quick : Fn := ⟨1, 1, true, [.expr (.call 75 [(.var 0)]),
    .ret (.call 77 [(.var 0), (.kon (.bl true))])]⟩
def f80_c0 : E := .comp [4, 5] true .seq [(.var 2)] (.var 5) (.var 4)
def f80_b0 : List C := [.asg (.nm 3) f80_c0,
    .ifs (.cmp .ne (.var 3) (.lst [])) [.expr (.bm .append (.var 1) [(.idx (.var 3) (.neg (.kon (.int 1))))])] []]
def f80_l0 : C := .for_ [2] false .seq [(.var 0)] f80_b0
/-- heard_of (k50 k52 k99) -/
def f80_heard_of : Fn := ⟨1, 6, true, [.asg (.nm 1) (.newL []),
    f80_l0,
    .frz 1,
    .ret (.var 1)]⟩
def f81_c0 : E := .comp [1] false .seq [(.var 0)] (.kon (.bl true)) (.isi (.var 1) [.list])
def f81_c1 : E := .comp [2] false .seq [(.var 1)] (.kon (.bl true)) (.and (.isi (.var 2) [.tuple]) (.and (.cmp .eq (.bi .len [(.var 2)]) (.kon (.int 2))) (.isi (.idx (.var 2) (.kon (.int 1))) [.bool])))
def f81_c2 : E := .comp [2] false .seq [(.var 1)] (.kon (.bl true)) (.call 0 [(.idx (.var 2) (.kon (.int 0))), (.kon (.int 0)), (.kon (.int 65535))])
def f81_b0 : List C := [.ifs (.not (.bi .all [f81_c1])) [.raise 0] [],
    .ifs (.not (.bi .all [f81_c2])) [.raise 0] []]
def f81_l0 : C := .for_ [1] false .seq [(.var 0)] f81_b0
/-- told_by (k50 k52 k99) -/
def f81_told_by : Fn := ⟨1, 3, true, [.ifs (.or (.not (.isi (.var 0) [.list])) (.not (.bi .all [f81_c0]))) [.raise 0] [],
    f81_l0,
    .ret (.call 80 [(.var 0)])]⟩
def f82_b0 : List C := [.ifs (.and (.cmp .ne (.var 0) (.lst [])) (.cmp .lt (.var 1) (.var 3))) [.asg (.nm 5) (.bin .add (.var 1) (.bin .fdiv (.bin .sub (.var 3) (.var 1)) (.kon (.int 2)))),
    .expr (.bm .append (.var 2) [(.tup [(.var 5), (.cmp .le (.idx (.var 0) (.kon (.int 0))) (.var 5))])]),
    .unp [(.nm 1), (.nm 3)] (.ite (.cmp .le (.idx (.var 0) (.kon (.int 0))) (.var 5)) (.tup [(.var 1), (.var 5)]) (.tup [(.bin .add (.var 5) (.kon (.int 1))), (.var 3)]))] []]
def f82_l0 : C := .for_ [4] false .rng [(.kon (.int 17))] f82_b0
/-- _law_asks (k50) -/
def f82_law_asks : Fn := ⟨2, 6, true, [.par [2, 3] [(.newL [(.tup [(.kon (.int 65535)), (.cmp .ne (.var 0) (.lst []))])]), (.kon (.int 65535))],
    f82_l0,
    .frz 2,
    .ret (.var 2)]⟩
def f83_b0 : List C := [.asg (.nm 7) (.call 5 [(.var 4), (.var 6)]),
    .asg (.nm 8) (.lst [(.bin .mod (.bin .fdiv (.var 7) (.kon (.int 8))) (.kon (.int 65536))), (.bin .add (.bin .mod (.bin .fdiv (.var 4) (.kon (.int 64))) (.kon (.int 65000))) (.bin .mod (.bin .fdiv (.var 7) (.kon (.int 8))) (.kon (.int 30))))]),
    .asg (.nm 9) (.idx (.bin .add (.var 8) (.lst [(.bin .sub (.kon (.int 65535)) (.bin .mod (.bin .fdiv (.var 7) (.kon (.int 8))) (.kon (.int 3)))), (.bin .mod (.bin .fdiv (.var 7) (.kon (.int 8))) (.kon (.int 3)))])) (.bin .mod (.var 7) (.kon (.int 4)))),
    .ifs (.cmp .notin (.var 9) (.var 5)) [.expr (.bm .append (.var 5) [(.var 9)])] []]
def f83_l0 : C := .for_ [6] false .rng [(.bin .mod (.var 4) (.kon (.int 12)))] f83_b0
def f83_c0 : E := .comp [12] false .rng [(.bin .add (.bi .len [(.var 10)]) (.kon (.int 1)))] (.kon (.bl true)) (.call 82 [(.sli (.var 10) [(.var 12)] []), (.kon (.int 0))])
def f83_c1 : E := .comp [14] false .seq [(.var 10)] (.kon (.bl true)) (.bin .add (.var 14) (.kon (.int 1)))
def f83_c2 : E := .comp [12] false .rng [(.bin .add (.bi .len [(.var 10)]) (.kon (.int 1)))] (.kon (.bl true)) (.call 82 [(.sli (.var 10) [(.var 12)] []), (.idx (.var 13) (.var 12))])
def f83_c3 : E := .comp [14] false .seq [(.var 15)] (.kon (.bl true)) (.bi .len [(.var 14)])
def f83_c4 : E := .comp [14] false .seq [(.var 11)] (.kon (.bl true)) (.bi .len [(.var 14)])
def f83_b1 : List C := [.asg (.nm 4) (.call 5 [(.var 2), (.bin .add (.kon (.int 10)) (.var 3))]),
    .asg (.nm 5) (.newL []),
    f83_l0,
    .frz 5,
    .asg (.nm 10) (.bi .sorted [(.var 5)]),
    .asg (.nm 11) f83_c0,
    .asg (.nm 13) (.bin .add (.lst [(.kon (.int 0))]) f83_c1),
    .asg (.nm 15) f83_c2,
    .ifs (.or (.cmp .ne (.call 78 [(.var 5)]) (.var 11)) (.cmp .ne (.call 79 [(.var 5)]) (.var 15))) [.ret (.kon (.bl false))] [],
    .ifs (.or (.cmp .ne (.call 81 [(.var 11)]) (.var 10)) (.or (.cmp .ne (.call 81 [(.var 15)]) (.var 10)) (.cmp .ne (.call 81 [(.lst [])]) (.lst [])))) [.ret (.kon (.bl false))] [],
    .ifs (.cmp .gt (.bi .sum [f83_c3]) (.bi .sum [f83_c4])) [.ret (.kon (.bl false))] []]
def f83_l1 : C := .for_ [3] false .rng [(.kon (.int 4))] f83_b1
def f83_b2 : List C := [.ifs (.cmp .ne (.told 6 (.call 78 [(.var 16)])) (.kon (.str "BadHouse"))) [.ret (.kon (.bl false))] [],
    .ifs (.cmp .ne (.told 6 (.call 79 [(.var 16)])) (.kon (.str "BadHouse"))) [.ret (.kon (.bl false))] []]
def f83_l2 : C := .for_ [16] false .seq [(.lst [(.kon .non), (.tup [(.kon (.int 1))]), (.lst [(.neg (.kon (.int 1)))]), (.lst [(.kon (.int 65536))]), (.lst [(.kon (.int 1)), (.kon (.int 1))]), (.lst [(.kon (.str "1"))]), (.lst [(.kon (.bl true))])])] f83_b2
def f83_b3 : List C := [.ifs (.cmp .ne (.told 6 (.call 81 [(.var 16)])) (.kon (.str "BadHouse"))) [.ret (.kon (.bl false))] []]
def f83_l3 : C := .for_ [16] false .seq [(.lst [(.kon .non), (.tup []), (.lst [(.kon .non)]), (.lst [(.lst [(.kon (.int 1))])]), (.lst [(.lst [(.tup [(.kon (.int 1))])])]), (.lst [(.lst [(.tup [(.kon (.int 1)), (.kon (.int 1))])])]), (.lst [(.lst [(.tup [(.kon (.int 65536)), (.kon (.bl true))])])]), (.lst [(.lst [(.lst [(.kon (.int 1)), (.kon (.bl true))])])]), (.lst [(.tup [(.kon (.int 1)), (.kon (.bl true))])])])] f83_b3
def f83_b4 : List C := [.asg (.nm 2) (.call 5 [(.call 4 [(.var 0), (.var 1)]), (.var 1)]),
    f83_l1,
    f83_l2,
    f83_l3]
def f83_l4 : C := .for_ [1] false .rng [(.bi .max [(.kon (.int 1)), (.bi .min [(.kon (.int 3)), (.bi .len [(.var 0)])])])] f83_b4
/-- law (k50) -/
def f83_law : Fn := ⟨1, 17, true, [f83_l4,
    .ret (.kon (.bl true))]⟩
/-- Lamp.tick (k52) -/
def f84_Lamp_tick : Fn := ⟨2, 2, true, [.expr (.call 8 [(.kon (.int 0))])]⟩
/-- Lamp.state (k52 k72 k81) -/
def f85_Lamp_state : Fn := ⟨1, 1, true, [.expr (.call 8 [(.kon (.int 1))])]⟩
/-- Wire.tick (k52) -/
def f86_Wire_tick : Fn := ⟨2, 2, true, [.expr (.call 8 [(.kon (.int 2))])]⟩
/-- Wire.state (k52) -/
def f87_Wire_state : Fn := ⟨2, 2, true, [.expr (.call 8 [(.kon (.int 3))])]⟩
/-- Wire.rest (k52) -/
def f88_Wire_rest : Fn := ⟨1, 1, true, [.expr (.call 8 [(.kon (.int 4))])]⟩
def f89_c0 : E := .comp [5] false .seq [(.var 3)] (.kon (.bl true)) (.idx (.var 5) (.kon (.int 0)))
def f89_b0 : List C := [.par [10, 11] [(.tup [(.kon (.str "short")), (.idx (.var 5) (.kon (.int 1)))]), (.bin .add (.kon (.int 1)) (.bin .mod (.bin .fdiv (.call 5 [(.var 2), (.var 9)]) (.kon (.int 8))) (.kon (.int 100))))],
    .asg (.nm 12) (.meth 10 (.var 8) []),
    .ifs (.notN (.meth 15 (.var 8) [(.tup [(.var 10), (.tup [(.kon (.str "level")), (.var 11)])]), (.lst [])])) [.ret (.kon (.bl false))] [],
    .asg (.nm 13) (.bin .add (.bin .add (.sli (.var 12) [] [(.var 9)]) (.lst [(.call 56 [(.var 5), (.var 11)])])) (.sli (.var 12) [(.bin .add (.var 9) (.kon (.int 1)))] [])),
    .ifs (.or (.cmp .ne (.meth 10 (.var 8) []) (.var 13)) (.cmp .ne (.meth 15 (.var 8) [(.tup [(.var 10), (.tup [(.kon (.str "level?"))])]), (.lst [])]) (.idx (.var 13) (.var 9)))) [.ret (.kon (.bl false))] [],
    .ifs (.or (.cmp .ne (.meth 15 (.var 8) [(.tup [(.var 10), (.tup [(.kon (.str "group?")), (.kon (.int 2))])]), (.lst [])]) (.kon (.int 0))) (.notN (.meth 15 (.var 8) [(.tup [(.var 10), (.tup [(.kon (.str "level?"))])]), (.lst [(.var 9)])]))) [.ret (.kon (.bl false))] []]
def f89_l0 : C := .for_ [9, 5] true .enum [(.var 7)] f89_b0
def f89_c1 : E := .comp [5] false .seq [(.var 7)] (.kon (.bl true)) (.idx (.var 5) (.kon (.int 1)))
def f89_c2 : E := .comp [10] false .rng [(.kon (.int 16))] (.cmp .notin (.var 10) f89_c1) (.var 10)
def f89_c3 : E := .comp [10] false .seq [(.var 14)] (.notN (.meth 15 (.var 8) [(.tup [(.tup [(.kon (.str "short")), (.var 10)]), (.tup [(.kon (.str "level?"))])]), (.lst [])])) (.var 10)
def f89_b1 : List C := [.asg (.nm 2) (.call 5 [(.call 4 [(.var 0), (.var 1)]), (.var 1)]),
    .asg (.nm 3) (.call 6 [(.call 5 [(.var 2), (.kon (.int 1))]), (.kon (.int 8))]),
    .asg (.nm 4) f89_c0,
    .asg (.nm 6) (.call 79 [(.var 4)]),
    .ifs (.or (.cmp .ne (.call 81 [(.var 6)]) (.bi .sorted [(.var 4)])) (.or (.cmp .ne (.call 81 [(.call 78 [(.var 4)])]) (.bi .sorted [(.var 4)])) (.cmp .ne (.bi .len [(.var 6)]) (.bin .add (.bi .len [(.var 3)]) (.kon (.int 1)))))) [.ret (.kon (.bl false))] [],
    .asg (.nm 7) (.call 3 [(.var 3)]),
    .asg (.nm 8) (.new 1 [(.var 7)]),
    .ifs (.cmp .ne (.meth 15 (.var 8) [(.tup [(.tup [(.kon (.str "all"))]), (.tup [(.kon (.str "level?"))])]), (.lst [])]) (.ite (.cmp .gt (.bi .len [(.var 3)]) (.kon (.int 1))) (.kon (.str "clash")) (.kon (.int 0)))) [.ret (.kon (.bl false))] [],
    f89_l0,
    .asg (.nm 14) f89_c2,
    .ifs (.cmp .ne f89_c3 (.lst [])) [.ret (.kon (.bl false))] [],
    .ifs (.or (.cmp .ne (.call 3 [(.var 7)]) (.var 7)) (.cmp .ne (.call 3 [(.rev (.var 7))]) (.rev (.var 7)))) [.ret (.kon (.bl false))] []]
def f89_l1 : C := .for_ [1] false .rng [(.bi .max [(.kon (.int 1)), (.bi .min [(.kon (.int 3)), (.bi .len [(.var 0)])])])] f89_b1
/-- law (k52) -/
def f89_law : Fn := ⟨1, 15, false, [f89_l1,
    .ret (.kon (.bl true))]⟩
def f90_c0 : E := .comp [3] false .seq [(.var 2)] (.kon (.bl true)) (.call 0 [(.var 3), (.kon (.int 0)), (.kon (.int 7))])
def f90_c1 : E := .comp [4, 5] true .zip [(.sli (.var 2) [] [(.neg (.kon (.int 1)))]), (.sli (.var 2) [(.kon (.int 1))] [])] (.kon (.bl true)) (.cmp .lt (.var 4) (.var 5))
def f90_b0 : List C := [.ifs (.or (.not (.isi (.var 2) [.tuple])) (.not (.bi .all [f90_c0]))) [.raise 3] [],
    .ifs (.not (.bi .all [f90_c1])) [.raise 3] []]
def f90_l0 : C := .for_ [2] false .seq [(.var 1)] f90_b0
/-- need_members (k60 k99) -/
def f90_need_members : Fn := ⟨2, 6, true, [.ifs (.or (.not (.isi (.var 1) [.list])) (.cmp .ne (.bi .len [(.var 1)]) (.bi .len [(.var 0)]))) [.raise 3] [],
    f90_l0]⟩
def f91_b0 : List C := [.ifs (.or (.not (.call 0 [(.var 3), (.kon (.int 0)), (.kon (.int 100))])) (.cmp .ne (.call 9 [(.var 2), (.var 3)]) (.var 3))) [.raise 3] []]
def f91_l0 : C := .for_ [2, 3] true .zip [(.var 0), (.var 1)] f91_b0
/-- need_wishes (k60 k99) -/
def f91_need_wishes : Fn := ⟨2, 4, true, [.ifs (.or (.not (.isi (.var 1) [.list])) (.cmp .ne (.bi .len [(.var 1)]) (.bi .len [(.var 0)]))) [.raise 3] [],
    f91_l0]⟩
def f92_c0 : E := .comp [4, 5] true .enum [(.var 1)] (.cmp .isin (.var 3) (.var 5)) (.var 4)
def f92_b0 : List C := [.expr (.bm .append (.var 2) [(.tup [(.tup [(.kon (.str "group")), (.var 3)]), f92_c0])])]
def f92_l0 : C := .for_ [3] false .rng [(.bin .add (.kon (.int 7)) (.kon (.int 1)))] f92_b0
def f92_c1 : E := .comp [4, 7] true .enum [(.var 0)] (.cmp .eq (.idx (.var 7) (.kon (.int 1))) (.var 6)) (.var 4)
def f92_b1 : List C := [.expr (.bm .append (.var 2) [(.tup [(.tup [(.kon (.str "short")), (.var 6)]), f92_c1])])]
def f92_l1 : C := .for_ [6] false .rng [(.bin .add (.kon (.int 15)) (.kon (.int 1)))] f92_b1
def f92_c2 : E := .comp [8, 9] true .seq [(.var 2)] (.cmp .ne (.var 9) (.lst [])) (.tup [(.var 8), (.var 9)])
/-- addresses (k60 k99) -/
def f92_addresses : Fn := ⟨2, 10, true, [.asg (.nm 2) (.newL [(.tup [(.tup [(.kon (.str "all"))]), (.bi .listR [(.bi .len [(.var 0)])])])]),
    f92_l0,
    f92_l1,
    .frz 2,
    .ret f92_c2]⟩
def f93_c0 : E := .comp [4] false .seq [(.var 2)] (.kon (.bl true)) (.cmp .eq (.call 9 [(.idx (.var 0) (.var 4)), (.var 3)]) (.idx (.var 1) (.var 4)))
def f93_b0 : List C := [.ifs (.bi .all [f93_c0]) [.ret (.var 3)] []]
def f93_l0 : C := .for_ [3] false .rng [(.bin .add (.kon (.int 100)) (.kon (.int 1)))] f93_b0
/-- least_level (k60 k99) -/
def f93_least_level : Fn := ⟨3, 5, true, [f93_l0,
    .ret (.kon .non)]⟩
def f94_c0 : E := .comp [8] false .seq [(.var 6)] (.cmp .notin (.var 8) (.var 3)) (.var 8)
def f94_b0 : List C := [.asg (.nm 7) f94_c0,
    .asg (.nm 9) (.ite (.cmp .ne (.var 7) (.lst [])) (.call 93 [(.var 0), (.var 2), (.var 7)]) (.kon .non)),
    .ifs (.notN (.var 9)) [.expr (.bm .append (.var 4) [(.tup [(.tup [(.var 5), (.tup [(.kon (.str "level")), (.var 9)])]), (.bi .tuple [(.bi .sorted [(.bin .add (.bi .list [(.var 3)]) (.var 7))])])])])] []]
def f94_l0 : C := .for_ [5, 6] true .seq [(.var 1)] f94_b0
/-- last_words (k60 k99) -/
def f94_last_words : Fn := ⟨4, 10, true, [.asg (.nm 4) (.newL []),
    f94_l0,
    .frz 4,
    .ret (.var 4)]⟩
/-- fewest (k60 k99) -/
def f96_fewest : Fn := ⟨3, 3, false, [.ret (.bi .len [(.call 95 [(.var 0), (.var 1), (.var 2)])])]⟩
def f97_c0 : E := .comp [3, 4] true .enum [(.var 0)] (.cmp .eq (.idx (.var 4) (.kon (.int 1))) (.idx (.var 2) (.kon (.int 1)))) (.var 3)
def f97_c1 : E := .comp [3, 5] true .enum [(.var 1)] (.cmp .isin (.idx (.var 2) (.kon (.int 1))) (.var 5)) (.var 3)
/-- _law_reached (k60) -/
def f97_law_reached : Fn := ⟨3, 6, true, [.ifs (.cmp .eq (.idx (.var 2) (.kon (.int 0))) (.kon (.str "all"))) [.ret (.bi .listR [(.bi .len [(.var 0)])])] [],
    .ifs (.cmp .eq (.idx (.var 2) (.kon (.int 0))) (.kon (.str "short"))) [.ret f97_c0] [],
    .ret f97_c1]⟩
def f98_c0 : E := .comp [6] false .rng [(.kon (.int 8))] (.kon (.bl true)) (.tup [(.kon (.str "group")), (.var 6)])
def f98_c1 : E := .comp [6] false .rng [(.kon (.int 16))] (.kon (.bl true)) (.tup [(.kon (.str "short")), (.var 6)])
def f98_c2 : E := .comp [8] false .seq [(.call 97 [(.var 0), (.var 1), (.var 5)])] (.cmp .notin (.var 8) (.var 3)) (.var 8)
def f98_c3 : E := .comp [8] false .seq [(.var 7)] (.cmp .ne (.call 56 [(.idx (.var 0) (.var 8)), (.var 10)]) (.idx (.var 2) (.var 8))) (.kon (.int 1))
def f98_b0 : List C := [.ifs (.cmp .eq f98_c3 (.lst [])) [.expr (.bm .append (.var 9) [(.var 10)])] []]
def f98_l0 : C := .for_ [10] false .rng [(.kon (.int 101))] f98_b0
def f98_b1 : List C := [.asg (.nm 7) f98_c2,
    .asg (.nm 9) (.newL []),
    f98_l0,
    .frz 9,
    .ifs (.and (.cmp .ne (.var 7) (.lst [])) (.cmp .ne (.var 9) (.lst []))) [.expr (.bm .append (.var 4) [(.tup [(.tup [(.var 5), (.tup [(.kon (.str "level")), (.idx (.var 9) (.kon (.int 0)))])]), (.bi .sorted [(.bin .add (.var 3) (.var 7))])])])] []]
def f98_l1 : C := .for_ [5] false .seq [(.bin .add (.bin .add (.lst [(.tup [(.kon (.str "all"))])]) f98_c0) f98_c1)] f98_b1
/-- _law_choices (k60) -/
def f98_law_choices : Fn := ⟨4, 11, true, [.asg (.nm 4) (.newL []),
    f98_l1,
    .frz 4,
    .ret (.var 4)]⟩
def f99_c0 : E := .comp [8, 9] true .seq [(.call 98 [(.var 0), (.var 1), (.var 2), (.var 7)])] (.kon (.bl true)) (.tup [(.bin .add (.lst [(.var 8)]) (.var 6)), (.var 9)])
def f99_b0 : List C := [.expr (.bm .extend (.var 5) [f99_c0])]
def f99_l0 : C := .for_ [6, 7] true .seq [(.var 3)] f99_b0
def f99_c1 : E := .comp [6, 7] true .seq [(.var 5)] (.cmp .eq (.bi .len [(.var 7)]) (.bi .len [(.var 0)])) (.var 6)
def f99_b1 : List C := [.asg (.nm 5) (.newL []),
    f99_l0,
    .frz 5,
    .asg (.nm 10) f99_c1,
    .ifs (.cmp .ne (.var 10) (.lst [])) [.ret (.bi .min [(.var 10)])] [],
    .asg (.nm 3) (.var 5)]
def f99_l1 : C := .for_ [4] false .rng [(.bi .len [(.var 0)])] f99_b1
/-- _law_plan (k60) -/
def f99_law_plan : Fn := ⟨3, 11, true, [.asg (.nm 3) (.lst [(.tup [(.lst []), (.lst [])])]),
    f99_l1,
    .ret (.kon (.str "NoWay"))]⟩
def f100_c0 : E := .comp [10] false .rng [(.bi .len [(.var 0)])] (.cmp .ne (.var 10) (.var 6)) (.var 10)
def f100_b0 : List C := [.expr (.meth 15 (.var 5) [(.tup [(.tup [(.kon (.str "all"))]), (.tup [(.kon (.str "join")), (.var 8)])]), (.var 9)])]
def f100_l0 : C := .for_ [11] false .seq [(.tup [(.kon (.int 0)), (.kon (.int 1))])] f100_b0
def f100_b1 : List C := [.asg (.nm 9) f100_c0,
    f100_l0]
def f100_l1 : C := .for_ [8] false .seq [(.var 7)] f100_b1
def f100_b2 : List C := [f100_l1]
def f100_l2 : C := .for_ [6, 7] true .enum [(.var 1)] f100_b2
def f100_b3 : List C := [.expr (.meth 15 (.var 5) [(.var 12), (.lst [])])]
def f100_l3 : C := .for_ [12] false .seq [(.var 3)] f100_b3
/-- _law_behind (k60) -/
def f100_law_behind : Fn := ⟨5, 13, false, [.asg (.nm 5) (.new 1 [(.var 0)]),
    f100_l2,
    .expr (.meth 15 (.var 5) [(.tup [(.tup [(.kon (.str "all"))]), (.tup [(.kon (.str "level")), (.bin .mod (.var 4) (.kon (.int 101)))])]), (.lst [])]),
    f100_l3,
    .ret (.cmp .eq (.meth 10 (.var 5) []) (.var 2))]⟩
def f101_c0 : E := .comp [11] false .rng [(.kon (.int 3))] (.cmp .eq (.bin .mod (.bin .fdiv (.bin .fdiv (.var 10) (.kon (.int 8))) (.bin .add (.var 11) (.kon (.int 1)))) (.kon (.int 3))) (.kon (.int 0))) (.var 11)
def f101_b0 : List C := [.asg (.nm 10) (.call 5 [(.var 4), (.bin .add (.kon (.int 20)) (.var 8))]),
    .expr (.bm .append (.var 6) [(.bi .tuple [f101_c0])]),
    .expr (.bm .append (.var 7) [(.call 56 [(.var 9), (.idx (.lst [(.kon (.int 0)), (.kon (.int 30)), (.bin .mod (.bin .fdiv (.var 10) (.kon (.int 64))) (.kon (.int 101))), (.kon (.int 100))]) (.bin .mod (.var 10) (.kon (.int 4))))])])]
def f101_l0 : C := .for_ [8, 9] true .enum [(.var 5)] f101_b0
def f101_b1 : List C := [.asg (.nm 4) (.call 5 [(.var 2), (.bin .add (.kon (.int 10)) (.var 3))]),
    .asg (.nm 5) (.call 6 [(.call 5 [(.var 4), (.kon (.int 1))]), (.kon (.int 4))]),
    .unp [(.nm 6), (.nm 7)] (.tup [(.newL []), (.newL [])]),
    f101_l0,
    .frz 6,
    .frz 7,
    .asg (.nm 12) (.told 6 (.call 95 [(.var 5), (.var 6), (.var 7)])),
    .ifs (.cmp .ne (.var 12) (.call 99 [(.var 5), (.var 6), (.var 7)])) [.ret (.kon (.bl false))] [],
    .ifs (.cmp .ne (.told 6 (.call 96 [(.var 5), (.var 6), (.var 7)])) (.ite (.cmp .eq (.var 12) (.kon (.str "NoWay"))) (.kon (.str "NoWay")) (.bi .len [(.var 12)]))) [.ret (.kon (.bl false))] [],
    .ifs (.and (.cmp .ne (.var 12) (.kon (.str "NoWay"))) (.not (.call 100 [(.var 5), (.var 6), (.var 7), (.var 12), (.bin .fdiv (.var 4) (.kon (.int 512)))]))) [.ret (.kon (.bl false))] []]
def f101_l1 : C := .for_ [3] false .rng [(.kon (.int 3))] f101_b1
def f101_b2 : List C := [.expr (.bm .append (.var 13) [(.told 6 (.call 95 [(.var 5), (.var 14), (.kon .non)]))])]
def f101_l2 : C := .for_ [14] false .seq [(.lst [(.kon .non), (.lst []), (.bin .mul (.lst [(.tup [])]) (.bin .add (.bi .len [(.var 5)]) (.kon (.int 1)))), (.bin .mul (.lst [(.tup [(.kon (.int 8))])]) (.bi .len [(.var 5)])), (.bin .mul (.lst [(.tup [(.kon (.int 1)), (.kon (.int 1))])]) (.bi .len [(.var 5)])), (.bin .mul (.lst [(.lst [])]) (.bi .len [(.var 5)]))])] f101_b2
def f101_b3 : List C := [.expr (.bm .append (.var 13) [(.told 6 (.call 95 [(.var 5), (.var 6), (.var 14)]))])]
def f101_l3 : C := .for_ [14] false .seq [(.lst [(.kon .non), (.sli (.var 7) [] [(.neg (.kon (.int 1)))]), (.bin .mul (.lst [(.kon (.int 101))]) (.bi .len [(.var 5)])), (.bin .mul (.lst [(.kon (.bl true))]) (.bi .len [(.var 5)])), (.bi .tuple [(.var 7)])])] f101_b3
def f101_b4 : List C := [.asg (.nm 2) (.call 5 [(.call 4 [(.var 0), (.var 1)]), (.var 1)]),
    f101_l1,
    .asg (.nm 13) (.newL [(.told 6 (.call 95 [(.lst []), (.kon .non), (.kon .non)]))]),
    f101_l2,
    f101_l3,
    .frz 13,
    .ifs (.cmp .ne (.var 13) (.bin .add (.lst [(.kon (.str "BadHouse"))]) (.bin .mul (.lst [(.kon (.str "BadWish"))]) (.kon (.int 11))))) [.ret (.kon (.bl false))] []]
def f101_l4 : C := .for_ [1] false .rng [(.bi .max [(.kon (.int 1)), (.bi .min [(.kon (.int 3)), (.bi .len [(.var 0)])])])] f101_b4
/-- law (k60) -/
def f101_law : Fn := ⟨1, 15, false, [f101_l4,
    .ret (.kon (.bl true))]⟩
/-- Lamp.state (k70 k71 k80) -/
def f103_Lamp_state : Fn := ⟨1, 1, true, [.expr (.call 8 [(.kon (.int 0))])]⟩
/-- Wire.state (k70 k71 k80) -/
def f105_Wire_state : Fn := ⟨2, 2, true, [.expr (.call 8 [(.kon (.int 1))])]⟩
/-- is_row (k70 k71 k72) -/
def f106_is_row : Fn := ⟨1, 1, true, [.ifs (.or (.not (.isi (.var 0) [.tuple])) (.or (.cmp .ne (.bi .len [(.var 0)]) (.kon (.int 2))) (.not (.call 0 [(.idx (.var 0) (.kon (.int 0))), (.kon (.int 0)), (.kon (.int 1000))])))) [.ret (.kon (.bl false))] [],
    .ret (.call 14 [(.idx (.var 0) (.kon (.int 1)))])]⟩
def f107_c0 : E := .comp [1] false .seq [(.var 0)] (.kon (.bl true)) (.call 106 [(.var 1)])
def f107_c1 : E := .comp [2, 3] true .zip [(.sli (.var 0) [] [(.neg (.kon (.int 1)))]), (.sli (.var 0) [(.kon (.int 1))] [])] (.kon (.bl true)) (.cmp .le (.idx (.var 2) (.kon (.int 0))) (.idx (.var 3) (.kon (.int 0))))
/-- need_rows (k70 k71 k72) -/
def f107_need_rows : Fn := ⟨1, 4, true, [.ifs (.or (.not (.isi (.var 0) [.list])) (.or (.cmp .gt (.bi .len [(.var 0)]) (.kon (.int 60))) (.not (.bi .all [f107_c0])))) [.raise 6] [],
    .ifs (.not (.bi .all [f107_c1])) [.raise 6] []]⟩
/-- sent (k70 k71 k72) -/
def f108_sent : Fn := ⟨2, 2, false, [.ifs (.cmp .isin (.idx (.idx (.var 1) (.kon (.int 1))) (.kon (.int 0))) (.gtup ["fade", "join", "leave", "store", "forget"])) [.expr (.meth 15 (.var 0) [(.var 1), (.lst [])])] [],
    .ret (.meth 15 (.var 0) [(.var 1), (.lst [])])]⟩
def f109_b0 : List C := [.ifs (.cmp .le (.var 6) (.var 2)) [.expr (.meth 17 (.var 3) [(.bin .sub (.var 6) (.var 4))]),
    .asg (.nm 4) (.var 6),
    .expr (.bm .append (.var 5) [(.call 108 [(.var 3), (.var 7)])])] []]
def f109_l0 : C := .for_ [6, 7] true .seq [(.var 1)] f109_b0
/-- run (k70 k71 k72) -/
def f109_run : Fn := ⟨3, 8, false, [.par [3, 4, 5] [(.new 1 [(.var 0)]), (.kon (.int 0)), (.newL [])],
    f109_l0,
    .frz 5,
    .expr (.meth 17 (.var 3) [(.bin .sub (.var 2) (.var 4))]),
    .ret (.tup [(.var 3), (.var 5)])]⟩
/-- look (k70 k71 k72) -/
def f110_look : Fn := ⟨3, 3, true, [.expr (.call 2 [(.var 0)]),
    .expr (.call 107 [(.var 1)]),
    .ifs (.not (.call 0 [(.var 2), (.kon (.int 0)), (.kon (.int 1000))])) [.raise 2] []]⟩
/-- levels_at (k70 k72) -/
def f111_levels_at : Fn := ⟨3, 3, false, [.expr (.call 110 [(.var 0), (.var 1), (.var 2)]),
    .ret (.meth 10 (.idx (.call 109 [(.var 0), (.var 1), (.var 2)]) (.kon (.int 0))) [])]⟩
/-- answers (k70 k71 k72) -/
def f112_answers : Fn := ⟨3, 3, false, [.expr (.call 110 [(.var 0), (.var 1), (.var 2)]),
    .ret (.idx (.call 109 [(.var 0), (.var 1), (.var 2)]) (.kon (.int 1)))]⟩
def f113_b0 : List C := [.expr (.call 108 [(.var 3), (.idx (.idx (.var 1) (.var 5)) (.kon (.int 1)))]),
    .asg (.nm 5) (.bin .add (.var 5) (.kon (.int 1)))]
def f113_w0 : C := .whil (.and (.cmp .lt (.var 5) (.bi .len [(.var 1)])) (.cmp .le (.idx (.idx (.var 1) (.var 5)) (.kon (.int 0))) (.var 6))) f113_b0
def f113_b1 : List C := [.expr (.meth 17 (.var 3) [(.bi .int [(.cmp .gt (.var 6) (.kon (.int 0)))])]),
    f113_w0,
    .asg (.nm 7) (.meth 10 (.var 3) []),
    .ifs (.or (.cmp .eq (.var 4) (.lst [])) (.cmp .ne (.idx (.idx (.var 4) (.neg (.kon (.int 1)))) (.kon (.int 1))) (.var 7))) [.expr (.bm .append (.var 4) [(.tup [(.var 6), (.var 7)])])] []]
def f113_l0 : C := .for_ [6] false .rng [(.bin .add (.var 2) (.kon (.int 1)))] f113_b1
/-- changes_of (k70 k71 k72) -/
def f113_changes_of : Fn := ⟨3, 8, false, [.par [3, 4, 5] [(.new 1 [(.var 0)]), (.newL []), (.kon (.int 0))],
    f113_l0,
    .frz 4,
    .ret (.var 4)]⟩
/-- changes (k70 k71 k72) -/
def f114_changes : Fn := ⟨3, 3, false, [.expr (.call 110 [(.var 0), (.var 1), (.var 2)]),
    .ret (.call 113 [(.var 0), (.var 1), (.var 2)])]⟩
/-- _law_wide (k70 k71 k72 k80 k81 k90) -/
def f115_law_wide : Fn := ⟨1, 1, true, [.ret (.call 6 [(.call 5 [(.var 0), (.kon (.int 1))]), (.kon (.int 4))])]⟩
def f116_b0 : List C := [.asg (.nm 6) (.call 5 [(.var 0), (.bin .add (.kon (.int 700)) (.var 5))]),
    .asg (.nm 4) (.bin .add (.var 4) (.idx (.lst [(.kon (.int 0)), (.kon (.int 0)), (.kon (.int 1)), (.kon (.int 2)), (.kon (.int 5)), (.kon (.int 9))]) (.bin .mod (.var 6) (.kon (.int 6))))),
    .asg (.nm 7) (.call 42 [(.bin .fdiv (.var 6) (.kon (.int 8)))]),
    .ifs (.cmp .eq (.bin .mod (.bin .fdiv (.var 6) (.bin .pow (.kon (.int 2)) (.kon (.int 40)))) (.kon (.int 3))) (.kon (.int 0))) [.asg (.nm 7) (.tup [(.tup [(.kon (.str "all"))]), (.idx (.var 7) (.kon (.int 1)))])] [],
    .ifs (.cmp .le (.var 4) (.var 2)) [.expr (.bm .append (.var 3) [(.tup [(.var 4), (.var 7)])])] []]
def f116_l0 : C := .for_ [5] false .rng [(.bin .mod (.var 0) (.bin .add (.var 1) (.kon (.int 1))))] f116_b0
/-- _law_rows (k70 k71) -/
def f116_law_rows : Fn := ⟨3, 8, true, [.par [3, 4] [(.newL []), (.kon (.int 0))],
    f116_l0,
    .frz 3,
    .ret (.var 3)]⟩
/-- _law_once (k70 k71) -/
def f117_law_once : Fn := ⟨2, 2, false, [.ifs (.cmp .isin (.idx (.idx (.var 1) (.kon (.int 1))) (.kon (.int 0))) (.lst [(.kon (.str "fade")), (.kon (.str "join")), (.kon (.str "leave")), (.kon (.str "store")), (.kon (.str "forget"))])) [.expr (.call 63 [(.var 0), (.var 1), (.lst [])])] [],
    .ret (.call 63 [(.var 0), (.var 1), (.lst [])])]⟩
def f118_b0 : List C := [.ifs (.cmp .eq (.var 7) (.var 6)) [.expr (.bm .append (.var 5) [(.call 117 [(.var 3), (.var 8)])])] []]
def f118_l0 : C := .for_ [7, 8] true .seq [(.var 1)] f118_b0
def f118_c0 : E := .comp [9] false .seq [(.var 3)] (.kon (.bl true)) (.idx (.idx (.var 9) (.kon (.str "row"))) (.kon (.int 0)))
def f118_b1 : List C := [.ifs (.cmp .gt (.var 6) (.kon (.int 0))) [.expr (.call 64 [(.var 3), (.kon (.int 1))])] [],
    f118_l0,
    .expr (.bm .append (.var 4) [f118_c0])]
def f118_l1 : C := .for_ [6] false .rng [(.bin .add (.var 2) (.kon (.int 1)))] f118_b1
/-- _law_run (k70 k71) -/
def f118_law_run : Fn := ⟨3, 10, false, [.par [3, 4, 5] [(.call 58 [(.var 0)]), (.newL []), (.newL [])],
    f118_l1,
    .frz 4,
    .frz 5,
    .ret (.tup [(.var 4), (.var 5)])]⟩
def f119_c0 : E := .comp [10, 11] true .seq [(.var 4)] (.cmp .le (.var 10) (.var 8)) (.kon (.int 1))
def f119_c1 : E := .comp [10] false .rng [(.bin .add (.var 8) (.kon (.int 1)))] (.or (.cmp .eq (.var 10) (.kon (.int 0))) (.cmp .ne (.idx (.var 6) (.var 10)) (.idx (.var 6) (.bin .sub (.var 10) (.kon (.int 1)))))) (.tup [(.var 10), (.idx (.var 6) (.var 10))])
def f119_b0 : List C := [.ifs (.cmp .ne (.told 8 (.call 111 [(.var 3), (.var 4), (.var 8)])) (.idx (.var 6) (.var 8))) [.ret (.kon (.bl false))] [],
    .asg (.nm 9) (.bi .len [f119_c0]),
    .ifs (.cmp .ne (.told 8 (.call 112 [(.var 3), (.var 4), (.var 8)])) (.sli (.var 7) [] [(.var 9)])) [.ret (.kon (.bl false))] [],
    .asg (.nm 12) f119_c1,
    .ifs (.cmp .ne (.told 8 (.call 114 [(.var 3), (.var 4), (.var 8)])) (.var 12)) [.ret (.kon (.bl false))] [],
    .ifs (.cmp .ne (.call 114 [(.var 3), (.sli (.var 4) [] [(.var 9)]), (.var 8)]) (.var 12)) [.ret (.kon (.bl false))] []]
def f119_l0 : C := .for_ [8] false .seq [(.lst [(.kon (.int 0)), (.kon (.int 1)), (.bin .mod (.bin .fdiv (.var 2) (.kon (.int 64))) (.kon (.int 61))), (.kon (.int 60))])] f119_b0
def f119_b1 : List C := [.asg (.nm 2) (.call 5 [(.call 4 [(.var 0), (.var 1)]), (.var 1)]),
    .unp [(.nm 3), (.nm 4)] (.tup [(.call 115 [(.var 2)]), (.call 116 [(.var 2), (.kon (.int 15)), (.kon (.int 60))])]),
    .asg (.nm 5) (.tup [(.bi .list [(.var 3)]), (.bi .list [(.var 4)])]),
    .unp [(.nm 6), (.nm 7)] (.call 118 [(.var 3), (.var 4), (.kon (.int 60))]),
    f119_l0,
    .asg (.nm 13) (.idx (.idx (.call 118 [(.var 3), (.var 4), (.kon (.int 200))]) (.kon (.int 0))) (.neg (.kon (.int 1)))),
    .ifs (.or (.cmp .ne (.tup [(.var 3), (.var 4)]) (.var 5)) (.cmp .ne (.call 111 [(.var 3), (.var 4), (.kon (.int 1000))]) (.var 13))) [.ret (.kon (.bl false))] []]
def f119_l1 : C := .for_ [1] false .rng [(.bi .max [(.kon (.int 1)), (.bi .min [(.kon (.int 2)), (.bi .len [(.var 0)])])])] f119_b1
/-- law (k70) -/
def f119_law : Fn := ⟨1, 14, false, [f119_l1,
    .ret (.kon (.bl true))]⟩
def f120_b0 : List C := [.asg (.nm 7) (.bin .add (.sli (.var 1) [] [(.var 6)]) (.sli (.var 1) [(.bin .add (.var 6) (.kon (.int 1)))] [])),
    .asg (.nm 8) (.cmp .eq (.idx (.call 109 [(.var 0), (.var 7), (.var 2)]) (.kon (.int 1))) (.bin .add (.sli (.var 4) [] [(.var 6)]) (.sli (.var 4) [(.bin .add (.var 6) (.kon (.int 1)))] []))),
    .ifs (.and (.var 8) (.cmp .eq (.call 113 [(.var 0), (.var 7), (.var 2)]) (.var 3))) [.expr (.bm .append (.var 5) [(.var 6)])] []]
def f120_l0 : C := .for_ [6] false .rng [(.bi .len [(.var 4)])] f120_b0
/-- needless (k71 k72) -/
def f120_needless : Fn := ⟨3, 9, false, [.expr (.call 110 [(.var 0), (.var 1), (.var 2)]),
    .par [3, 4] [(.call 113 [(.var 0), (.var 1), (.var 2)]), (.idx (.call 109 [(.var 0), (.var 1), (.var 2)]) (.kon (.int 1)))],
    .asg (.nm 5) (.newL []),
    f120_l0,
    .frz 5,
    .ret (.var 5)]⟩
def f121_c0 : E := .comp [7, 8] true .seq [(.var 4)] (.cmp .le (.var 7) (.var 5)) (.kon (.int 1))
def f121_b0 : List C := [.asg (.nm 13) (.bin .add (.sli (.var 4) [] [(.var 12)]) (.sli (.var 4) [(.bin .add (.var 12) (.kon (.int 1)))] [])),
    .ifs (.cmp .eq (.call 118 [(.var 3), (.var 13), (.var 5)]) (.tup [(.var 9), (.bin .add (.sli (.var 10) [] [(.var 12)]) (.sli (.var 10) [(.bin .add (.var 12) (.kon (.int 1)))] []))])) [.expr (.bm .append (.var 11) [(.var 12)])] []]
def f121_l0 : C := .for_ [12] false .rng [(.var 6)] f121_b0
def f121_b1 : List C := [.asg (.nm 13) (.bin .add (.sli (.var 4) [] [(.var 12)]) (.sli (.var 4) [(.bin .add (.var 12) (.kon (.int 1)))] [])),
    .ifs (.cmp .ne (.call 114 [(.var 3), (.var 13), (.var 5)]) (.call 114 [(.var 3), (.var 4), (.var 5)])) [.ret (.kon (.bl false))] [],
    .ifs (.cmp .ne (.call 112 [(.var 3), (.var 13), (.var 5)]) (.bin .add (.sli (.var 10) [] [(.var 12)]) (.sli (.var 10) [(.bin .add (.var 12) (.kon (.int 1)))] []))) [.ret (.kon (.bl false))] []]
def f121_l1 : C := .for_ [12] false .seq [(.var 11)] f121_b1
def f121_b2 : List C := [.asg (.nm 2) (.call 5 [(.call 4 [(.var 0), (.var 1)]), (.var 1)]),
    .par [3, 4] [(.call 115 [(.var 2)]), (.call 116 [(.var 2), (.kon (.int 8)), (.kon (.int 30))])],
    .asg (.nm 5) (.idx (.lst [(.kon (.int 5)), (.kon (.int 18)), (.kon (.int 30))]) (.bin .mod (.bin .fdiv (.var 2) (.kon (.int 64))) (.kon (.int 3)))),
    .asg (.nm 6) (.bi .len [f121_c0]),
    .unp [(.nm 9), (.nm 10)] (.call 118 [(.var 3), (.var 4), (.var 5)]),
    .asg (.nm 11) (.newL []),
    f121_l0,
    .frz 11,
    .ifs (.cmp .ne (.call 120 [(.var 3), (.var 4), (.var 5)]) (.var 11)) [.ret (.kon (.bl false))] [],
    f121_l1]
def f121_l2 : C := .for_ [1] false .rng [(.bi .max [(.kon (.int 1)), (.bi .min [(.kon (.int 2)), (.bi .len [(.var 0)])])])] f121_b2
/-- law (k71) -/
def f121_law : Fn := ⟨1, 14, false, [f121_l2,
    .ret (.kon (.bl true))]⟩
/-- Wire.state (k72 k81) -/
def f122_Wire_state : Fn := ⟨2, 2, true, [.expr (.call 8 [(.kon (.int 2))])]⟩
/-- Wire.rest (k72 k81) -/
def f123_Wire_rest : Fn := ⟨1, 1, true, [.expr (.call 8 [(.kon (.int 3))])]⟩
/-- _law_all (k72) -/
def f124_law_all : Fn := ⟨3, 4, false, [.asg (.nm 3) (.newL [(.told 8 (.call 111 [(.var 0), (.var 1), (.var 2)]))]),
    .expr (.bm .append (.var 3) [(.told 8 (.call 112 [(.var 0), (.var 1), (.var 2)]))]),
    .expr (.bm .append (.var 3) [(.told 8 (.call 114 [(.var 0), (.var 1), (.var 2)]))]),
    .expr (.bm .append (.var 3) [(.told 8 (.call 120 [(.var 0), (.var 1), (.var 2)]))]),
    .frz 3,
    .ret (.var 3)]⟩
def f125_b0 : List C := [.ifs (.cmp .ne (.call 124 [(.var 5), (.kon .non), (.kon .non)]) (.bin .mul (.lst [(.kon (.str "BadHouse"))]) (.kon (.int 4)))) [.ret (.kon (.bl false))] []]
def f125_l0 : C := .for_ [5] false .seq [(.lst [(.kon .non), (.lst []), (.bin .add (.var 3) (.var 3)), (.bi .tuple [(.var 3)]), (.lst [(.sli (.idx (.var 3) (.kon (.int 0))) [] [(.kon (.int 3))])])])] f125_b0
def f125_b1 : List C := [.ifs (.cmp .ne (.call 124 [(.var 3), (.var 5), (.kon .non)]) (.bin .mul (.lst [(.kon (.str "BadRows"))]) (.kon (.int 4)))) [.ret (.kon (.bl false))] []]
def f125_l1 : C := .for_ [5] false .seq [(.var 6)] f125_b1
def f125_b2 : List C := [.ifs (.cmp .ne (.call 124 [(.var 3), (.var 7), (.var 5)]) (.bin .mul (.lst [(.kon (.str "BadNumber"))]) (.kon (.int 4)))) [.ret (.kon (.bl false))] []]
def f125_l2 : C := .for_ [5] false .seq [(.lst [(.neg (.kon (.int 1))), (.kon (.int 1001)), (.kon .non), (.kon (.bl true)), (.kon (.str "1"))])] f125_b2
def f125_b3 : List C := [.expr (.bm .append (.var 8) [(.kon .non)])]
def f125_l3 : C := .for_ [8] false .seq [(.call 124 [(.var 3), (.var 7), (.kon (.int 20))])] f125_b3
def f125_b4 : List C := [.asg (.nm 2) (.call 5 [(.call 4 [(.var 0), (.var 1)]), (.var 1)]),
    .par [3, 4] [(.call 115 [(.var 2)]), (.tup [(.tup [(.kon (.str "all"))]), (.tup [(.kon (.str "off"))])])],
    f125_l0,
    .asg (.nm 6) (.newL [(.kon .non), (.tup [(.tup [(.kon (.int 0)), (.var 4)])]), (.lst [(.kon .non)]), (.lst [(.var 4)]), (.lst [(.tup [(.kon (.int 0))])]), (.lst [(.tup [(.kon (.int 0)), (.var 4), (.kon (.int 1))])]), (.lst [(.lst [(.kon (.int 0)), (.var 4)])]), (.lst [(.tup [(.neg (.kon (.int 1))), (.var 4)])]), (.lst [(.tup [(.kon (.int 1001)), (.var 4)])])]),
    .asg (.nm 6) (.bin .add (.var 6) (.lst [(.lst [(.tup [(.kon (.bl true)), (.var 4)])]), (.lst [(.tup [(.kon (.int 0)), (.sli (.var 4) [] [(.kon (.int 1))])])]), (.lst [(.tup [(.kon (.int 5)), (.var 4)]), (.tup [(.kon (.int 4)), (.var 4)])]), (.bin .mul (.lst [(.tup [(.kon (.int 0)), (.var 4)])]) (.kon (.int 61)))])),
    .expr (.bm .append (.var 6) [(.lst [(.tup [(.kon (.int 0)), (.tup [(.tup [(.kon (.str "all"))]), (.tup [(.kon (.str "fade")), (.kon (.int 51))])])])])]),
    .frz 6,
    f125_l1,
    .asg (.nm 7) (.lst [(.tup [(.bin .mod (.bin .fdiv (.var 2) (.kon (.int 64))) (.kon (.int 9))), (.var 4)])]),
    f125_l2,
    f125_l3,
    .asg (.nm 9) (.bin .mul (.lst [(.kon (.int 0))]) (.bi .len [(.var 3)])),
    .ifs (.cmp .ne (.call 124 [(.var 3), (.var 7), (.kon (.int 20))]) (.lst [(.var 9), (.lst [(.kon .non)]), (.lst [(.tup [(.kon (.int 0)), (.var 9)])]), (.lst [(.kon (.int 0))])])) [.ret (.kon (.bl false))] [],
    .ifs (.cmp .ne (.sli (.call 124 [(.var 3), (.lst []), (.kon (.int 0))]) [(.kon (.int 1))] []) (.lst [(.lst []), (.lst [(.tup [(.kon (.int 0)), (.var 9)])]), (.lst [])])) [.ret (.kon (.bl false))] []]
def f125_l4 : C := .for_ [1] false .rng [(.bi .max [(.kon (.int 1)), (.bi .min [(.kon (.int 4)), (.bi .len [(.var 0)])])])] f125_b4
/-- law (k72) -/
def f125_law : Fn := ⟨1, 10, false, [f125_l4,
    .ret (.kon (.bl true))]⟩
def f127_b0 : List C := [.ifs (.and (.not (.call 14 [(.var 1)])) (.not (.call 0 [(.var 1), (.kon (.int 0)), (.kon (.int 100))]))) [.raise 6] []]
def f127_l0 : C := .for_ [1] false .seq [(.var 0)] f127_b0
/-- need_log (k80 k81) -/
def f127_need_log : Fn := ⟨1, 2, true, [.ifs (.or (.not (.isi (.var 0) [.list])) (.cmp .gt (.bi .len [(.var 0)]) (.kon (.int 60)))) [.raise 6] [],
    f127_l0]⟩
def f128_b0 : List C := [.ifs (.isi (.var 6) [.tuple]) [.expr (.meth 15 (.var 4) [(.var 6), (.ite (.cmp .isin (.var 5) (.var 3)) (.lst [(.var 2)]) (.lst []))])] [.expr (.meth 17 (.var 4) [(.var 6)])]]
def f128_l0 : C := .for_ [5, 6] true .enum [(.var 1)] f128_b0
/-- level_without (k80 k81) -/
def f128_level_without : Fn := ⟨4, 7, false, [.asg (.nm 4) (.new 1 [(.var 0)]),
    f128_l0,
    .ret (.meth 9 (.var 4) [(.var 2)])]⟩
def f129_c0 : E := .comp [3] false .seq [(.var 1)] (.kon (.bl true)) (.call 0 [(.var 3), (.kon (.int 0)), (.kon (.int 100))])
/-- need_levels (k80 k81) -/
def f129_need_levels : Fn := ⟨2, 4, true, [.asg (.nm 2) (.and (.isi (.var 1) [.list]) (.cmp .eq (.bi .len [(.var 1)]) (.bi .len [(.var 0)]))),
    .ifs (.or (.not (.var 2)) (.not (.bi .all [f129_c0]))) [.raise 2] []]⟩
def f130_c0 : E := .comp [4, 5] true .enum [(.var 1)] (.isi (.var 5) [.tuple]) (.var 4)
def f130_c1 : E := .comp [4] false .seq [(.var 3)] (.cmp .eq (.call 128 [(.var 0), (.var 1), (.var 7), (.lst [(.var 4)])]) (.var 8)) (.var 4)
def f130_b0 : List C := [.asg (.nm 9) (.ite (.cmp .eq (.call 128 [(.var 0), (.var 1), (.var 7), (.lst [])]) (.var 8)) (.lst [(.kon .non)]) (.lst [])),
    .expr (.bm .extend (.var 9) [f130_c1]),
    .frz 9,
    .expr (.bm .append (.var 6) [(.var 9)])]
def f130_l0 : C := .for_ [7, 8] true .enum [(.var 2)] f130_b0
/-- explained (k80 k81) -/
def f130_explained : Fn := ⟨3, 10, false, [.expr (.call 2 [(.var 0)]),
    .expr (.call 127 [(.var 1)]),
    .expr (.call 129 [(.var 0), (.var 2)]),
    .asg (.nm 3) f130_c0,
    .asg (.nm 6) (.newL []),
    f130_l0,
    .frz 6,
    .ret (.var 6)]⟩
def f131_c0 : E := .comp [5, 6] true .enum [(.var 1)] (.isi (.var 6) [.tuple]) (.var 5)
def f131_c1 : E := .comp [5] false .seq [(.var 4)] (.cmp .gt (.var 3) (.kon (.int 0))) (.tup [(.var 5)])
def f131_c2 : E := .comp [8] false .seq [(.var 4)] (.cmp .gt (.var 8) (.var 5)) (.tup [(.var 5), (.var 8)])
def f131_b0 : List C := [.expr (.bm .extend (.var 7) [f131_c2])]
def f131_l0 : C := .for_ [5] false .seq [(.ite (.cmp .gt (.var 3) (.kon (.int 1))) (.var 4) (.lst []))] f131_b0
def f131_c3 : E := .comp [6] false .seq [(.var 7)] (.cmp .eq (.call 128 [(.var 0), (.var 1), (.var 10), (.var 6)]) (.var 11)) (.var 6)
def f131_b1 : List C := [.asg (.nm 12) f131_c3,
    .expr (.bm .append (.var 9) [(.ite (.cmp .ne (.var 12) (.lst [])) (.idx (.var 12) (.kon (.int 0))) (.kon .non))])]
def f131_l1 : C := .for_ [10, 11] true .enum [(.var 2)] f131_b1
/-- fewest_lost (k80 k81) -/
def f131_fewest_lost : Fn := ⟨4, 13, false, [.expr (.call 2 [(.var 0)]),
    .expr (.call 127 [(.var 1)]),
    .expr (.call 129 [(.var 0), (.var 2)]),
    .ifs (.not (.call 0 [(.var 3), (.kon (.int 0)), (.kon (.int 2))])) [.raise 2] [],
    .asg (.nm 4) f131_c0,
    .asg (.nm 7) (.bin .add (.lst [(.tup [])]) f131_c1),
    f131_l0,
    .frz 7,
    .asg (.nm 9) (.newL []),
    f131_l1,
    .frz 9,
    .ret (.var 9)]⟩
def f132_b0 : List C := [.asg (.nm 4) (.call 5 [(.var 0), (.bin .add (.kon (.int 800)) (.var 3))]),
    .asg (.nm 5) (.call 42 [(.bin .fdiv (.var 4) (.kon (.int 8)))]),
    .ifs (.cmp .eq (.bin .mod (.bin .fdiv (.var 4) (.bin .pow (.kon (.int 2)) (.kon (.int 40)))) (.kon (.int 2))) (.kon (.int 0))) [.asg (.nm 5) (.tup [(.tup [(.kon (.str "all"))]), (.idx (.var 5) (.kon (.int 1)))])] [],
    .ifs (.cmp .eq (.bin .mod (.var 4) (.kon (.int 4))) (.kon (.int 0))) [.expr (.bm .append (.var 2) [(.idx (.lst [(.kon (.int 0)), (.kon (.int 1)), (.kon (.int 6)), (.kon (.int 20)), (.kon (.int 100))]) (.bin .mod (.bin .fdiv (.var 4) (.kon (.int 64))) (.kon (.int 5))))])] [.asg (.nm 2) (.bin .add (.var 2) (.bin .mul (.lst [(.var 5)]) (.bin .add (.kon (.int 1)) (.bi .int [(.cmp .isin (.idx (.idx (.var 5) (.kon (.int 1))) (.kon (.int 0))) (.lst [(.kon (.str "fade")), (.kon (.str "join")), (.kon (.str "leave")), (.kon (.str "store")), (.kon (.str "forget"))]))]))))]]
def f132_l0 : C := .for_ [3] false .rng [(.bin .mod (.var 0) (.bin .add (.var 1) (.kon (.int 1))))] f132_b0
/-- _law_log (k80) -/
def f132_law_log : Fn := ⟨2, 6, true, [.asg (.nm 2) (.newL []),
    f132_l0,
    .frz 2,
    .ret (.var 2)]⟩
def f133_b0 : List C := [.ifs (.isi (.var 6) [.tuple]) [.expr (.call 63 [(.var 4), (.var 6), (.ite (.cmp .isin (.var 5) (.var 3)) (.lst [(.var 2)]) (.lst []))])] [.expr (.call 64 [(.var 4), (.var 6)])]]
def f133_l0 : C := .for_ [5, 6] true .enum [(.var 1)] f133_b0
/-- _law_level_without (k80) -/
def f133_law_level_without : Fn := ⟨4, 7, false, [.asg (.nm 4) (.call 58 [(.var 0)]),
    f133_l0,
    .ret (.idx (.idx (.idx (.var 4) (.var 2)) (.kon (.str "row"))) (.kon (.int 0)))]⟩
def f134_c0 : E := .comp [6, 7] true .enum [(.var 1)] (.isi (.var 7) [.tuple]) (.var 6)
def f134_c1 : E := .comp [9] false .seq [(.var 5)] (.kon (.bl true)) (.tup [(.var 9)])
def f134_c2 : E := .comp [7] false .seq [(.var 8)] (.cmp .eq (.call 133 [(.var 0), (.var 1), (.var 2), (.var 7)]) (.var 3)) (.var 7)
def f134_c3 : E := .comp [12] false .seq [(.sli (.var 5) [(.bin .add (.var 11) (.kon (.int 1)))] [])] (.kon (.bl true)) (.tup [(.var 9), (.var 12)])
def f134_b0 : List C := [.asg (.nm 8) (.bin .add (.var 8) f134_c3)]
def f134_l0 : C := .for_ [11, 9] true .enum [(.var 5)] f134_b0
def f134_c4 : E := .comp [7] false .seq [(.sli (.var 8) [] [(.bin .add (.kon (.int 1)) (.bin .mul (.bi .len [(.var 8)]) (.bi .int [(.cmp .gt (.var 4) (.kon (.int 0)))])))])] (.cmp .eq (.call 133 [(.var 0), (.var 1), (.var 2), (.var 7)]) (.var 3)) (.var 7)
def f134_c5 : E := .comp [7] false .seq [(.var 10)] (.kon (.bl true)) (.idx (.bin .add (.bi .list [(.var 7)]) (.lst [(.kon .non)])) (.kon (.int 0)))
/-- _law_due (k80) -/
def f134_law_due : Fn := ⟨5, 14, false, [.asg (.nm 5) f134_c0,
    .asg (.nm 8) (.bin .add (.lst [(.tup [])]) f134_c1),
    .asg (.nm 10) f134_c2,
    .ifs (.cmp .gt (.var 4) (.kon (.int 1))) [f134_l0] [],
    .asg (.nm 13) f134_c4,
    .ret (.tup [f134_c5, (.idx (.bin .add (.var 13) (.lst [(.kon .non)])) (.kon (.int 0)))])]⟩
def f135_c0 : E := .comp [6, 7] true .enum [(.var 4)] (.isi (.var 7) [.tuple]) (.var 6)
def f135_c1 : E := .comp [13] false .rng [(.bin .mul (.bin .mod (.var 11) (.kon (.int 3))) (.bi .int [(.cmp .ne (.var 5) (.lst []))]))] (.kon (.bl true)) (.idx (.var 5) (.bin .mod (.call 5 [(.var 11), (.var 13)]) (.bi .len [(.var 5)])))
def f135_b0 : List C := [.asg (.nm 11) (.call 5 [(.var 2), (.bin .add (.kon (.int 10)) (.var 10))]),
    .asg (.nm 12) f135_c1,
    .expr (.bm .append (.var 9) [(.var 12)]),
    .expr (.bm .append (.var 8) [(.idx (.lst [(.call 133 [(.var 3), (.var 4), (.var 10), (.var 12)]), (.bin .mod (.bin .fdiv (.var 11) (.kon (.int 64))) (.kon (.int 101)))]) (.bi .int [(.cmp .eq (.bin .mod (.var 11) (.kon (.int 7))) (.kon (.int 6)))]))])]
def f135_l0 : C := .for_ [10] false .rng [(.bi .len [(.var 3)])] f135_b0
def f135_b1 : List C := [.asg (.nm 19) (.call 134 [(.var 3), (.var 4), (.var 10), (.var 18), (.var 16)]),
    .ifs (.or (.cmp .ne (.idx (.var 15) (.var 10)) (.idx (.var 19) (.kon (.int 0)))) (.cmp .ne (.idx (.var 17) (.var 10)) (.idx (.var 19) (.kon (.int 1))))) [.ret (.kon (.bl false))] []]
def f135_l1 : C := .for_ [10, 18] true .enum [(.var 8)] f135_b1
def f135_b2 : List C := [.asg (.nm 17) (.call 131 [(.var 3), (.var 4), (.var 8), (.var 16)]),
    f135_l1]
def f135_l2 : C := .for_ [16] false .rng [(.kon (.int 3))] f135_b2
def f135_b3 : List C := [.asg (.nm 2) (.call 5 [(.call 4 [(.var 0), (.var 1)]), (.var 1)]),
    .par [3, 4] [(.call 115 [(.var 2)]), (.call 132 [(.var 2), (.kon (.int 9))])],
    .asg (.nm 5) f135_c0,
    .par [8, 9] [(.newL []), (.newL [])],
    f135_l0,
    .frz 8,
    .asg (.nm 14) (.tup [(.bi .list [(.var 4)]), (.bi .list [(.var 8)])]),
    .asg (.nm 15) (.call 130 [(.var 3), (.var 4), (.var 8)]),
    f135_l2,
    .ifs (.or (.cmp .ne (.tup [(.var 4), (.var 8)]) (.var 14)) (.cmp .ne (.bi .len [(.var 15)]) (.bi .len [(.var 3)]))) [.ret (.kon (.bl false))] []]
def f135_l3 : C := .for_ [1] false .rng [(.bi .max [(.kon (.int 1)), (.bi .min [(.kon (.int 2)), (.bi .len [(.var 0)])])])] f135_b3
/-- law (k80) -/
def f135_law : Fn := ⟨1, 20, false, [f135_l3,
    .ret (.kon (.bl true))]⟩
/-- _law_both (k81) -/
def f136_law_both : Fn := ⟨4, 5, false, [.asg (.nm 4) (.newL [(.told 8 (.call 130 [(.var 0), (.var 1), (.var 2)]))]),
    .expr (.bm .append (.var 4) [(.told 8 (.call 131 [(.var 0), (.var 1), (.var 2), (.var 3)]))]),
    .frz 4,
    .ret (.var 4)]⟩
def f137_b0 : List C := [.ifs (.cmp .ne (.call 136 [(.var 5), (.kon .non), (.kon .non), (.kon .non)]) (.bin .mul (.lst [(.kon (.str "BadHouse"))]) (.kon (.int 2)))) [.ret (.kon (.bl false))] []]
def f137_l0 : C := .for_ [5] false .seq [(.lst [(.kon .non), (.lst []), (.bin .add (.var 3) (.var 3)), (.bi .tuple [(.var 3)])])] f137_b0
def f137_b1 : List C := [.ifs (.cmp .ne (.call 136 [(.var 3), (.var 5), (.kon .non), (.kon .non)]) (.bin .mul (.lst [(.kon (.str "BadRows"))]) (.kon (.int 2)))) [.ret (.kon (.bl false))] []]
def f137_l1 : C := .for_ [5] false .seq [(.lst [(.kon .non), (.tup [(.var 4)]), (.lst [(.kon .non)]), (.lst [(.sli (.var 4) [] [(.kon (.int 1))])]), (.lst [(.neg (.kon (.int 1)))]), (.lst [(.kon (.int 101))]), (.lst [(.kon (.bl true))]), (.lst [(.kon (.str "1"))]), (.bin .mul (.lst [(.var 4)]) (.kon (.int 61))), (.lst [(.tup [(.kon (.int 0)), (.var 4)])]), (.lst [(.lst [(.var 4)])])])] f137_b1
def f137_b2 : List C := [.ifs (.cmp .ne (.call 136 [(.var 3), (.lst [(.var 4), (.kon (.int 5))]), (.var 5), (.kon .non)]) (.bin .mul (.lst [(.kon (.str "BadNumber"))]) (.kon (.int 2)))) [.ret (.kon (.bl false))] []]
def f137_l2 : C := .for_ [5] false .seq [(.lst [(.kon .non), (.bi .tuple [(.var 6)]), (.bin .add (.var 6) (.lst [(.kon (.int 0))])), (.sli (.var 6) [(.kon (.int 1))] []), (.bin .add (.lst [(.kon (.int 101))]) (.sli (.var 6) [(.kon (.int 1))] [])), (.bin .add (.lst [(.neg (.kon (.int 1)))]) (.sli (.var 6) [(.kon (.int 1))] [])), (.bin .add (.sli (.var 6) [(.kon (.int 1))] []) (.lst [(.kon .non)]))])] f137_b2
def f137_b3 : List C := [.ifs (.cmp .ne (.told 8 (.call 131 [(.var 3), (.lst [(.var 4)]), (.var 6), (.var 5)])) (.kon (.str "BadNumber"))) [.ret (.kon (.bl false))] []]
def f137_l3 : C := .for_ [5] false .seq [(.lst [(.neg (.kon (.int 1))), (.kon (.int 3)), (.kon .non), (.kon (.bl true)), (.kon (.str "1"))])] f137_b3
def f137_b4 : List C := [.expr (.bm .append (.var 7) [(.kon .non)])]
def f137_l4 : C := .for_ [7] false .seq [(.call 136 [(.var 3), (.lst [(.var 4), (.kon (.int 5)), (.var 4)]), (.var 6), (.kon (.int 2))])] f137_b4
def f137_b5 : List C := [.asg (.nm 2) (.call 5 [(.call 4 [(.var 0), (.var 1)]), (.var 1)]),
    .unp [(.nm 3), (.nm 4)] (.tup [(.call 115 [(.var 2)]), (.tup [(.tup [(.kon (.str "all"))]), (.tup [(.kon (.str "off"))])])]),
    f137_l0,
    f137_l1,
    .asg (.nm 6) (.bin .mul (.lst [(.kon (.int 0))]) (.bi .len [(.var 3)])),
    f137_l2,
    .ifs (.cmp .ne (.call 136 [(.var 3), (.lst [(.var 4)]), (.bin .add (.lst [(.kon (.bl false))]) (.sli (.var 6) [(.kon (.int 1))] [])), (.kon .non)]) (.bin .mul (.lst [(.kon (.str "BadNumber"))]) (.kon (.int 2)))) [.ret (.kon (.bl false))] [],
    f137_l3,
    f137_l4,
    .ifs (.cmp .ne (.call 136 [(.var 3), (.lst [(.var 4), (.kon (.int 5)), (.var 4)]), (.var 6), (.kon (.int 2))]) (.lst [(.bin .mul (.lst [(.lst [(.kon .non), (.kon (.int 0)), (.kon (.int 2))])]) (.bi .len [(.var 3)])), (.bin .mul (.lst [(.tup [])]) (.bi .len [(.var 3)]))])) [.ret (.kon (.bl false))] [],
    .ifs (.notN (.idx (.idx (.call 136 [(.var 3), (.lst []), (.bin .add (.lst [(.kon (.int 1))]) (.sli (.var 6) [(.kon (.int 1))] [])), (.kon (.int 2))]) (.kon (.int 1))) (.kon (.int 0)))) [.ret (.kon (.bl false))] []]
def f137_l5 : C := .for_ [1] false .rng [(.bi .max [(.kon (.int 1)), (.bi .min [(.kon (.int 4)), (.bi .len [(.var 0)])])])] f137_b5
/-- law (k81) -/
def f137_law : Fn := ⟨1, 8, false, [f137_l5,
    .ret (.kon (.bl true))]⟩
/-- Desk.__init__ (k90) -/
def f143_Desk___init : Fn := ⟨2, 2, false, [.asg (.at (.var 0) 14) (.new 1 [(.var 1)]),
    .asg (.at (.var 0) 7) (.bi .list [(.var 1)]),
    .asg (.at (.var 0) 10) (.newL []),
    .asg (.at (.var 0) 12) (.newL [])]⟩
/-- Desk.keep (k90) -/
def f144_Desk_keep : Fn := ⟨2, 2, false, [.expr (.bm .append (.attr (.var 0) 10) [(.var 1)]),
    .asg (.at (.var 0) 12) (.newL [])]⟩
/-- Desk.send (k90) -/
def f145_Desk_send : Fn := ⟨3, 4, false, [.asg (.nm 3) (.meth 15 (.attr (.var 0) 14) [(.var 1), (.var 2)]),
    .expr (.meth 7 (.var 0) [(.tup [(.var 1), (.bi .tuple [(.var 2)])])]),
    .ret (.var 3)]⟩
/-- Desk.tick (k90) -/
def f146_Desk_tick : Fn := ⟨2, 2, false, [.expr (.meth 17 (.attr (.var 0) 14) [(.var 1)]),
    .expr (.meth 7 (.var 0) [(.var 1)])]⟩
def f147_b0 : List C := [.ifs (.isi (.var 1) [.tuple]) [.expr (.meth 15 (.attr (.var 0) 14) [(.idx (.var 1) (.kon (.int 0))), (.bi .list [(.idx (.var 1) (.kon (.int 1)))])])] [.expr (.meth 17 (.attr (.var 0) 14) [(.var 1)])]]
def f147_l0 : C := .for_ [1] false .seq [(.attr (.var 0) 10)] f147_b0
/-- Desk.again (k90) -/
def f147_Desk_again : Fn := ⟨1, 2, false, [.asg (.at (.var 0) 14) (.new 1 [(.attr (.var 0) 7)]),
    f147_l0]⟩
/-- Desk.undo (k90) -/
def f148_Desk_undo : Fn := ⟨1, 1, false, [.ifs (.cmp .eq (.attr (.var 0) 10) (.lst [])) [.raise 7] [],
    .expr (.bm .append (.attr (.var 0) 12) [(.bm .pop0 (.attr (.var 0) 10) [])]),
    .expr (.meth 0 (.var 0) []),
    .ret (.idx (.attr (.var 0) 12) (.neg (.kon (.int 1))))]⟩
/-- Desk.redo (k90) -/
def f149_Desk_redo : Fn := ⟨1, 1, false, [.ifs (.cmp .eq (.attr (.var 0) 12) (.lst [])) [.raise 7] [],
    .expr (.bm .append (.attr (.var 0) 10) [(.bm .pop0 (.attr (.var 0) 12) [])]),
    .expr (.meth 0 (.var 0) []),
    .ret (.idx (.attr (.var 0) 10) (.neg (.kon (.int 1))))]⟩
/-- Desk.drop (k90) -/
def f150_Desk_drop : Fn := ⟨2, 3, false, [.ifs (.or (.isi (.var 1) [.bool]) (.or (.not (.isi (.var 1) [.int])) (.not (.chain .le .lt (.kon (.int 0)) (.var 1) (.bi .len [(.attr (.var 0) 10)]))))) [.raise 7] [],
    .asg (.nm 2) (.bm .popAt (.attr (.var 0) 10) [(.var 1)]),
    .asg (.at (.var 0) 12) (.newL []),
    .expr (.meth 0 (.var 0) []),
    .ret (.var 2)]⟩
/-- Desk.log (k90) -/
def f151_Desk_log : Fn := ⟨1, 1, true, [.ret (.bi .list [(.attr (.var 0) 10)])]⟩
/-- Desk.levels (k90) -/
def f152_Desk_levels : Fn := ⟨1, 1, true, [.ret (.meth 10 (.attr (.var 0) 14) [])]⟩
/-- Desk.state (k90) -/
def f153_Desk_state : Fn := ⟨2, 2, true, [.ret (.meth 16 (.attr (.var 0) 14) [(.var 1)])]⟩
def f154_c0 : E := .comp [2] false .seq [(.bi .sorted [(.idx (.var 0) (.kon (.str "scenes")))])] (.kon (.bl true)) (.tup [(.var 2), (.idx (.idx (.var 0) (.kon (.str "scenes"))) (.var 2))])
/-- _law_state (k90) -/
def f154_law_state : Fn := ⟨1, 4, true, [.asg (.nm 1) (.bi .tuple [f154_c0]),
    .asg (.nm 3) (.idx (.var 0) (.kon (.str "row"))),
    .ret (.tup [(.idx (.var 3) (.kon (.int 0))), (.idx (.var 3) (.neg (.kon (.int 1)))), (.bin .sub (.bi .len [(.var 3)]) (.kon (.int 1))), (.idx (.var 0) (.kon (.str "time"))), (.bi .tuple [(.bi .sorted [(.idx (.var 0) (.kon (.str "groups")))])]), (.var 1)])]⟩
def f155_b0 : List C := [.ifs (.isi (.var 3) [.tuple]) [.expr (.call 63 [(.var 2), (.idx (.var 3) (.kon (.int 0))), (.bi .list [(.idx (.var 3) (.kon (.int 1)))])])] [.expr (.call 64 [(.var 2), (.var 3)])]]
def f155_l0 : C := .for_ [3] false .seq [(.var 1)] f155_b0
/-- _law_played (k90) -/
def f155_law_played : Fn := ⟨2, 4, false, [.asg (.nm 2) (.call 58 [(.var 0)]),
    f155_l0,
    .ret (.var 2)]⟩
/-- _law_step (k90) -/
def f156_law_step : Fn := ⟨4, 12, false, [.asg (.nm 4) (.bin .mod (.var 3) (.kon (.int 10))),
    .ifs (.cmp .lt (.var 4) (.kon (.int 4))) [.asg (.nm 5) (.ite (.cmp .eq (.bin .mod (.bin .fdiv (.var 3) (.kon (.int 64))) (.kon (.int 2))) (.kon (.int 0))) (.idx (.var 1) (.kon (.str "word"))) (.call 42 [(.bin .fdiv (.var 3) (.kon (.int 128)))])),
    .asg (.ix (.var 1) (.kon (.str "word"))) (.var 5),
    .asg (.nm 6) (.call 66 [(.call 5 [(.var 3), (.kon (.int 3))]), (.bi .len [(.var 2)])]),
    .asg (.nm 7) (.call 63 [(.call 155 [(.var 2), (.idx (.var 1) (.kon (.str "log")))]), (.var 5), (.var 6)]),
    .expr (.bm .append (.idx (.var 1) (.kon (.str "log"))) [(.tup [(.var 5), (.bi .tuple [(.var 6)])])]),
    .expr (.bm .clear (.idx (.var 1) (.kon (.str "taken"))) []),
    .ret (.cmp .eq (.told 8 (.meth 15 (.var 0) [(.var 5), (.var 6)])) (.var 7))] [],
    .ifs (.cmp .lt (.var 4) (.kon (.int 6))) [.asg (.nm 8) (.idx (.lst [(.kon (.int 0)), (.kon (.int 1)), (.kon (.int 5)), (.kon (.int 6)), (.kon (.int 30))]) (.bin .mod (.bin .fdiv (.var 3) (.kon (.int 64))) (.kon (.int 5)))),
    .expr (.bm .append (.idx (.var 1) (.kon (.str "log"))) [(.var 8)]),
    .expr (.bm .clear (.idx (.var 1) (.kon (.str "taken"))) []),
    .ret (.isN (.told 8 (.meth 17 (.var 0) [(.var 8)])))] [],
    .ifs (.cmp .eq (.var 4) (.kon (.int 6))) [.asg (.nm 9) (.newL [(.told 8 (.meth 15 (.var 0) [(.kon .non), (.lst [])]))]),
    .expr (.bm .append (.var 9) [(.told 8 (.meth 15 (.var 0) [(.tup [(.tup [(.kon (.str "all"))]), (.tup [(.kon (.str "off"))])]), (.lst [(.kon (.int 99))])]))]),
    .expr (.bm .append (.var 9) [(.told 8 (.meth 17 (.var 0) [(.neg (.kon (.int 1)))]))]),
    .frz 9,
    .ret (.cmp .eq (.var 9) (.lst [(.kon (.str "BadWord")), (.kon (.str "BadNumber")), (.kon (.str "BadNumber"))]))] [],
    .ifs (.cmp .eq (.var 4) (.kon (.int 9))) [.asg (.nm 10) (.bin .mod (.bin .fdiv (.var 3) (.kon (.int 64))) (.bin .add (.bi .len [(.idx (.var 1) (.kon (.str "log")))]) (.kon (.int 1)))),
    .asg (.nm 7) (.kon (.str "Nothing")),
    .ifs (.cmp .lt (.var 10) (.bi .len [(.idx (.var 1) (.kon (.str "log")))])) [.asg (.nm 7) (.bm .popAt (.idx (.var 1) (.kon (.str "log"))) [(.var 10)]),
    .expr (.bm .clear (.idx (.var 1) (.kon (.str "taken"))) [])] [],
    .ret (.cmp .eq (.told 8 (.meth 3 (.var 0) [(.var 10)])) (.var 7))] [],
    .asg (.nm 11) (.idx (.lst [(.tup [(.kon (.str "log")), (.kon (.str "taken"))]), (.tup [(.kon (.str "taken")), (.kon (.str "log"))])]) (.bin .sub (.var 4) (.kon (.int 7)))),
    .asg (.nm 7) (.kon (.str "Nothing")),
    .ifs (.cmp .ne (.idx (.var 1) (.idx (.var 11) (.kon (.int 0)))) (.lst [])) [.asg (.nm 7) (.bm .pop0 (.idx (.var 1) (.idx (.var 11) (.kon (.int 0)))) []),
    .expr (.bm .append (.idx (.var 1) (.idx (.var 11) (.kon (.int 1)))) [(.var 7)])] [],
    .ifs (.cmp .eq (.var 4) (.kon (.int 7))) [.ret (.cmp .eq (.told 8 (.meth 18 (.var 0) [])) (.var 7))] [],
    .ret (.cmp .eq (.told 8 (.meth 13 (.var 0) [])) (.var 7))]⟩
def f157_c0 : E := .comp [8] false .seq [(.call 155 [(.var 3), (.idx (.var 5) (.kon (.str "log")))])] (.kon (.bl true)) (.call 154 [(.var 8)])
def f157_c1 : E := .comp [9] false .rng [(.bi .len [(.var 3)])] (.kon (.bl true)) (.meth 16 (.var 4) [(.var 9)])
def f157_c2 : E := .comp [10] false .seq [(.var 7)] (.kon (.bl true)) (.idx (.var 10) (.kon (.int 0)))
def f157_b0 : List C := [.ifs (.not (.call 156 [(.var 4), (.var 5), (.var 3), (.call 5 [(.var 2), (.bin .add (.kon (.int 10)) (.var 6))])])) [.ret (.kon (.bl false))] [],
    .asg (.nm 7) f157_c0,
    .ifs (.or (.cmp .ne f157_c1 (.var 7)) (.cmp .ne (.meth 11 (.var 4) []) (.idx (.var 5) (.kon (.str "log"))))) [.ret (.kon (.bl false))] [],
    .ifs (.cmp .ne (.meth 10 (.var 4) []) f157_c2) [.ret (.kon (.bl false))] []]
def f157_l0 : C := .for_ [6] false .rng [(.bin .add (.kon (.int 6)) (.bin .mod (.bin .fdiv (.var 2) (.kon (.int 64))) (.kon (.int 20))))] f157_b0
def f157_b1 : List C := [.ifs (.cmp .ne (.told 8 (.meth 3 (.var 4) [(.var 11)])) (.kon (.str "Nothing"))) [.ret (.kon (.bl false))] []]
def f157_l1 : C := .for_ [11] false .seq [(.lst [(.neg (.kon (.int 1))), (.bi .len [(.idx (.var 5) (.kon (.str "log")))]), (.kon .non), (.kon (.bl true)), (.kon (.str "0"))])] f157_b1
def f157_b2 : List C := [.expr (.meth 18 (.var 4) [])]
def f157_w0 : C := .whil (.cmp .ne (.meth 11 (.var 4) []) (.lst [])) f157_b2
def f157_c3 : E := .comp [9] false .rng [(.bi .len [(.var 3)])] (.kon (.bl true)) (.meth 16 (.var 4) [(.var 9)])
def f157_c4 : E := .comp [8] false .seq [(.call 58 [(.var 3)])] (.kon (.bl true)) (.call 154 [(.var 8)])
def f157_b3 : List C := [.asg (.nm 2) (.call 5 [(.call 4 [(.var 0), (.var 1)]), (.var 1)]),
    .asg (.nm 3) (.call 115 [(.var 2)]),
    .unp [(.nm 4), (.nm 5)] (.tup [(.new 2 [(.bi .list [(.var 3)])]), (.newD ["log", "taken", "word"] [(.lst []), (.lst []), (.tup [(.tup [(.kon (.str "all"))]), (.tup [(.kon (.str "join")), (.kon (.int 1))])])])]),
    f157_l0,
    f157_l1,
    .expr (.bm .append (.meth 11 (.var 4) []) [(.kon .non)]),
    .expr (.bm .append (.meth 10 (.var 4) []) [(.kon .non)]),
    f157_w0,
    .ifs (.cmp .ne f157_c3 f157_c4) [.ret (.kon (.bl false))] [],
    .ifs (.cmp .ne (.told 8 (.meth 18 (.var 4) [])) (.kon (.str "Nothing"))) [.ret (.kon (.bl false))] [],
    .ifs (.cmp .ne (.told 8 (.new 2 [(.lst [])])) (.kon (.str "BadHouse"))) [.ret (.kon (.bl false))] []]
def f157_l2 : C := .for_ [1] false .rng [(.bi .max [(.kon (.int 1)), (.bi .min [(.kon (.int 2)), (.bi .len [(.var 0)])])])] f157_b3
/-- law (k90) -/
def f157_law : Fn := ⟨1, 12, false, [f157_l2,
    .ret (.kon (.bl true))]⟩
def f159_b0 : List C := [.expr (.call 159 [(.var 1)])]
def f159_l0 : C := .for_ [1] false .seq [(.var 0)] f159_b0
/-- _law_spoil (k99) -/
def f159_law_spoil : Fn := ⟨1, 2, false, [.ifs (.isi (.var 0) [.list, .tuple]) [f159_l0] [],
    .ifs (.isi (.var 0) [.list]) [.expr (.bm .append (.var 0) [(.kon (.str "spoilt"))])] [],
    .ifs (.isi (.var 0) [.dict]) [.asg (.ix (.var 0) (.kon (.str "spoilt"))) (.kon (.int 1))] []]⟩
/-- _law_plans (k99) -/
def f161_law_plans : Fn := ⟨3, 4, false, [.asg (.nm 3) (.newL [(.told 6 (.call 95 [(.var 0), (.var 1), (.var 2)]))]),
    .expr (.bm .append (.var 3) [(.told 6 (.call 96 [(.var 0), (.var 1), (.var 2)]))]),
    .frz 3,
    .ret (.var 3)]⟩
end Y

end

section
set_option Elab.async false
set_option linter.all false
set_option maxRecDepth 100000
set_option maxHeartbeats 4000000
namespace Y
open PySem L2
/-! ### plain lemmas -/
abbrev RG (T : Tab) (k : Nat) : Rules := ⟨callAt T k, T.init, T.meth⟩
theorem call_eq {T : Tab} {f k : Nat} {fn : Fn} {ds : List D} {S : Sto} (h : T.fn f = some fn) (hl : ds.length = fn.ar) : callAt T (k + 1) f ds S = fin fn.pure S (evCs (RG T k) fn.body (ds.map some ++ List.replicate (fn.sl - fn.ar) none) S) := by
  simp only [callAt, h, hl, if_true]
@[simp] theorem fin_rt0 {S : Sto} {d : D} : fin true S (.rt d S) = if d.noref = true then .ok d S else .bad := by
  simp [fin]
@[simp] theorem fin_rtA {S r : Sto} {d : D} : fin true S (.rt d (S ++ r)) = if d.noref = true then .ok d S else .bad := by
  simp [fin]
@[simp] theorem fin_nx0 {S : Sto} {env : Env} : fin true S (.nx env S) = .ok .non S := by simp [fin]
@[simp] theorem fin_nxA {S r : Sto} {env : Env} : fin true S (.nx env (S ++ r)) = .ok .non S := by simp [fin]
@[simp] theorem fin_exc0 {S : Sto} {c : Nat} : fin true S (.exc c S) = .exc c S := by simp [fin]
@[simp] theorem fin_excA {S r : Sto} {c : Nat} : fin true S (.exc c (S ++ r)) = .exc c S := by simp [fin]
@[simp] theorem ty_beq (a b : Ty) : (a == b) = decide (a = b) := by cases a <;> cases b <;> rfl
/-! ### operators -/
theorem add_i {i j : Int} : bop .add (.int i) (.int j) = some (.int (i + j)) := rfl
theorem sub_i {i j : Int} : bop .sub (.int i) (.int j) = some (.int (i - j)) := rfl
theorem mul_i {i j : Int} (h : j.natAbs < 18446744073709551616) : bop .mul (.int i) (.int j) = some (.int (i * j)) := by
  have h : j.natAbs < 2 ^ 64 := h
  simp [bop, h]
theorem mul_j {i j : Int} (h : i.natAbs < 18446744073709551616) : bop .mul (.int i) (.int j) = some (.int (i * j)) := by
  have h : i.natAbs < 2 ^ 64 := h
  simp [bop, h]
theorem mul_w {i j : Int} (h : i.natAbs < 1606938044258990275541962092341162602522202993782792835301376) (h' : j.natAbs < 1606938044258990275541962092341162602522202993782792835301376) : bop .mul (.int i) (.int j) = some (.int (i * j)) := by
  have e : (1606938044258990275541962092341162602522202993782792835301376 : Nat) ≤ 2 ^ 1000 := (show (2 : Nat) ^ 200 ≤ 2 ^ 1000 from Nat.pow_le_pow_right (by decide) (by decide))
  have h1 : i.natAbs < 2 ^ 1000 := Nat.lt_of_lt_of_le h e
  have h2 : j.natAbs < 2 ^ 1000 := Nat.lt_of_lt_of_le h' e
  unfold bop
  simp only [decide_eq_true h1, decide_eq_true h2, Bool.and_self, Bool.or_true, if_true]
theorem fdiv_i {i j : Int} (h : 0 < j) (h2 : j.natAbs < 18446744073709551616) : bop .fdiv (.int i) (.int j) = some (.int (i / j)) := by
  have e : (18446744073709551616 : Nat) ≤ 2 ^ 1000 := (show (2 : Nat) ^ 64 ≤ 2 ^ 1000 from Nat.pow_le_pow_right (by decide) (by decide))
  have h1 : j.natAbs < 2 ^ 1000 := Nat.lt_of_lt_of_le h2 e
  unfold bop
  simp only [decide_eq_true h1, decide_eq_true h, Bool.and_self, if_true]
theorem mod_i {i j : Int} (h : 0 < j) : bop .mod (.int i) (.int j) = some (.int (i % j)) := by
  unfold bop
  simp only [h, if_true]
theorem pow_i {i j : Int} (h0 : 0 ≤ j) (h1 : j ≤ 1000) (h2 : i.natAbs < 18446744073709551616) : bop .pow (.int i) (.int j) = some (.int (i ^ j.toNat)) := by
  have h2 : i.natAbs < 2 ^ 64 := h2
  unfold bop
  simp only [decide_eq_true h0, decide_eq_true h1, decide_eq_true h2, Bool.and_self, if_true]
theorem add_l {xs ys : List D} (h : xs.length + ys.length ≤ 1000000) : bop .add (.lst xs) (.lst ys) = some (.lst (xs ++ ys)) := by
  unfold bop
  simp only [cap, h, if_true]
theorem getI_nat {α : Type} {xs : List α} {j : Nat} {d : α} (h : xs[j]? = some d) : getI xs (j : Int) = some d := by
  have hlt := (List.getElem?_eq_some_iff.mp h).1
  unfold getI atI ixN
  rw [if_pos (by omega), if_pos (by omega)]
  simpa using h
theorem getI_neg {α : Type} {xs : List α} {j : Nat} {d : α} (hj : 0 < j) (hl : j ≤ xs.length) (h : xs[xs.length - j]? = some d) : getI xs (-(j : Int)) = some d := by
  unfold getI atI ixN
  rw [if_neg (by omega), if_pos (by omega)]
  have : (-(j : Int) + (xs.length : Int)).toNat = xs.length - j := by omega
  rw [this]
  simpa using h
/-! ### is_count, the script's cells, drawn numbers -/
def isCount (d : D) (lo hi : Int) : Bool := match d with
  | .int i => decide (lo ≤ i) && decide (i ≤ hi)
  | _ => false
def plainD : D → Bool
  | .ref _ | .scr _ => false
  | _ => true
theorem is_count {T : Tab} (h : T.fn 0 = some f0_is_count) (k : Nat) (d : D) (lo hi : Int) (S : Sto) (hd : plainD d = true) : callAt T (k + 1) 0 [d, .int lo, .int hi] S = .ok (.bl (isCount d lo hi)) S := by
  rw [call_eq h rfl]
  cases d with
  | int i =>
    simp only [f0_is_count, isCount]
    by_cases h1 : lo ≤ i
    · simp [evCs, evC, evE, evEs, Y.F.of, Y.F.seq, tB, Env.get, Env.put, opt, isTys, isTy, cop, add_i, sub_i, mul_i, fdiv_i, mod_i, view, index, eqD, D.okd, D.eqv, D.eqvs, store, stores, nonD, bi, R.bind, partD, slice, cutD, keyD, isIn, flatD, putAll, attr, setAttr, setIdx, bm, freeze, intsD, blsD, h1, D.noref]
    · simp [evCs, evC, evE, evEs, Y.F.of, Y.F.seq, tB, Env.get, Env.put, opt, isTys, isTy, cop, add_i, sub_i, mul_i, fdiv_i, mod_i, view, index, eqD, D.okd, D.eqv, D.eqvs, store, stores, nonD, bi, R.bind, partD, slice, cutD, keyD, isIn, flatD, putAll, attr, setAttr, setIdx, bm, freeze, intsD, blsD, h1, D.noref]
  | ref n => cases hd
  | scr n => cases hd
  | _ => simp only [f0_is_count, isCount]; simp [evCs, evC, evE, evEs, Y.F.of, Y.F.seq, tB, Env.get, Env.put, opt, isTys, isTy, cop, add_i, sub_i, mul_i, fdiv_i, mod_i, view, index, eqD, D.okd, D.eqv, D.eqvs, store, stores, nonD, bi, R.bind, partD, slice, cutD, keyD, isIn, flatD, putAll, attr, setAttr, setIdx, bm, freeze, intsD, blsD, D.noref]
/-! ### the script's cells -/
def cellOf (ns : List Int) (k : Nat) : Int := if ns = [] then k * 7919 else ns.getD (k % ns.length) 0 + (k / ns.length : Nat) * 104729
theorem law_cell {T : Tab} (h : T.fn 4 = some f4_law_cell) (k : Nat) (ns : List Int) (hlen : ns.length ≤ 63) (i : Nat) (S : Sto) : callAt T (k + 1) 4 [.scr ns, .int i] S = .ok (.int (cellOf ns i)) S := by
  rw [call_eq h rfl]
  cases ns with
  | nil => simp only [f4_law_cell, cellOf]; simp [evCs, evC, evE, evEs, Y.F.of, Y.F.seq, tB, Env.get, Env.put, opt, isTys, isTy, cop, add_i, sub_i, mul_i, fdiv_i, mod_i, view, index, eqD, D.okd, D.eqv, D.eqvs, store, stores, nonD, bi, R.bind, partD, slice, cutD, keyD, isIn, flatD, putAll, attr, setAttr, setIdx, bm, freeze, intsD, blsD, D.noref]
  | cons n ns =>
    have hl : (0 : Int) < ((n :: ns).length : Nat) := by simp only [List.length_cons]; omega
    have hm : ((i : Int) % ((n :: ns).length : Nat)) = ((i % (n :: ns).length : Nat) : Int) := by simp
    have hlt : i % (n :: ns).length < (n :: ns).length := Nat.mod_lt _ (by simp)
    have hg : getI (n :: ns) ((i : Int) % ((n :: ns).length : Nat)) = some ((n :: ns).getD (i % (n :: ns).length) 0) := by
      rw [hm]
      exact getI_nat (by rw [List.getD_eq_getElem?_getD, List.getElem?_eq_getElem hlt]; rfl)
    generalize hL : n :: ns = L at *
    have hne : L ≠ [] := by rw [← hL]; simp
    have hne2 : L.isEmpty = false := by rw [← hL]; rfl
    have hb : ((L.length : Nat) : Int).natAbs < 18446744073709551616 := by omega
    simp only [f4_law_cell, cellOf, hne, if_false]
    simp [evCs, evC, evE, evEs, Y.F.of, Y.F.seq, tB, Env.get, Env.put, opt, isTys, isTy, cop, add_i, sub_i, mul_i, fdiv_i, mod_i, view, index, eqD, D.okd, D.eqv, D.eqvs, store, stores, nonD, bi, R.bind, partD, slice, cutD, keyD, isIn, flatD, putAll, attr, setAttr, setIdx, bm, freeze, intsD, blsD, mod_i hl, fdiv_i hl hb, hne2, hg, D.noref]
/-- the law's drawn numbers -/
def drawnOf (c k : Int) : Int :=
  let m1 := (c * 6364136223846793005 + (k + 1) * 1442695040888963407) % 340282366920938463463374607431768211507
  let m2 := m1 * m1 % 340282366920938463463374607431768211297
  let m3 := (m2 % 18446744073709551557 + 1) * (m2 / 18446744073709551557 + 1) * m2
  m3 % 340282366920938463463374607431768211507
theorem abs_of {i : Int} {n : Nat} (h0 : 0 ≤ i) (h : i < n) : i.natAbs < n := by omega
theorem law_drawn {T : Tab} (h : T.fn 5 = some f5_law_drawn) (k : Nat) (c i : Int) (S : Sto) : callAt T (k + 1) 5 [.int c, .int i] S = .ok (.int (drawnOf c i)) S := by
  rw [call_eq h rfl]
  unfold drawnOf
  generalize h1 : (c * 6364136223846793005 + (i + 1) * 1442695040888963407) % 340282366920938463463374607431768211507 = m1
  have b1 : 0 ≤ m1 ∧ m1 < 340282366920938463463374607431768211507 := by omega
  generalize h2 : m1 * m1 % 340282366920938463463374607431768211297 = m2
  have b2 : 0 ≤ m2 ∧ m2 < 340282366920938463463374607431768211297 := by omega
  have q1 : bop .mul (.int m1) (.int m1) = some (.int (m1 * m1)) := mul_w (by omega) (by omega)
  generalize h3 : m2 % 18446744073709551557 + 1 = x
  have b3 : 0 < x ∧ x ≤ 18446744073709551557 := by omega
  generalize h4 : m2 / 18446744073709551557 + 1 = y
  have b4 : 0 < y ∧ y ≤ 18446744073709551700 := by omega
  have q2 : bop .mul (.int x) (.int y) = some (.int (x * y)) := mul_j (by omega)
  have b5 : 0 ≤ x * y ∧ x * y ≤ 18446744073709551557 * 18446744073709551700 := ⟨Int.mul_nonneg (by omega) (by omega), Int.mul_le_mul b3.2 b4.2 (by omega) (by omega)⟩
  have q3 : bop .mul (.int (x * y)) (.int m2) = some (.int (x * y * m2)) := mul_w (by omega) (by omega)
  simp only [f5_law_drawn]
  simp [evCs, evC, evE, evEs, Y.F.of, Y.F.seq, tB, Env.get, Env.put, opt, isTys, isTy, cop, add_i, sub_i, mul_i, fdiv_i, mod_i, view, index, eqD, D.okd, D.eqv, D.eqvs, store, stores, nonD, bi, R.bind, partD, slice, cutD, keyD, isIn, flatD, putAll, attr, setAttr, setIdx, bm, freeze, intsD, blsD, q1, q2, q3, h1, h2, h3, h4, D.noref]
/-! ### loops -/
theorem compL_all {turn : D → Sto → R (Option D)} {g : D → D} {S : Sto} : ∀ {its : List D}, (∀ d ∈ its, turn d S = .ok (some (g d)) S) → compL turn its S = .ok (its.map g) S
  | [], _ => rfl
  | d :: its, h => by
    have ih := compL_all (turn := turn) (g := g) (S := S) (its := its) fun d hd => h d (List.mem_cons_of_mem _ hd)
    simp only [compL, h d List.mem_cons_self, R.bind_ok, ih, List.map_cons]
theorem compL_some {turn : D → Sto → R (Option D)} {p : D → Bool} {g : D → D} {S : Sto} : ∀ {its : List D}, (∀ d ∈ its, turn d S = .ok (if p d then some (g d) else none) S) → compL turn its S = .ok ((its.filter p).map g) S
  | [], _ => rfl
  | d :: its, h => by
    have ih := compL_some (turn := turn) (p := p) (g := g) (S := S) (its := its) fun d hd => h d (List.mem_cons_of_mem _ hd)
    simp only [compL, h d List.mem_cons_self, R.bind_ok, ih]
    cases hp : p d <;> simp [hp]
theorem forL_inv {tg : List Nat} {tp : Bool} {body : Env → Sto → F} (P : Nat → Env → Sto → Prop) : ∀ (its : List D) (i : Nat) (env : Env) (S : Sto), P i env S →
    (∀ j d env S, its[j]? = some d → P (i + j) env S → ∃ env1 env2 S2, bindT tg tp d env = some env1 ∧ body env1 S = .nx env2 S2 ∧ P (i + j + 1) env2 S2) → ∃ env' S', forL tg tp body its env S = .nx env' S' ∧ P (i + its.length) env' S'
  | [], i, env, S, h, _ => ⟨env, S, rfl, h⟩
  | d :: its, i, env, S, h, hs => by
    obtain ⟨env1, env2, S2, h1, h2, h3⟩ := hs 0 d env S rfl h
    obtain ⟨env', S', h4, h5⟩ := forL_inv P its (i + 1) env2 S2 h3 fun j d env S hj hp => by
      have := hs (j + 1) d env S (by simpa using hj) (by rw [show i + (j + 1) = i + 1 + j by omega]; exact hp)
      rw [show i + (j + 1) + 1 = i + 1 + j + 1 by omega] at this
      exact this
    refine ⟨env', S', ?_, by rw [show i + (d :: its).length = i + 1 + its.length by simp; omega]; exact h5⟩
    simp only [forL, h1, h2, F.turn]
    exact h4
theorem whileL_step {test : Env → Sto → R D} {body : Env → Sto → F} {n : Nat} {env env2 : Env} {S S1 S2 : Sto} (ht : test env S = .ok (.bl true) S1) (hb : body env S1 = .nx env2 S2) : whileL test body (n + 1) env S = whileL test body n env2 S2 := by
  simp [whileL, ht, hb, F.of, F.turn]
theorem whileL_stop {test : Env → Sto → R D} {body : Env → Sto → F} {n : Nat} {env : Env} {S S1 : Sto} (ht : test env S = .ok (.bl false) S1) : whileL test body (n + 1) env S = .nx env S1 := by
  simp [whileL, ht, F.of]
theorem whileL_ret {test : Env → Sto → R D} {body : Env → Sto → F} {n : Nat} {env : Env} {S S1 S2 : Sto} {d : D} (ht : test env S = .ok (.bl true) S1) (hb : body env S1 = .rt d S2) : whileL test body (n + 1) env S = .rt d S2 := by
  simp [whileL, ht, hb, F.of, F.turn]
/-! ### comprehensions -/
theorem comp_ok {G : Rules} {tg : List Nat} {tp : Bool} {k : SrcK} {src : List E} {cond elt : E} {env : Env} {S : Sto} {ds its : List D} {p : D → Bool} {g : D → D} (hs : evEs G src env S = .ok ds S) (hi : items S k ds = some its)
    (hc : ∀ d ∈ its, ∃ env', bindT tg tp d (tg.foldr (fun i e => e.wipe i) env) = some env' ∧ evE G cond env' S = .ok (.bl (p d)) S ∧ (p d = true → evE G elt env' S = .ok (g d) S)) : evE G (.comp tg tp k src cond elt) env S = .ok (.lst ((its.filter p).map g)) S := by
  simp only [evE, hs, R.bind_ok, hi, opt_some]
  rw [compL_some (p := p) (g := g)]
  · rfl
  · intro d hd
    obtain ⟨env', h1, h2, h3⟩ := hc d hd
    simp only [h1, h2, R.bind_ok]
    cases hp : p d with
    | false => rfl
    | true => simp only [h3 hp, R.bind_ok]; rfl
theorem all_yes {α : Type} (xs : List α) : xs.all (fun _ => true) = true := List.all_eq_true.mpr fun _ _ => rfl
theorem filter_yes {α : Type} (xs : List α) : xs.filter (fun _ => true) = xs := List.filter_eq_self.mpr fun _ _ => rfl
theorem comp_map {G : Rules} {i : Nat} {src elt : E} {env : Env} {S : Sto} {xs : List D} {g : D → D} (hs : evE G src env S = .ok (.lst xs) S) (he : ∀ d ∈ xs, evE G elt ((env.wipe i).put i d) S = .ok (g d) S) : evE G (.comp [i] false .seq [src] (.kon (.bl true)) elt) env S = .ok (.lst (xs.map g)) S := by
  have := comp_ok (G := G) (tg := [i]) (tp := false) (k := .seq) (src := [src]) (cond := .kon (.bl true)) (elt := elt) (env := env) (S := S) (ds := [.lst xs]) (its := xs) (p := fun _ => true) (g := g) (by simp [evEs, hs]) rfl (fun d hd => ⟨_, rfl, rfl, fun _ => he d hd⟩)
  rw [this, filter_yes]
theorem comp_rng {G : Rules} {i n : Nat} {e elt : E} {env : Env} {S : Sto} {g : D → D} (hs : evE G e env S = .ok (.int n) S) (hn : n ≤ cap) (he : ∀ j, j < n → evE G elt ((env.wipe i).put i (.int j)) S = .ok (g (.int j)) S) : evE G (.comp [i] false .rng [e] (.kon (.bl true)) elt) env S = .ok (.lst ((List.range n).map fun (j : Nat) => g (.int j))) S := by
  have h0 : (0 : Int) ≤ (n : Int) := by omega
  have h1 : (n : Int) ≤ (cap : Nat) := by omega
  have := comp_ok (G := G) (tg := [i]) (tp := false) (k := .rng) (src := [e]) (cond := .kon (.bl true)) (elt := elt) (env := env) (S := S) (ds := [.int n]) (its := (List.range n).map fun (j : Nat) => .int j) (p := fun _ => true) (g := g) (by simp [evEs, hs]) (by simp [items, h0, h1]) (fun d hd => ⟨_, rfl, rfl, fun _ => by
    obtain ⟨j, hj, rfl⟩ := List.mem_map.mp hd
    exact he j (List.mem_range.mp hj)⟩)
  rw [this, filter_yes, List.map_map]
  rfl
theorem all_true {xs : List D} (h : ∀ d ∈ xs, d = .bl true) : blsD xs = some (xs.map fun _ => true) := by
  induction xs with
  | nil => rfl
  | cons x xs ih =>
    have e := h x (by simp)
    subst e
    simp only [blsD, ih fun d hd => h d (by simp [hd]), Option.map_some, List.map_cons]
/-! ### one step -/
section
variable {G : Rules} {env env1 : Env} {S S1 S2 : Sto} {e a b : E} {k : Bool} {d : D} {x y : List C} {c : C} {cs : List C}
theorem ifs_f (h : evE G e env S = .ok (.bl false) S1) : evC G (.ifs e x y) env S = evCs G y env S1 := by simp [evC, h, F.of]
theorem ifs_t (h : evE G e env S = .ok (.bl true) S1) : evC G (.ifs e x y) env S = evCs G x env S1 := by simp [evC, h, F.of]
theorem not_e (h : evE G e env S = .ok (.bl k) S1) : evE G (.not e) env S = .ok (.bl (!k)) S1 := by simp [evE, h, tB, R.bind]
theorem or_n (h : evE G a env S = .ok (.bl false) S1) (h2 : evE G b env S1 = .ok (.bl k) S2) : evE G (.or a b) env S = .ok (.bl k) S2 := by simp [evE, h, h2, tB, R.bind]
theorem or_y (h : evE G a env S = .ok (.bl true) S1) : evE G (.or a b) env S = .ok (.bl true) S1 := by simp [evE, h, tB, R.bind]
theorem and_y (h : evE G a env S = .ok (.bl true) S1) (h2 : evE G b env S1 = .ok (.bl k) S2) : evE G (.and a b) env S = .ok (.bl k) S2 := by simp [evE, h, h2, tB, R.bind]
theorem and_n (h : evE G a env S = .ok (.bl false) S1) : evE G (.and a b) env S = .ok (.bl false) S1 := by simp [evE, h, tB, R.bind]
theorem cs_nil : evCs G [] env S = .nx env S := rfl
theorem cs_nx (h : evC G c env S = .nx env1 S1) : evCs G (c :: cs) env S = evCs G cs env1 S1 := by simp [evCs, h, F.seq]
theorem cs_exc {n : Nat} (h : evC G c env S = .exc n S1) : evCs G (c :: cs) env S = .exc n S1 := by simp [evCs, h, F.seq]
theorem cs_rt (h : evC G c env S = .rt d S1) : evCs G (c :: cs) env S = .rt d S1 := by simp [evCs, h, F.seq]
theorem asg_nm {i : Nat} (h : evE G e env S = .ok d S1) : evC G (.asg (.nm i) e) env S = .nx (env.put i d) S1 := by simp [evC, h, F.of, store]
theorem ret_e (h : evE G e env S = .ok d S1) : evC G (.ret e) env S = .rt d S1 := by simp [evC, h, F.of]
theorem expr_e (h : evE G e env S = .ok d S1) : evC G (.expr e) env S = .nx env S1 := by simp [evC, h, F.of]
theorem call1 {f : Nat} (h : evE G e env S = .ok d S1) : evE G (.call f [e]) env S = G.call f [d] S1 := by simp [evE, evEs, h, R.bind]
theorem call2 {f : Nat} {d2 : D} (h : evE G a env S = .ok d S1) (h2 : evE G b env S1 = .ok d2 S2) : evE G (.call f [a, b]) env S = G.call f [d, d2] S2 := by simp [evE, evEs, h, h2, R.bind]
theorem ne_e {d2 : D} (h : evE G a env S = .ok d S1) (h2 : evE G b env S1 = .ok d2 S2) (h3 : eqD (view S2 d) (view S2 d2) = some k) : evE G (.cmp .ne a b) env S = .ok (.bl (!k)) S2 := by simp [evE, h, h2, R.bind, cop, h3, opt]
theorem told_ok {n : Nat} (h : evE G e env S = .ok d S1) : evE G (.told n e) env S = .ok d S1 := by simp [evE, h]
theorem told_exc {n j : Nat} (h : evE G e env S = .exc j S1) (hj : j < n) : evE G (.told n e) env S = .ok (.str (excName j)) S1 := by simp [evE, h, hj]
end
end Y

end

section
set_option Elab.async false
set_option linter.all false
set_option maxRecDepth 100000
set_option maxHeartbeats 4000000
namespace Y
open PySem L2
theorem le_cap {n : Nat} (h : n ≤ 100000) : n ≤ cap := by unfold cap; omega
theorem lt_cap {n : Nat} (h : n ≤ 100000) : n < cap := by unfold cap; omega
theorem int_beq (i j : Int) : (i == j) = decide (i = j) := by by_cases h : i = j <;> simp [h]
/-! ### rows of ints -/
def intsL (ns : List Int) : List D := ns.map .int
theorem getS {S : Sto} {o : O} : (S ++ [o])[S.length]? = some o := by simp
theorem setS {S : Sto} {o u : O} : (S ++ [o]).set S.length u = S ++ [u] := by simp
theorem ints_some (ns : List Int) : intsD (intsL ns) = some ns := by
  induction ns with
  | nil => rfl
  | cons n ns ih => simp only [intsL, List.map_cons, intsD] at ih ⊢; rw [ih]; rfl
theorem okd_ints (k : Nat) (ns : List Int) : (intsL ns).all (D.okd k) = true := by
  unfold intsL
  rw [List.all_map]
  exact List.all_eq_true.mpr fun _ _ => by cases k <;> rfl
theorem eqvs_nil {xs : List D} : D.eqvs xs [] = xs.isEmpty := by cases xs <;> rfl
theorem norefs_ints (ns : List Int) : D.norefs (intsL ns) = true := by
  induction ns with
  | nil => rfl
  | cons p l ih => simp only [intsL, List.map_cons, D.norefs, D.noref] at ih ⊢; simp [ih]
theorem any_ints (L : List Int) (x : Int) : ((intsL L).any fun z => z.eqv (.int x)) = decide (x ∈ L) := by
  unfold intsL
  rw [List.any_map]
  induction L with
  | nil => rfl
  | cons y L ih =>
    simp only [List.any_cons, Function.comp, D.eqv] at ih ⊢
    rw [ih]
    by_cases h : y = x
    · subst h; simp
    · have h2 : ¬ x = y := fun z => h z.symm
      simp [h, h2]
theorem ints_len (ns : List Int) : (intsL ns).length = ns.length := by simp [intsL]
theorem ints_app (a b : List Int) : intsL (a ++ b) = intsL a ++ intsL b := by simp [intsL]
theorem ints_get {ns : List Int} {j : Nat} (h : j < ns.length) : getI (intsL ns) (j : Int) = some (.int ns[j]) := getI_nat (by simp [intsL, h])
theorem ints_get0 {n : Int} {ns : List Int} : getI (intsL (n :: ns)) 0 = some (.int n) := getI_nat (j := 0) rfl
/-! ### sources -/
def rng (n : Nat) : List D := (List.range n).map fun (i : Nat) => .int i
theorem rng_at {n j : Nat} {d : D} (h : (rng n)[j]? = some d) : d = .int j ∧ j < n := by
  unfold rng at h
  rw [List.getElem?_map] at h
  cases hr : (List.range n)[j]? with
  | none => rw [hr] at h; cases h
  | some i =>
    rw [hr] at h
    obtain ⟨h1, h2⟩ := List.getElem?_eq_some_iff.mp hr
    simp at h1 h2
    subst h2
    simp at h
    exact ⟨h.symm, h1⟩
theorem rng_len (n : Nat) : (rng n).length = n := by simp [rng]
theorem for_rng {G : Rules} {tg : List Nat} {n : Nat} {body : List C} {env : Env} {S : Sto} {e : E} (he : evE G e env S = .ok (.int n) S) (hn : n ≤ cap) : evC G (.for_ tg false .rng [e] body) env S = forL tg false (fun env S => evCs G body env S) (rng n) env S := by
  have h0 : (0 : Int) ≤ (n : Int) := by omega
  have h1 : (n : Int) ≤ (cap : Nat) := by omega
  simp [evC, evEs, he, items, h0, h1, F.of, opt, rng]
theorem for_seq {G : Rules} {tg : List Nat} {tp : Bool} {xs : List D} {body : List C} {env : Env} {S : Sto} {e : E} (he : evE G e env S = .ok (.lst xs) S) : evC G (.for_ tg tp .seq [e] body) env S = forL tg tp (fun env S => evCs G body env S) xs env S := by
  simp [evC, evEs, he, items, F.of, opt]
theorem all_map_true {T : Tab} {k : Nat} {e : E} {env : Env} {S : Sto} {xs : List D} (h : evE (RG T k) e env S = .ok (.lst (xs.map fun _ => .bl true)) S) : evE (RG T k) (.bi .all [e]) env S = .ok (.bl true) S := by
  have hb := all_true (xs := xs.map fun _ => D.bl true) (by intro d hd; obtain ⟨_, _, e⟩ := List.mem_map.mp hd; exact e.symm)
  simp [evE, evEs, h, bi, view, hb, all_yes, opt]
/-! ### names -/
theorem put_get {env : Env} {n i : Nat} {d : D} (hl : env.length = n) (hi : i < n) : (env.put i d).get i = some d := by rw [get_put, if_pos ⟨rfl, by omega⟩]
theorem put_get_ne {env : Env} {i j : Nat} {d : D} (hi : j ≠ i) : (env.put i d).get j = env.get j := by rw [get_put, if_neg (fun z => hi z.1)]
theorem wp_get {env : Env} {i j : Nat} {d : D} (h : j ≠ i) : ((env.wipe i).put i d).get j = env.get j := by rw [put_get_ne h, get_wipe, if_neg h]
theorem wp_same {env : Env} {i : Nat} {d : D} (h : i < env.length) : ((env.wipe i).put i d).get i = some d := put_get (n := env.length) (wipe_len env i) h
theorem len_cons {env : Env} {n : Nat} (h : env.length = n + 1) : ∃ a r, env = a :: r ∧ r.length = n := by
  cases env with
  | nil => simp at h
  | cons a r => exact ⟨a, r, rfl, by simpa using h⟩
theorem len_nil {env : Env} (h : env.length = 0) : env = [] := List.length_eq_zero_iff.mp h
/-! ### sameness -/
mutual
theorem eqv_self : ∀ (n : Nat) (d : D), d.okd n = true → d.eqv d = true
  | _, .non, _ => rfl
  | _, .bl b, _ => by simp [D.eqv]
  | _, .int i, _ => by simp [D.eqv]
  | _, .str x, _ => by simp [D.eqv]
  | 0, .tup xs, h => by simp [D.okd] at h
  | 0, .lst xs, h => by simp [D.okd] at h
  | n + 1, .tup xs, h => by simp only [D.eqv]; exact eqvs_self n xs (by simpa only [D.okd] using h)
  | n + 1, .lst xs, h => by simp only [D.eqv]; exact eqvs_self n xs (by simpa only [D.okd] using h)
  | n, .scr ns, h => by cases n <;> simp [D.okd] at h
  | n, .ref r, h => by cases n <;> simp [D.okd] at h
theorem eqvs_self : ∀ (n : Nat) (xs : List D), xs.all (D.okd n) = true → D.eqvs xs xs = true
  | _, [], _ => rfl
  | n, x :: xs, h => by
    simp only [List.all_cons, Bool.and_eq_true] at h
    simp only [D.eqvs, eqv_self n x h.1, eqvs_self n xs h.2, Bool.and_self]
end
theorem eqD_lst {xs : List D} (h : xs.all (D.okd 7) = true) : eqD (.lst xs) (.lst xs) = some true := by
  have h1 : (D.lst xs).okd 8 = true := by simpa only [D.okd] using h
  have h2 := eqv_self 8 _ h1
  unfold eqD
  simp only [h1, Bool.and_self, if_true, h2]
theorem eqD_ints (ns : List Int) : eqD (.lst (intsL ns)) (.lst (intsL ns)) = some true := eqD_lst (okd_ints 7 ns)
theorem eqD_self {d : D} (h : d.okd 8 = true) : eqD d d = some true := by
  have h2 := eqv_self 8 d h
  cases d with
  | str x => simp [eqD]
  | _ => simp only [eqD, h, Bool.and_self, if_true, h2]
theorem view_ok {d : D} {n : Nat} (h : d.okd n = true) (S : Sto) : view S d = d := by
  cases d with
  | ref r => cases n <;> simp [D.okd] at h
  | _ => rfl
theorem ne_same {G : Rules} {a b : E} {env : Env} {S S1 S2 : Sto} {d : D} (ha : evE G a env S = .ok d S1) (hb : evE G b env S1 = .ok d S2) (hd : d.okd 8 = true) : evE G (.cmp .ne a b) env S = .ok (.bl false) S2 :=
  ne_e (k := true) ha hb (by rw [view_ok hd, eqD_self hd])
theorem eq_same {G : Rules} {a b : E} {env : Env} {S S1 S2 : Sto} {d : D} (ha : evE G a env S = .ok d S1) (hb : evE G b env S1 = .ok d S2) (hd : d.okd 8 = true) : evE G (.cmp .eq a b) env S = .ok (.bl true) S2 := by
  simp [evE, ha, hb, R.bind, cop, view_ok hd, eqD_self hd, opt]
theorem okd_il (n : Nat) (ns : List Int) : (D.lst (intsL ns)).okd (n + 1) = true := by simpa only [D.okd] using okd_ints n ns
theorem if_no {G : Rules} {e : E} {x : List C} {env : Env} {S : Sto} (h : evE G e env S = .ok (.bl false) S) : evC G (.ifs e x []) env S = .nx env S := (ifs_f h).trans cs_nil
/-! ### runs -/
/-- it goes on, and so -/
def Run (f : F) (Q : Env → Sto → Prop) : Prop := ∃ env S, f = .nx env S ∧ Q env S
theorem run_nx {env : Env} {S : Sto} {Q : Env → Sto → Prop} : Run (.nx env S) Q ↔ Q env S := ⟨fun ⟨_, _, e, q⟩ => by cases e; exact q, fun q => ⟨env, S, rfl, q⟩⟩
theorem Run.mono {f : F} {P Q : Env → Sto → Prop} (h : Run f P) (hq : ∀ env S, P env S → Q env S) : Run f Q := by
  obtain ⟨env, S, e, p⟩ := h
  exact ⟨env, S, e, hq env S p⟩
theorem run_cs {G : Rules} {c : C} {cs : List C} {env : Env} {S : Sto} {P Q : Env → Sto → Prop} (h : Run (evC G c env S) P) (hq : ∀ env S, P env S → Run (evCs G cs env S) Q) : Run (evCs G (c :: cs) env S) Q := by
  obtain ⟨env1, S1, e, p⟩ := h
  rw [cs_nx e]
  exact hq env1 S1 p
theorem run_eq {G : Rules} {c : C} {cs : List C} {env env1 : Env} {S S1 : Sto} {Q : Env → Sto → Prop} (h : evC G c env S = .nx env1 S1) (hq : Run (evCs G cs env1 S1) Q) : Run (evCs G (c :: cs) env S) Q := by
  rw [cs_nx h]; exact hq
theorem run_nil {G : Rules} {env : Env} {S : Sto} {Q : Env → Sto → Prop} (h : Q env S) : Run (evCs G [] env S) Q := ⟨env, S, rfl, h⟩
theorem run_for {tg : List Nat} {tp : Bool} {body : Env → Sto → F} (P : Nat → Env → Sto → Prop) (its : List D) (env : Env) (S : Sto) (h : P 0 env S)
    (hs : ∀ j d env S, its[j]? = some d → P j env S → ∃ env1, bindT tg tp d env = some env1 ∧ Run (body env1 S) (P (j + 1))) : Run (forL tg tp body its env S) (P its.length) := by
  obtain ⟨env', S', h1, h2⟩ := forL_inv (tg := tg) (tp := tp) (body := body) P its 0 env S h (by
    intro j d env S hj hp
    rw [Nat.zero_add] at hp
    obtain ⟨env1, h1, env2, S2, h2, h3⟩ := hs j d env S hj hp
    exact ⟨env1, env2, S2, h1, h2, by rw [Nat.zero_add]; exact h3⟩)
  rw [Nat.zero_add] at h2
  exact ⟨env', S', h1, h2⟩
/-- a for over a range, a for over a list -/
theorem run_rng {G : Rules} {i n : Nat} {e : E} {body : List C} (P : Nat → Env → Sto → Prop) {env : Env} {S : Sto} (he : evE G e env S = .ok (.int n) S) (hn : n ≤ 100000) (h : P 0 env S)
    (hs : ∀ j env S, j < n → P j env S → Run (evCs G body (env.put i (.int j)) S) (P (j + 1))) : Run (evC G (.for_ [i] false .rng [e] body) env S) (P n) := by
  rw [for_rng he (le_cap hn)]
  have := run_for (tg := [i]) (tp := false) (body := fun env S => evCs G body env S) P (rng n) env S h (by
    intro j d env S hj hp
    obtain ⟨rfl, hlt⟩ := rng_at hj
    exact ⟨_, rfl, hs j env S hlt hp⟩)
  rw [rng_len] at this
  exact this
theorem run_seq {G : Rules} {i : Nat} {e : E} {xs : List D} {body : List C} (P : Nat → Env → Sto → Prop) {env : Env} {S : Sto} (he : evE G e env S = .ok (.lst xs) S) (h : P 0 env S)
    (hs : ∀ j d env S, xs[j]? = some d → P j env S → Run (evCs G body (env.put i d) S) (P (j + 1))) : Run (evC G (.for_ [i] false .seq [e] body) env S) (P xs.length) := by
  rw [for_seq he]
  exact run_for (tg := [i]) (tp := false) (body := fun env S => evCs G body env S) P xs env S h (fun j d env S hj hp => ⟨_, rfl, hs j d env S hj hp⟩)
/-! ### powers, choices -/
theorem p20 : bop .pow (.int 2) (.int 20) = some (.int 1048576) := rfl
theorem p30 : bop .pow (.int 2) (.int 30) = some (.int 1073741824) := rfl
theorem p40 : bop .pow (.int 2) (.int 40) = some (.int 1099511627776) := rfl
theorem p50 : bop .pow (.int 2) (.int 50) = some (.int 1125899906842624) := rfl
theorem p60 : bop .pow (.int 2) (.int 60) = some (.int 1152921504606846976) := rfl
theorem sel {xs : List D} {n : Nat} (hn : xs.length = n) (h0 : 0 < n) (h : Int) : ∃ d, getI xs (h % (n : Int)) = some d ∧ d ∈ xs := by
  have hp : 0 ≤ h % (n : Int) := Int.emod_nonneg _ (by omega)
  have hlt : h % (n : Int) < n := Int.emod_lt_of_pos _ (by omega)
  have e : h % (n : Int) = ((h % (n : Int)).toNat : Int) := by omega
  have hl : (h % (n : Int)).toNat < xs.length := by omega
  refine ⟨xs[(h % (n : Int)).toNat], ?_, List.getElem_mem hl⟩
  have := getI_nat (List.getElem?_eq_getElem hl)
  rw [← e] at this
  exact this
/-! ### is_count of each kind -/
section
variable {T : Tab} (h : T.fn 0 = some f0_is_count) (k : Nat) (lo hi : Int) (S : Sto)
include h
theorem cnt_int (i : Int) : callAt T (k + 1) 0 [.int i, .int lo, .int hi] S = .ok (.bl (decide (lo ≤ i) && decide (i ≤ hi))) S := is_count h k (.int i) lo hi S rfl
theorem cnt_str (x : Str) : callAt T (k + 1) 0 [.str x, .int lo, .int hi] S = .ok (.bl false) S := is_count h k (.str x) lo hi S rfl
theorem cnt_bl (b : Bool) : callAt T (k + 1) 0 [.bl b, .int lo, .int hi] S = .ok (.bl false) S := is_count h k (.bl b) lo hi S rfl
theorem cnt_non : callAt T (k + 1) 0 [.non, .int lo, .int hi] S = .ok (.bl false) S := is_count h k .non lo hi S rfl
theorem cnt_tup (xs : List D) : callAt T (k + 1) 0 [.tup xs, .int lo, .int hi] S = .ok (.bl false) S := is_count h k (.tup xs) lo hi S rfl
theorem cnt_lst (xs : List D) : callAt T (k + 1) 0 [.lst xs, .int lo, .int hi] S = .ok (.bl false) S := is_count h k (.lst xs) lo hi S rfl
end
theorem firsts_nodup : ∀ (ns : List Int), ns.Nodup → firsts ns = ns := by
  intro ns h
  have key : ∀ (ns acc : List Int), (acc ++ ns).Nodup → ns.foldl (fun acc i => if acc.any (· == i) then acc else acc ++ [i]) acc = acc ++ ns := by
    intro ns
    induction ns with
    | nil => intro acc _; simp
    | cons n ns ih =>
      intro acc hn
      have : acc.any (· == n) = false := by
        cases hb : acc.any (· == n) with
        | false => rfl
        | true =>
          obtain ⟨y, hy, e⟩ := List.any_eq_true.mp hb
          have e := eq_of_beq e
          subst e
          rw [List.nodup_append] at hn
          exact absurd rfl (hn.2.2 y hy y (by simp))
      simp only [List.foldl_cons, this, Bool.false_eq_true, if_false]
      rw [ih (acc ++ [n]) (by simpa using hn)]
      simp
  exact (key ns [] (by simpa using h)).trans (by simp)
/-! ### the law's outer loop -/
theorem drawn_nn (c i : Int) : 0 ≤ drawnOf c i := by unfold drawnOf; exact Int.emod_nonneg _ (by decide)
theorem turns_of {G : Rules} {ns : List Int} {env : Env} {S : Sto} {N : Nat} (h0 : env.get 0 = some (.scr ns)) (hN : 1 ≤ N) : evE G (.bi .max [(.kon (.int 1)), (.bi .min [(.kon (.int N)), (.bi .len [(.var 0)])])]) env S = .ok (.int ((max 1 (min N ns.length) : Nat) : Int)) S := by
  simp only [evE, evEs, h0, opt, R.bind, bi, view]
  congr 2
  split <;> split <;> omega
theorem law_outer {T : Tab} {K sl lid N : Nat} {p : Bool} {body : List C} (h4 : T.fn 4 = some f4_law_cell) (h5 : T.fn 5 = some f5_law_drawn) (ns : List Int) (hlen : ns.length ≤ 63) (hN : 1 ≤ N) (hN2 : N ≤ 100) (hsl : 3 ≤ sl)
    (hfn : T.fn lid = some ⟨1, sl, p, [.for_ [1] false .rng [(.bi .max [(.kon (.int 1)), (.bi .min [(.kon (.int N)), (.bi .len [(.var 0)])])])] (.asg (.nm 2) (.call 5 [(.call 4 [(.var 0), (.var 1)]), (.var 1)]) :: body), .ret (.kon (.bl true))]⟩)
    (hb : ∀ (k : Nat) (m : Int) (env : Env) (S : Sto), k < N → 0 ≤ m → env.length = sl → env.get 0 = some (.scr ns) → env.get 1 = some (.int k) → env.get 2 = some (.int m) → Run (evCs (RG T (K + 1)) body env S) fun env2 _ => env2.length = sl ∧ env2.get 0 = some (.scr ns)) :
    ∃ S', callAt T (K + 2) lid [.scr ns] [] = .ok (.bl true) S' := by
  rw [call_eq hfn rfl]
  have hl0 : (some (D.scr ns) :: List.replicate (sl - 1) none : Env).length = sl := by simp; omega
  generalize hE : (some (D.scr ns) :: List.replicate (sl - 1) none : Env) = env0 at *
  have h00 : Env.get env0 0 = some (.scr ns) := by rw [← hE]; rfl
  have hf := for_rng (G := RG T (K + 1)) (tg := [1]) (body := (.asg (.nm 2) (.call 5 [(.call 4 [(.var 0), (.var 1)]), (.var 1)]) :: body)) (S := []) (turns_of (N := N) h00 hN) (by unfold cap; omega)
  obtain ⟨env2, S2, h1, h2⟩ := forL_inv (tg := [1]) (tp := false) (body := fun env S => evCs (RG T (K + 1)) (.asg (.nm 2) (.call 5 [(.call 4 [(.var 0), (.var 1)]), (.var 1)]) :: body) env S) (fun _ env S => env.length = sl ∧ env.get 0 = some (.scr ns)) (rng (max 1 (min N ns.length))) 0 env0 [] ⟨hl0, h00⟩ (by
    rintro i d env S hd ⟨hl, h0⟩
    obtain ⟨rfl, hi⟩ := rng_at hd
    have e0 : (env.put 1 (.int i)).get 0 = some (.scr ns) := by rw [put_get_ne (by decide)]; exact h0
    have e1 : (env.put 1 (.int i)).get 1 = some (.int i) := put_get hl (by omega)
    have el : (env.put 1 (.int i)).length = sl := by rw [put_len]; exact hl
    have s1 : evC (RG T (K + 1)) (.asg (.nm 2) (.call 5 [(.call 4 [(.var 0), (.var 1)]), (.var 1)])) (env.put 1 (.int i)) S = .nx ((env.put 1 (.int i)).put 2 (.int (drawnOf (cellOf ns i) i))) S := by
      refine asg_nm ((call2 (d := .int (cellOf ns i)) (d2 := .int i) (S1 := S) (S2 := S) ((call2 (d := .scr ns) (d2 := .int i) (S1 := S) (S2 := S) ?_ ?_).trans (law_cell h4 K ns hlen i S)) ?_).trans (law_drawn h5 K (cellOf ns i) i S))
      · simp [evE, e0]
      · simp [evE, e1]
      · simp [evE, e1]
    obtain ⟨env3, S3, r1, r2, r3⟩ := hb i (drawnOf (cellOf ns i) i) ((env.put 1 (.int i)).put 2 (.int (drawnOf (cellOf ns i) i))) S (by omega) (drawn_nn _ _) (by rw [put_len]; exact el) (by rw [put_get_ne (by decide)]; exact e0) (by rw [put_get_ne (by decide)]; exact e1) (put_get el (by omega))
    exact ⟨_, env3, S3, rfl, by rw [cs_nx s1]; exact r1, r2, r3⟩)
  have hc : evCs (RG T (K + 1)) [.for_ [1] false .rng [(.bi .max [(.kon (.int 1)), (.bi .min [(.kon (.int N)), (.bi .len [(.var 0)])])])] (.asg (.nm 2) (.call 5 [(.call 4 [(.var 0), (.var 1)]), (.var 1)]) :: body), .ret (.kon (.bl true))] env0 [] = .rt (.bl true) S2 := by
    rw [cs_nx (hf.trans h1), cs_rt (ret_e (d := .bl true) (S1 := S2) rfl)]
  show ∃ S', fin p [] (evCs (RG T (K + 1)) [.for_ [1] false .rng [(.bi .max [(.kon (.int 1)), (.bi .min [(.kon (.int N)), (.bi .len [(.var 0)])])])] (.asg (.nm 2) (.call 5 [(.call 4 [(.var 0), (.var 1)]), (.var 1)]) :: body), .ret (.kon (.bl true))] (some (D.scr ns) :: List.replicate (sl - 1) none) []) = .ok (.bl true) S'
  rw [hE, hc]
  cases p
  · exact ⟨S2, rfl⟩
  · exact ⟨[], by simp [fin, D.noref, sameS]⟩
end Y

end

section
set_option Elab.async false
set_option linter.all false
set_option maxRecDepth 100000
set_option maxHeartbeats 4000000
namespace Y
open PySem L2
/-! ### one step at a time, for simp -/
theorem nc0 : ((0 : Nat) : Int) = 0 := rfl
theorem nc1 : ((1 : Nat) : Int) = 1 := rfl
theorem nc2 : ((2 : Nat) : Int) = 2 := rfl
theorem nc3 : ((3 : Nat) : Int) = 3 := rfl
theorem nc4 : ((4 : Nat) : Int) = 4 := rfl
theorem nc5 : ((5 : Nat) : Int) = 5 := rfl
theorem nc6 : ((6 : Nat) : Int) = 6 := rfl
theorem nc7 : ((7 : Nat) : Int) = 7 := rfl
theorem nc8 : ((8 : Nat) : Int) = 8 := rfl
theorem nc9 : ((9 : Nat) : Int) = 9 := rfl
section
variable {α β : Type} {S S1 : Sto} {env : Env} {d x y : D} {c n : Nat} {b : Bool} {i j : Int}
theorem tB_bl {f : Bool → Sto → R D} : tB (.ok (.bl b) S) f = f b S := rfl
theorem tB_exc {f : Bool → Sto → R D} : tB (.exc c S) f = .exc c S := rfl
theorem of_ok {a : α} {f : α → Sto → F} : F.of (.ok a S) f = f a S := rfl
theorem of_exc {f : α → Sto → F} : F.of (.exc c S) f = .exc c S := rfl
theorem seq_nx {g : Env → Sto → F} : F.seq (.nx env S) g = g env S := rfl
theorem seq_rt {g : Env → Sto → F} : F.seq (.rt d S) g = .rt d S := rfl
theorem seq_exc {g : Env → Sto → F} : F.seq (.exc c S) g = .exc c S := rfl
theorem turn_nx {g : Env → Sto → F} : F.turn (.nx env S) g = g env S := rfl
theorem turn_rt {g : Env → Sto → F} : F.turn (.rt d S) g = .rt d S := rfl
theorem turn_exc {g : Env → Sto → F} : F.turn (.exc c S) g = .exc c S := rfl
theorem calm_ok {a : α} : R.calm (.ok a S) = .ok a S := rfl
theorem vw_non : view S .non = .non := rfl
theorem vw_bl : view S (.bl b) = .bl b := rfl
theorem vw_int : view S (.int i) = .int i := rfl
theorem vw_str {z : Str} : view S (.str z) = .str z := rfl
theorem vw_tup {xs : List D} : view S (.tup xs) = .tup xs := rfl
theorem vw_lst {xs : List D} : view S (.lst xs) = .lst xs := rfl
theorem vw_scr {ns : List Int} : view S (.scr ns) = .scr ns := rfl
theorem vw_ref {xs : List D} (h : S[n]? = some (.lst xs)) : view S (.ref n) = .lst xs := by simp [view, h]
theorem vw_dic {kvs : List (Key × D)} (h : S[n]? = some (.dic kvs)) : view S (.ref n) = .ref n := by simp [view, h]
theorem c_lt : cop S .lt (.int i) (.int j) = some (decide (i < j)) := rfl
theorem c_le : cop S .le (.int i) (.int j) = some (decide (i ≤ j)) := rfl
theorem c_gt : cop S .gt (.int i) (.int j) = some (decide (j < i)) := rfl
theorem c_ge : cop S .ge (.int i) (.int j) = some (decide (j ≤ i)) := rfl
theorem c_eq : cop S .eq x y = eqD (view S x) (view S y) := by cases x <;> cases y <;> rfl
theorem c_ne : cop S .ne x y = (eqD (view S x) (view S y)).map (! ·) := by cases x <;> cases y <;> rfl
theorem c_in : cop S .isin x y = isIn S x (view S y) := by cases x <;> cases y <;> rfl
theorem c_nin : cop S .notin x y = (isIn S x (view S y)).map (! ·) := by cases x <;> cases y <;> rfl
theorem q_int : eqD (.int i) (.int j) = some (decide (i = j)) := by simp [eqD, D.okd, D.eqv]; exact int_beq i j
theorem q_str {z w : Str} : eqD (.str z) (.str w) = some (z == w) := rfl
theorem q_nn : eqD .non .non = some true := rfl
theorem q_ni : eqD .non (.int i) = some false := rfl
theorem q_in : eqD (.int i) .non = some false := rfl
theorem q_is {z : Str} : PyData.strOk z = true → eqD (.int i) (.str z) = some false := by intro h; simp [eqD, D.okd, D.eqv, h]
theorem q_nt {xs : List D} (h : (D.tup xs).okd 8 = true) : eqD .non (.tup xs) = some false := by
  simp only [eqD, h, show D.non.okd 8 = true from rfl, Bool.and_self, if_true]
  rfl
theorem q_le {xs : List D} (h : (D.lst xs).okd 8 = true) : eqD (.lst xs) (.lst []) = some xs.isEmpty := by
  unfold eqD
  simp only [h, show (D.lst []).okd 8 = true from rfl, Bool.and_self, if_true, D.eqv, eqvs_nil]
theorem ix_lst {xs : List D} : index S (.lst xs) (.int i) = getI xs i := rfl
theorem ix_tup {xs : List D} : index S (.tup xs) (.int i) = getI xs i := rfl
theorem ix_scr {ns : List Int} : index S (.scr ns) (.int i) = (getI ns i).map .int := rfl
theorem ix_ref {xs : List D} (h : S[n]? = some (.lst xs)) : index S (.ref n) (.int i) = getI xs i := by simp [index, view, h]
theorem ix_dicS {kvs : List (Key × D)} {z : Str} (h : S[n]? = some (.dic kvs)) : index S (.ref n) (.str z) = getK kvs (.inr z) := by simp [index, view, h, keyD]
theorem ix_dicI {kvs : List (Key × D)} (h : S[n]? = some (.dic kvs)) : index S (.ref n) (.int i) = getK kvs (.inl i) := by simp [index, view, h, keyD]
theorem g0 {a : α} {r : List α} : getI (a :: r) 0 = some a := getI_nat (j := 0) rfl
theorem g1 {a a1 : α} {r : List α} : getI (a :: a1 :: r) 1 = some a1 := getI_nat (j := 1) rfl
theorem g2 {a a1 a2 : α} {r : List α} : getI (a :: a1 :: a2 :: r) 2 = some a2 := getI_nat (j := 2) rfl
theorem g3 {a a1 a2 a3 : α} {r : List α} : getI (a :: a1 :: a2 :: a3 :: r) 3 = some a3 := getI_nat (j := 3) rfl
theorem b_lenL {xs : List D} : bi S .len [.lst xs] = some (.int xs.length) := rfl
theorem b_lenT {xs : List D} : bi S .len [.tup xs] = some (.int xs.length) := rfl
theorem b_lenS {ns : List Int} : bi S .len [.scr ns] = some (.int ns.length) := rfl
theorem b_lenR {xs : List D} (h : S[n]? = some (.lst xs)) : bi S .len [.ref n] = some (.int xs.length) := by simp [bi, view, h]
theorem b_max2 : bi S .max [.int i, .int j] = some (.int (max i j)) := by simp only [bi]; congr 2; omega
theorem b_min2 : bi S .min [.int i, .int j] = some (.int (min i j)) := by simp only [bi]; congr 2; omega
theorem b_max {ns : List Int} : bi S .max [.lst (intsL ns)] = (maxI ns).map .int := by simp only [bi, view, ints_some, Option.bind_some]
theorem b_min {ns : List Int} : bi S .min [.lst (intsL ns)] = (minI ns).map .int := by simp only [bi, view, ints_some, Option.bind_some]
theorem b_sum {ns : List Int} : bi S .sum [.lst (intsL ns)] = some (.int ns.sum) := by simp only [bi, view, ints_some, Option.map_some]
theorem b_sorted {ns : List Int} : bi S .sorted [.lst (intsL ns)] = some (.lst (intsL (sortI ns))) := by simp only [bi, view, ints_some, Option.map_some]; rfl
theorem b_int : bi S .int [.int i] = some (.int i) := rfl
theorem b_bool : bi S .int [.bl b] = some (.int (if b then 1 else 0)) := rfl
theorem b_tupL {xs : List D} : bi S .tuple [.lst xs] = some (.tup xs) := rfl
theorem b_tupT {xs : List D} : bi S .tuple [.tup xs] = some (.tup xs) := rfl
theorem b_lstL {xs : List D} : bi S .list [.lst xs] = some (.lst xs) := rfl
theorem b_lstT {xs : List D} : bi S .list [.tup xs] = some (.lst xs) := rfl
theorem b_abs : bi S .abs [.int i] = some (.int (if i < 0 then -i else i)) := rfl
theorem at_ {fs : List (Nat × D)} {k : Nat} {f : Nat} (h : S[n]? = some (.ins k fs)) : attr S (.ref n) f = fs.lookup f := by simp [attr, h]
theorem sat_ {fs : List (Nat × D)} {k : Nat} {f : Nat} (h : S[n]? = some (.ins k fs)) (hl : fs.length < 100) : setAttr S (.ref n) f d = some (S.set n (.ins k (putA f d fs))) := by simp [setAttr, h, hl]
theorem bm_app {xs : List D} (h : S[n]? = some (.lst xs)) (hl : xs.length < cap) : bm S .append (.ref n) [d] = some (.non, S.set n (.lst (xs ++ [d]))) := by simp [bm, h, hl]
theorem bm_ext {xs ys : List D} (h : S[n]? = some (.lst xs)) (hl : xs.length + ys.length ≤ cap) : bm S .extend (.ref n) [.lst ys] = some (.non, S.set n (.lst (xs ++ ys))) := by simp [bm, h, hl]
theorem fz_ {xs : List D} (h : S[n]? = some (.lst xs)) : freeze S (.ref n) = some (.lst xs, S.set n .dead) := by simp [freeze, h]
theorem sl_lst {xs : List D} {l h : Option Int} : slice S (.lst xs) l h = some (.lst (cutD xs l h)) := rfl
theorem sl_tup {xs : List D} {l h : Option Int} : slice S (.tup xs) l h = some (.tup (cutD xs l h)) := rfl
theorem pt_nil : partD [] = some none := rfl
theorem pt_int : partD [.int i] = some (some i) := rfl
theorem nD_non : nonD .non = true := rfl
theorem nD_int : nonD (.int i) = false := rfl
theorem nD_str {z : Str} : nonD (.str z) = false := rfl
theorem nD_tup {xs : List D} : nonD (.tup xs) = false := rfl
theorem nD_lst {xs : List D} : nonD (.lst xs) = false := rfl
theorem lk_same {k : Nat} {r : List (Nat × D)} : ((k, d) :: r).lookup k = some d := by simp [List.lookup]
theorem app_get {o : O} : (S ++ [o])[S.length]? = some o := by simp
theorem app_set {o u : O} : (S ++ [o]).set S.length u = S ++ [u] := by simp
theorem app_get1 {o : O} {r : Sto} : (S ++ o :: r)[S.length]? = some o := by simp
theorem app_set1 {o u : O} {r : Sto} : (S ++ o :: r).set S.length u = S ++ u :: r := by simp
theorem cut_drop {α : Type} (xs : List α) (j : Nat) (h : j ≤ xs.length) : cutD xs (some (j : Int)) none = xs.drop j := by
  unfold cutD
  rw [HT.sIx_nat, Nat.min_eq_left h, HT.sIx_none]
  exact List.take_of_length_le (by simp)
end
end Y

end

section
set_option Elab.async false
set_option linter.all false
set_option maxRecDepth 100000
set_option maxHeartbeats 4000000
namespace Y
open PySem L2
/-! ### fades -/
def absI (i : Int) : Int := if i < 0 then -i else i
def betw (f l t g : Int) : Int := if t ≤ g then l else if f ≤ l then f + absI (l - f) * g / t else f - absI (l - f) * g / t
theorem between_eq {T : Tab} (h : T.fn 21 = some f21_between) (k : Nat) (f l t g : Int) (hg : 0 ≤ g) (ht : t < 1000000000) (S : Sto) : callAt T (k + 1) 21 [.int f, .int l, .int t, .int g] S = .ok (.int (betw f l t g)) S := by
  rw [call_eq h rfl]
  simp only [f21_between, betw, absI]
  by_cases h1 : t ≤ g
  · simp [evCs, evC, evE, evEs, Y.F.of, Y.F.seq, tB, Env.get, Env.put, opt, isTys, isTy, cop, add_i, sub_i, mul_i, fdiv_i, mod_i, view, index, eqD, D.okd, D.eqv, D.eqvs, store, stores, nonD, bi, R.bind, partD, slice, cutD, keyD, isIn, flatD, putAll, attr, setAttr, setIdx, bm, freeze, intsD, blsD, int_beq, h1, D.noref]
  · have m : g.natAbs < 18446744073709551616 := by omega
    have q : ∀ w, bop .fdiv (.int w) (.int t) = some (.int (w / t)) := fun w => fdiv_i (by omega) (by omega)
    have q2 : ∀ w, bop .mul (.int w) (.int g) = some (.int (w * g)) := fun w => mul_i m
    by_cases h2 : f ≤ l
    · simp [evCs, evC, evE, evEs, Y.F.of, Y.F.seq, tB, Env.get, Env.put, opt, isTys, isTy, cop, add_i, sub_i, mul_i, fdiv_i, mod_i, view, index, eqD, D.okd, D.eqv, D.eqvs, store, stores, nonD, bi, R.bind, partD, slice, cutD, keyD, isIn, flatD, putAll, attr, setAttr, setIdx, bm, freeze, intsD, blsD, int_beq, h1, h2, q, q2, D.noref]
    · simp [evCs, evC, evE, evEs, Y.F.of, Y.F.seq, tB, Env.get, Env.put, opt, isTys, isTy, cop, add_i, sub_i, mul_i, fdiv_i, mod_i, view, index, eqD, D.okd, D.eqv, D.eqvs, store, stores, nonD, bi, R.bind, partD, slice, cutD, keyD, isIn, flatD, putAll, attr, setAttr, setIdx, bm, freeze, intsD, blsD, int_beq, h1, h2, q, q2, D.noref]
def fadeL (f l : Int) (t : Nat) : List Int := (List.range (t + 1)).map fun g => betw f l t (g : Nat)
theorem fade_eq {T : Tab} (h0 : T.fn 0 = some f0_is_count) (h21 : T.fn 21 = some f21_between) (h : T.fn 45 = some f45_fade) (k : Nat) (f l : Int) (t : Nat) (hf : 0 ≤ f ∧ f ≤ 100) (hl : 0 ≤ l ∧ l ≤ 100) (ht : t ≤ 50) (S : Sto) : callAt T (k + 2) 45 [.int f, .int l, .int t] S = .ok (.lst (intsL (fadeL f l t))) S := by
  rw [call_eq h rfl]
  have c0 : evE (RG T (k + 1)) f45_c0 [some (.int f), some (.int l), some (.int t), none] S = .ok (.lst (intsL (fadeL f l t))) S := by
    unfold f45_c0
    rw [comp_rng (n := t + 1) (g := fun d => match d with | .int g => .int (betw f l t g) | _ => .non)]
    · simp [intsL, fadeL, Function.comp]
    · simp [evCs, evC, evE, evEs, Y.F.of, Y.F.seq, tB, Env.get, Env.put, opt, isTys, isTy, cop, add_i, sub_i, mul_i, fdiv_i, mod_i, view, index, eqD, D.okd, D.eqv, D.eqvs, store, stores, nonD, bi, R.bind, partD, slice, cutD, keyD, isIn, flatD, putAll, attr, setAttr, setIdx, bm, freeze, intsD, blsD, int_beq]
    · exact le_cap (by omega)
    · intro j hj
      have := between_eq h21 k f l t j (by omega) (by omega) S
      simp [evCs, evC, evE, evEs, Y.F.of, Y.F.seq, tB, Env.get, Env.put, opt, isTys, isTy, cop, add_i, sub_i, mul_i, fdiv_i, mod_i, view, index, eqD, D.okd, D.eqv, D.eqvs, store, stores, nonD, bi, R.bind, partD, slice, cutD, keyD, isIn, flatD, putAll, attr, setAttr, setIdx, bm, freeze, intsD, blsD, int_beq, Env.wipe, this]
  have i0 := is_count h0 k (.int f) 0 100 S rfl
  have i1 := is_count h0 k (.int l) 0 100 S rfl
  have i2 := is_count h0 k (.int t) 0 50 S rfl
  have ht' : (t : Int) ≤ 50 := by omega
  have nr := norefs_ints (fadeL f l t)
  simp only [f45_fade]
  generalize intsL (fadeL f l t) = LL at *
  have ht0 : (0 : Int) ≤ t := by omega
  clear ht
  generalize (t : Int) = tt at *
  obtain ⟨cc, hcc⟩ : ∃ cc, cc = f45_c0 := ⟨_, rfl⟩; rw [← hcc] at c0 ⊢
  simp [evCs, evC, evE, evEs, Y.F.of, Y.F.seq, tB, Env.get, Env.put, opt, isTys, isTy, cop, add_i, sub_i, mul_i, fdiv_i, mod_i, view, index, eqD, D.okd, D.eqv, D.eqvs, store, stores, nonD, bi, R.bind, partD, slice, cutD, keyD, isIn, flatD, putAll, attr, setAttr, setIdx, bm, freeze, intsD, blsD, int_beq, i0, i1, i2, isCount, hf, hl, ht', ht0, c0, D.noref, nr]
theorem fade_bad {T : Tab} (h0 : T.fn 0 = some f0_is_count) (h : T.fn 45 = some f45_fade) (k : Nat) (a b c : D) (S : Sto) (pa : plainD a = true) (pb : plainD b = true) (pc : plainD c = true) (hb : isCount a 0 100 = false ∨ isCount b 0 100 = false ∨ isCount c 0 50 = false) : callAt T (k + 2) 45 [a, b, c] S = .exc 2 S := by
  rw [call_eq h rfl]
  have i0 := is_count h0 k a 0 100 S pa
  have i1 := is_count h0 k b 0 100 S pb
  have i2 := is_count h0 k c 0 50 S pc
  simp only [f45_fade]
  cases q1 : isCount a 0 100 <;> cases q2 : isCount b 0 100 <;> cases q3 : isCount c 0 50 <;> simp_all <;> simp [evCs, evC, evE, evEs, Y.F.of, Y.F.seq, tB, Env.get, Env.put, opt, isTys, isTy, cop, add_i, sub_i, mul_i, fdiv_i, mod_i, view, index, eqD, D.okd, D.eqv, D.eqvs, store, stores, nonD, bi, R.bind, partD, slice, cutD, keyD, isIn, flatD, putAll, attr, setAttr, setIdx, bm, freeze, intsD, blsD, int_beq, i0, i1, i2]
/-! ### first_tick -/
def pickP (f l lv : Int) (d : D) : Bool := match d with
  | .tup [_, .int v] => if f ≤ l then decide (lv ≤ v) else decide (v ≤ lv)
  | _ => false
def pickG (d : D) : D := match d with
  | .tup [i, _] => i
  | _ => .non
def enumD (xs : List D) : List D := (List.range xs.length).zip xs |>.map fun p => .tup [.int (p.1 : Nat), p.2]
def pickL (f l lv : Int) (xs : List Int) : List D := ((enumD (intsL xs)).filter (pickP f l lv)).map pickG
theorem enum_mem {xs : List Int} {d : D} (h : d ∈ enumD (intsL xs)) : ∃ (i : Nat) (v : Int), d = .tup [.int i, .int v] := by
  obtain ⟨p, hp, rfl⟩ := List.mem_map.mp h
  obtain ⟨i, w⟩ := p
  have := (List.of_mem_zip hp).2
  obtain ⟨v, _, rfl⟩ := List.mem_map.mp this
  exact ⟨i, v, rfl⟩
theorem pick_ne {f l lv : Int} {xs : List Int} {v : Int} (hv : v ∈ xs) (hp : if f ≤ l then lv ≤ v else v ≤ lv) : ∃ (i : Nat) (r : List D), pickL f l lv xs = .int i :: r := by
  obtain ⟨n, hn, rfl⟩ := List.mem_iff_getElem.mp hv
  have hm : D.tup [.int n, .int xs[n]] ∈ enumD (intsL xs) := by
    refine List.mem_map.mpr ⟨(n, .int xs[n]), ?_, rfl⟩
    refine List.mem_iff_getElem?.mpr ⟨n, ?_⟩
    rw [List.getElem?_zip_eq_some]
    simp [intsL, hn]
  have hm2 : D.tup [.int n, .int xs[n]] ∈ (enumD (intsL xs)).filter (pickP f l lv) := by
    refine List.mem_filter.mpr ⟨hm, ?_⟩
    simp only [pickP]
    by_cases h : f ≤ l
    · simp only [h, if_true] at hp ⊢; simpa using hp
    · simp only [h, if_false] at hp ⊢; simpa using hp
  unfold pickL
  cases hc : (enumD (intsL xs)).filter (pickP f l lv) with
  | nil => rw [hc] at hm2; cases hm2
  | cons d r =>
    have : d ∈ enumD (intsL xs) := (List.mem_filter.mp (hc ▸ List.mem_cons_self : d ∈ (enumD (intsL xs)).filter (pickP f l lv))).1
    obtain ⟨i, v, rfl⟩ := enum_mem this
    exact ⟨i, r.map pickG, rfl⟩
theorem fade_last (f l : Int) (t : Nat) : l ∈ fadeL f l t := by
  refine List.mem_map.mpr ⟨t, by simp, ?_⟩
  simp [betw]
theorem fade_head (f l : Int) (t : Nat) : ∃ r, fadeL f l t = (if t = 0 then l else f) :: r := by
  unfold fadeL
  rw [List.range_succ_eq_map, List.map_cons]
  refine ⟨List.map (fun g : Nat => betw f l t g) (List.map Nat.succ (List.range t)), ?_⟩
  congr 1
  by_cases h : t = 0
  · subst h; simp [betw]
  · have : ¬ (t : Int) ≤ 0 := by omega
    simp [betw, h, this]
/-- a level that is on the way -/
def onWay (f l : Int) (t : Nat) (lv : Int) : Prop := min (if t = 0 then l else f) l ≤ lv ∧ lv ≤ max (if t = 0 then l else f) l
instance (f l : Int) (t : Nat) (lv : Int) : Decidable (onWay f l t lv) := by unfold onWay; infer_instance
theorem on_pick {f l lv : Int} {t : Nat} (h : onWay f l t lv) : ∃ (i : Nat) (r : List D), pickL f l lv (fadeL f l t) = .int i :: r := by
  refine pick_ne (fade_last f l t) ?_
  unfold onWay at h
  by_cases h1 : f ≤ l
  · simp only [h1, if_true]; split at h <;> omega
  · simp only [h1, if_false]; split at h <;> omega
def tickD (f l : Int) (t : Nat) (lv : Int) : D := if onWay f l t lv then (pickL f l lv (fadeL f l t)).headD .non else .non
theorem min_if (a b : Int) : (if b < a then b else a) = min a b := by omega
theorem max_if (a b : Int) : (if b > a then b else a) = max a b := by omega
theorem max_if' (a b : Int) : (if a < b then b else a) = max a b := by omega
theorem first_tick_eq {T : Tab} (h0 : T.fn 0 = some f0_is_count) (h21 : T.fn 21 = some f21_between) (h45 : T.fn 45 = some f45_fade) (h : T.fn 46 = some f46_first_tick) (k : Nat) (f l lv : Int) (t : Nat) (hf : 0 ≤ f ∧ f ≤ 100) (hl : 0 ≤ l ∧ l ≤ 100) (ht : t ≤ 50) (hv : 0 ≤ lv ∧ lv ≤ 100) (S : Sto) : callAt T (k + 3) 46 [.int f, .int l, .int t, .int lv] S = .ok (tickD f l t lv) S := by
  rw [call_eq h rfl]
  have e1 := fade_eq h0 h21 h45 k f l t hf hl ht S
  obtain ⟨r, hr⟩ := fade_head f l t
  have hg : getI (intsL (fadeL f l t)) 0 = some (.int (if t = 0 then l else f)) := by rw [hr]; exact ints_get0
  have c0 : evE (RG T (k + 2)) f46_c0 [some (.int f), some (.int l), some (.int t), some (.int lv), some (.lst (intsL (fadeL f l t))), none, none, none] S = .ok (.lst (pickL f l lv (fadeL f l t))) S := by
    unfold f46_c0
    refine comp_ok (ds := [.lst (intsL (fadeL f l t))]) (its := enumD (intsL (fadeL f l t))) (p := pickP f l lv) (g := pickG) rfl rfl fun d hd => ?_
    obtain ⟨i, v, rfl⟩ := enum_mem hd
    refine ⟨_, rfl, ?_, fun _ => rfl⟩
    by_cases h1 : f ≤ l
    · simp [evCs, evC, evE, evEs, Y.F.of, Y.F.seq, tB, Env.get, Env.put, opt, isTys, isTy, cop, add_i, sub_i, mul_i, fdiv_i, mod_i, view, index, eqD, D.okd, D.eqv, D.eqvs, store, stores, nonD, bi, R.bind, partD, slice, cutD, keyD, isIn, flatD, putAll, attr, setAttr, setIdx, bm, freeze, intsD, blsD, int_beq, Env.wipe, h1, pickP]
    · simp [evCs, evC, evE, evEs, Y.F.of, Y.F.seq, tB, Env.get, Env.put, opt, isTys, isTy, cop, add_i, sub_i, mul_i, fdiv_i, mod_i, view, index, eqD, D.okd, D.eqv, D.eqvs, store, stores, nonD, bi, R.bind, partD, slice, cutD, keyD, isIn, flatD, putAll, attr, setAttr, setIdx, bm, freeze, intsD, blsD, int_beq, Env.wipe, h1, pickP]
  have i0 := is_count h0 (k + 1) (.int lv) 0 100 S rfl
  simp only [f46_first_tick, tickD]
  generalize hF : fadeL f l t = FL at *
  generalize hH : (if t = 0 then l else f) = hd at *
  by_cases ho : onWay f l t lv
  · obtain ⟨i, r', hp⟩ := hF ▸ on_pick ho
    have ho' := ho
    unfold onWay at ho
    rw [hH] at ho
    rw [hp] at c0 ⊢
    have hg0 : getI (D.int i :: r') 0 = some (.int i) := getI_nat (j := 0) rfl
    simp [evCs, evC, evE, evEs, Y.F.of, Y.F.seq, tB, Env.get, Env.put, opt, isTys, isTy, cop, add_i, sub_i, mul_i, fdiv_i, mod_i, view, index, eqD, D.okd, D.eqv, D.eqvs, store, stores, nonD, bi, R.bind, partD, slice, cutD, keyD, isIn, flatD, putAll, attr, setAttr, setIdx, bm, freeze, intsD, blsD, int_beq, e1, i0, isCount, hv, hg, min_if, max_if', ho, ho', c0, hg0, D.noref]
  · have ho' := ho
    unfold onWay at ho
    rw [hH] at ho
    by_cases h2 : min hd l ≤ lv
    · have h3 : ¬ lv ≤ max hd l := fun z => ho ⟨h2, z⟩
      simp [evCs, evC, evE, evEs, Y.F.of, Y.F.seq, tB, Env.get, Env.put, opt, isTys, isTy, cop, add_i, sub_i, mul_i, fdiv_i, mod_i, view, index, eqD, D.okd, D.eqv, D.eqvs, store, stores, nonD, bi, R.bind, partD, slice, cutD, keyD, isIn, flatD, putAll, attr, setAttr, setIdx, bm, freeze, intsD, blsD, int_beq, e1, i0, isCount, hv, hg, min_if, max_if', h2, h3, ho', D.noref]
    · simp [evCs, evC, evE, evEs, Y.F.of, Y.F.seq, tB, Env.get, Env.put, opt, isTys, isTy, cop, add_i, sub_i, mul_i, fdiv_i, mod_i, view, index, eqD, D.okd, D.eqv, D.eqvs, store, stores, nonD, bi, R.bind, partD, slice, cutD, keyD, isIn, flatD, putAll, attr, setAttr, setIdx, bm, freeze, intsD, blsD, int_beq, e1, i0, isCount, hv, hg, min_if, max_if', h2, ho', D.noref]
/-! ### _law_row -/
def rowL (f l : Int) (t : Nat) : List Int := if t = 0 then [l] else (List.range (t + 1)).map fun (g : Nat) => if f < l then f + (max f l - min f l) * g / t else f - (max f l - min f l) * g / t
theorem row_fade (f l : Int) (t : Nat) : rowL f l t = fadeL f l t := by
  unfold rowL fadeL
  by_cases h : t = 0
  · subst h; simp [betw, List.range_succ]
  · rw [if_neg h]
    refine List.map_congr_left fun g hg => ?_
    have hg : g < t + 1 := List.mem_range.mp hg
    have ha : absI (l - f) = max f l - min f l := by unfold absI; split <;> omega
    unfold betw
    rw [ha]
    by_cases h1 : (t : Int) ≤ g
    · have : g = t := by omega
      subst this
      rw [if_pos h1, Int.mul_ediv_cancel _ (by omega)]
      split <;> omega
    · rw [if_neg h1]
      by_cases h2 : f < l
      · rw [if_pos h2, if_pos (by omega)]
      · rw [if_neg h2]
        by_cases h3 : f ≤ l
        · have : f = l := by omega
          subst this
          simp
        · rw [if_neg h3]
theorem law_row_eq {T : Tab} (h : T.fn 47 = some f47_law_row) (k : Nat) (f l : Int) (t : Nat) (ht : t ≤ 1000) (S : Sto) : callAt T (k + 1) 47 [.int f, .int l, .int t] S = .ok (.lst (intsL (fadeL f l t))) S := by
  rw [call_eq h rfl, ← row_fade]
  by_cases h0 : t = 0
  · subst h0
    simp only [f47_law_row, rowL]
    simp [evCs, evC, evE, evEs, Y.F.of, Y.F.seq, tB, Env.get, Env.put, opt, isTys, isTy, cop, add_i, sub_i, mul_i, fdiv_i, mod_i, view, index, eqD, D.okd, D.eqv, D.eqvs, store, stores, nonD, bi, R.bind, partD, slice, cutD, keyD, isIn, flatD, putAll, attr, setAttr, setIdx, bm, freeze, intsD, blsD, int_beq, D.noref, D.norefs, intsL]
  · have q : ∀ i : Int, bop .fdiv (.int i) (.int t) = some (.int (i / t)) := fun i => fdiv_i (by omega) (by omega)
    have h0' : ¬ (t : Int) = 0 := by omega
    obtain ⟨env2, S2, h1, h2⟩ := forL_inv (tg := [4]) (tp := false) (body := fun env S => evCs (RG T k) f47_b0 env S) (fun i env S' => ∃ e4 e5, env = [some (.int f), some (.int l), some (.int t), some (.ref S.length), e4, e5] ∧ S' = S ++ [.lst (intsL ((List.range i).map fun (g : Nat) => if f < l then f + (max f l - min f l) * g / t else f - (max f l - min f l) * g / t))]) (rng (t + 1)) 0 [some (.int f), some (.int l), some (.int t), some (.ref S.length), none, none] (S ++ [.lst []]) ⟨none, none, rfl, rfl⟩ (by
      rintro j d env S' hd ⟨e4, e5, rfl, rfl⟩
      obtain ⟨rfl, hj⟩ := rng_at hd
      simp only [Nat.zero_add]
      have hl : (intsL ((List.range j).map fun (g : Nat) => if f < l then f + (max f l - min f l) * g / t else f - (max f l - min f l) * g / t)).length < cap := by simp [intsL, cap]; omega
      have q2 : ∀ i : Int, bop .mul (.int i) (.int j) = some (.int (i * j)) := fun i => mul_i (by omega)
      refine ⟨_, [some (.int f), some (.int l), some (.int t), some (.ref S.length), some (.int j), some (.int ((max f l - min f l) * j / t))], _, rfl, ?_, _, _, rfl, rfl⟩
      rw [List.range_succ, List.map_append, ints_app]
      generalize intsL ((List.range j).map fun (g : Nat) => if f < l then f + (max f l - min f l) * g / t else f - (max f l - min f l) * g / t) = LL at *
      simp only [f47_b0, List.map_cons, List.map_nil, intsL]
      by_cases h3 : f < l
      · have w1 : max f l = l := by omega
        have w2 : min f l = f := by omega
        rw [w1, w2]
        simp [evCs, evC, evE, evEs, Y.F.of, Y.F.seq, tB, Env.get, Env.put, opt, isTys, isTy, cop, add_i, sub_i, mul_i, fdiv_i, mod_i, view, index, eqD, D.okd, D.eqv, D.eqvs, store, stores, nonD, bi, R.bind, partD, slice, cutD, keyD, isIn, flatD, putAll, attr, setAttr, setIdx, bm, freeze, intsD, blsD, int_beq, q, q2, min_if, max_if', h3, hl, w1, w2]
      · have w1 : max f l = f := by omega
        have w2 : min f l = l := by omega
        rw [w1, w2]
        simp [evCs, evC, evE, evEs, Y.F.of, Y.F.seq, tB, Env.get, Env.put, opt, isTys, isTy, cop, add_i, sub_i, mul_i, fdiv_i, mod_i, view, index, eqD, D.okd, D.eqv, D.eqvs, store, stores, nonD, bi, R.bind, partD, slice, cutD, keyD, isIn, flatD, putAll, attr, setAttr, setIdx, bm, freeze, intsD, blsD, int_beq, q, q2, min_if, max_if', h3, hl, w1, w2])
    obtain ⟨e4, e5, rfl, rfl⟩ := h2
    have hf : evC (RG T k) f47_l0 [some (.int f), some (.int l), some (.int t), some (.ref S.length), none, none] (S ++ [.lst []]) = _ := (for_rng (n := t + 1) (by simp [evCs, evC, evE, evEs, Y.F.of, Y.F.seq, tB, Env.get, Env.put, opt, isTys, isTy, cop, add_i, sub_i, mul_i, fdiv_i, mod_i, view, index, eqD, D.okd, D.eqv, D.eqvs, store, stores, nonD, bi, R.bind, partD, slice, cutD, keyD, isIn, flatD, putAll, attr, setAttr, setIdx, bm, freeze, intsD, blsD, int_beq]) (le_cap (by omega))).trans h1
    rw [rng_len, Nat.zero_add] at hf
    simp only [f47_law_row, rowL, h0, if_false]
    have hr := norefs_ints ((List.range (t + 1)).map fun (g : Nat) => if f < l then f + (max f l - min f l) * g / t else f - (max f l - min f l) * g / t)
    generalize intsL ((List.range (t + 1)).map fun (g : Nat) => if f < l then f + (max f l - min f l) * g / t else f - (max f l - min f l) * g / t) = LL at *
    clear h0 h1 q ht
    generalize (t : Int) = tt at *
    obtain ⟨cc, hcc⟩ : ∃ cc, cc = f47_l0 := ⟨_, rfl⟩; rw [← hcc] at hf ⊢
    simp [evCs, evC, evE, evEs, Y.F.of, Y.F.seq, tB, Env.get, Env.put, opt, isTys, isTy, cop, add_i, sub_i, mul_i, fdiv_i, mod_i, view, index, eqD, D.okd, D.eqv, D.eqvs, store, stores, nonD, bi, R.bind, partD, slice, cutD, keyD, isIn, flatD, putAll, attr, setAttr, setIdx, bm, freeze, intsD, blsD, int_beq, h0', hf, D.noref, hr]
end Y

end

section
set_option Elab.async false
set_option linter.all false
set_option maxRecDepth 100000
set_option maxHeartbeats 4000000
namespace Y
open PySem L2
/-! ### fades as they go -/
theorem absI_nn (i : Int) : 0 ≤ absI i := by unfold absI; split <;> omega
theorem betw_in {f l t g : Int} (ht : 0 < t) (hg : 0 ≤ g) (h : g ≤ t) : betw f l t g = if f ≤ l then f + absI (l - f) * g / t else f - absI (l - f) * g / t := by
  unfold betw
  by_cases h1 : t ≤ g
  · have : g = t := by omega
    subst this
    rw [if_pos (by omega), Int.mul_ediv_cancel _ (by omega)]
    unfold absI
    split <;> split <;> omega
  · rw [if_neg h1]
theorem mul_div_le {a g t : Int} (ha : 0 ≤ a) (ht : 0 < t) (h : g ≤ t) : a * g / t ≤ a := by
  refine Int.ediv_le_of_le_mul ht ?_
  exact Int.mul_le_mul_of_nonneg_left h ha
theorem mul_div_mono {a g g' t : Int} (ha : 0 ≤ a) (ht : 0 < t) (h : g ≤ g') : a * g / t ≤ a * g' / t :=
  Int.ediv_le_ediv ht (Int.mul_le_mul_of_nonneg_left h ha)
theorem betw_mono {f l t g g' : Int} (hf : f ≤ l) (hg : 0 ≤ g) (h : g ≤ g') : betw f l t g ≤ betw f l t g' := by
  have ha := absI_nn (l - f)
  have e : absI (l - f) = l - f := by unfold absI; split <;> omega
  unfold betw
  by_cases h1 : t ≤ g
  · rw [if_pos h1, if_pos (by omega)]; omega
  · rw [if_neg h1, if_pos hf]
    by_cases h2 : t ≤ g'
    · rw [if_pos h2]
      have := mul_div_le (g := g) ha (show 0 < t by omega) (by omega)
      omega
    · rw [if_neg h2, if_pos hf]
      have := mul_div_mono (t := t) ha (show 0 < t by omega) h
      omega
theorem betw_anti {f l t g g' : Int} (hf : ¬ f ≤ l) (hg : 0 ≤ g) (h : g ≤ g') : betw f l t g' ≤ betw f l t g := by
  have ha := absI_nn (l - f)
  have e : absI (l - f) = f - l := by unfold absI; split <;> omega
  unfold betw
  by_cases h1 : t ≤ g
  · rw [if_pos h1, if_pos (by omega)]; omega
  · rw [if_neg h1, if_neg hf]
    by_cases h2 : t ≤ g'
    · rw [if_pos h2]
      have := mul_div_le (g := g) ha (show 0 < t by omega) (by omega)
      omega
    · rw [if_neg h2, if_neg hf]
      have := mul_div_mono (t := t) ha (show 0 < t by omega) h
      omega
theorem sort_of_sorted {xs : List Int} (h : xs.Pairwise (· ≤ ·)) : sortI xs = xs :=
  List.Perm.eq_of_pairwise (le := (· ≤ ·)) (fun a b _ _ h1 h2 => by omega) (sortI_sorted xs) h (sortI_perm xs)
theorem sort_of_anti {xs : List Int} (h : xs.Pairwise (fun a b => b ≤ a)) : sortI xs = xs.reverse :=
  List.Perm.eq_of_pairwise (le := (· ≤ ·)) (fun a b _ _ h1 h2 => by omega) (sortI_sorted xs) (List.pairwise_reverse.mpr h) ((sortI_perm xs).trans (List.reverse_perm xs).symm)
theorem sort_fade (f l : Int) (t : Nat) : sortI (fadeL f l t) = fadeL f l t ∨ sortI (fadeL f l t) = (fadeL f l t).reverse := by
  by_cases h : f ≤ l
  · refine .inl (sort_of_sorted ?_)
    exact List.pairwise_map.mpr (List.pairwise_lt_range.imp fun hab => betw_mono h (by omega) (by omega))
  · refine .inr (sort_of_anti ?_)
    exact List.pairwise_map.mpr (List.pairwise_lt_range.imp fun hab => betw_anti h (by omega) (by omega))
theorem betw_step {f l t g : Int} (ht : 0 < t) (hg : 0 ≤ g) (h : g + 1 ≤ t) : absI (betw f l t g - betw f l t (g + 1)) ≤ (absI (l - f) + t - 1) / t := by
  rw [betw_in ht hg (by omega), betw_in ht (by omega) h]
  have ha := absI_nn (l - f)
  generalize absI (l - f) = a at *
  have m := mul_div_mono (t := t) ha ht (show g ≤ g + 1 by omega)
  have q : a ≤ (a + t - 1) / t * t := by
    have := Int.mul_ediv_add_emod (a + t - 1) t
    have b := Int.emod_lt_of_pos (a + t - 1) ht
    have c : t * ((a + t - 1) / t) = (a + t - 1) / t * t := Int.mul_comm _ _
    omega
  have u : a * (g + 1) / t ≤ a * g / t + (a + t - 1) / t := by
    rw [← Int.add_mul_ediv_right _ _ (by omega : t ≠ 0)]
    refine Int.ediv_le_ediv ht ?_
    rw [Int.mul_add]
    omega
  unfold absI
  by_cases h1 : f ≤ l
  · rw [if_pos h1, if_pos h1]; split <;> omega
  · rw [if_neg h1, if_neg h1]; split <;> omega
theorem betw_flip {f l t g : Int} : betw (100 - f) (100 - l) t g = 100 - betw f l t g := by
  have e : absI (100 - l - (100 - f)) = absI (l - f) := by unfold absI; split <;> split <;> omega
  unfold betw
  rw [e]
  by_cases h1 : t ≤ g
  · rw [if_pos h1, if_pos h1]
  · rw [if_neg h1, if_neg h1]
    by_cases h2 : f ≤ l
    · rw [if_pos h2]
      by_cases h3 : 100 - f ≤ 100 - l
      · have : f = l := by omega
        subst this
        rw [if_pos h3]
        simp [absI]
      · rw [if_neg h3]; omega
    · rw [if_neg h2, if_pos (by omega)]; omega
theorem fade_flip (f l : Int) (t : Nat) : (fadeL f l t).map (fun x => 100 - x) = fadeL (100 - f) (100 - l) t := by
  unfold fadeL
  rw [List.map_map]
  exact List.map_congr_left fun g _ => betw_flip.symm
theorem fade_len (f l : Int) (t : Nat) : (fadeL f l t).length = t + 1 := by simp [fadeL]
theorem fade_at (f l : Int) (t g : Nat) (h : g < (fadeL f l t).length) : (fadeL f l t)[g] = betw f l t g := by simp [fadeL]
def stepsL (xs : List Int) : List Int := (xs.dropLast.zip (xs.drop 1)).map fun p => absI (p.1 - p.2)
theorem steps_le (f l : Int) (t : Nat) (ht : 0 < t) : ∀ s ∈ stepsL (fadeL f l t), s ≤ (absI (l - f) + t - 1) / t := by
  intro s hs
  obtain ⟨i, hi, rfl⟩ := List.mem_iff_getElem.mp hs
  simp only [stepsL, List.length_map, List.length_zip, List.length_dropLast, List.length_drop, fade_len] at hi
  simp only [stepsL, List.getElem_map, List.getElem_zip, List.getElem_dropLast, List.getElem_drop, fade_at]
  have := betw_step (f := f) (l := l) (t := t) (g := i) (by omega) (by omega) (by omega)
  rw [show ((1 + i : Nat) : Int) = (i : Int) + 1 by omega]
  exact this
theorem max_mem : ∀ (xs : List Int) (x : Int), xs.foldl max x = x ∨ xs.foldl max x ∈ xs
  | [], x => .inl rfl
  | y :: xs, x => by
    rw [List.foldl_cons]
    rcases max_mem xs (max x y) with h | h
    · rw [h]
      by_cases hxy : x ≤ y
      · right; rw [show max x y = y by omega]; simp
      · left; omega
    · right; simp [h]
theorem maxI_le {xs : List Int} {b m : Int} (h : ∀ x ∈ xs, x ≤ b) (hm : maxI xs = some m) : m ≤ b := by
  cases xs with
  | nil => cases hm
  | cons x xs =>
    simp only [maxI, Option.some.injEq] at hm
    subst hm
    rcases max_mem xs x with e | e
    · rw [e]; exact h x (by simp)
    · exact h _ (by simp [e])
theorem cut_last {α : Type} (xs : List α) : cutD xs none (some (-1)) = xs.dropLast := by
  unfold cutD HT.sIx
  rw [List.dropLast_eq_take]
  cases xs <;> simp <;> omega
theorem cut_tail {α : Type} (xs : List α) (h : xs ≠ []) : cutD xs (some 1) none = xs.drop 1 := by
  unfold cutD HT.sIx
  cases xs with
  | nil => exact absurd rfl h
  | cons x xs => simp
end Y

end

section
set_option Elab.async false
set_option linter.all false
set_option maxRecDepth 100000
set_option maxHeartbeats 4000000
namespace Y
open PySem L2
/-! ### words -/
inductive Ak where | all | short | group deriving DecidableEq
inductive Nm where | level | off | up | down | scene | askL | askG | fade | join | leave | store | forget deriving DecidableEq
structure Adr where
  k : Ak
  n : Int
  deriving DecidableEq
structure Cmd where
  nm : Nm
  n : Int
  deriving DecidableEq
structure Wrd where
  a : Adr
  c : Cmd
  deriving DecidableEq
def akS : Ak → Str
  | .all => "all"
  | .short => "short"
  | .group => "group"
def nmS : Nm → Str
  | .level => "level"
  | .off => "off"
  | .up => "up"
  | .down => "down"
  | .scene => "scene"
  | .askL => "level?"
  | .askG => "group?"
  | .fade => "fade"
  | .join => "join"
  | .leave => "leave"
  | .store => "store"
  | .forget => "forget"
/-- how great its number may be, if it has one -/
def Nm.bnd : Nm → Option Int
  | .level => some 100
  | .scene => some 7
  | .askG => some 7
  | .fade => some 50
  | .join => some 7
  | .leave => some 7
  | .store => some 7
  | .forget => some 7
  | _ => none
def Ak.bnd : Ak → Option Int
  | .all => none
  | .short => some 15
  | .group => some 7
def Nm.twice : Nm → Bool
  | .fade | .join | .leave | .store | .forget => true
  | _ => false
def Cmd.ok (c : Cmd) : Prop := match c.nm.bnd with
  | some b => 0 ≤ c.n ∧ c.n ≤ b
  | none => c.n = 0
def Adr.ok (a : Adr) : Prop := match a.k.bnd with
  | some b => 0 ≤ a.n ∧ a.n ≤ b
  | none => a.n = 0
def Wrd.ok (w : Wrd) : Prop := w.a.ok ∧ w.c.ok
def cmdD (c : Cmd) : D := if c.nm.bnd.isSome then .tup [.str (nmS c.nm), .int c.n] else .tup [.str (nmS c.nm)]
def adrD (a : Adr) : D := if a.k.bnd.isSome then .tup [.str (akS a.k), .int a.n] else .tup [.str (akS a.k)]
def wordD (w : Wrd) : D := .tup [adrD w.a, cmdD w.c]
theorem nmS_ok (x : Nm) : PyData.strOk (nmS x) = true := by cases x <;> decide +kernel
theorem akS_ok (x : Ak) : PyData.strOk (akS x) = true := by cases x <;> decide +kernel
theorem nmS_beq (x y : Nm) : (nmS x == nmS y) = decide (x = y) := by cases x <;> cases y <;> decide +kernel
theorem akS_beq (x y : Ak) : (akS x == akS y) = decide (x = y) := by cases x <;> cases y <;> decide +kernel
theorem okd_cmd (c : Cmd) (n : Nat) : (cmdD c).okd (n + 1) = true := by
  unfold cmdD
  split <;> simp only [D.okd, List.all_cons, List.all_nil, nmS_ok, Bool.and_self]
theorem okd_adr (c : Adr) (n : Nat) : (adrD c).okd (n + 1) = true := by
  unfold adrD
  split <;> simp only [D.okd, List.all_cons, List.all_nil, akS_ok, Bool.and_self]
theorem okd_word (w : Wrd) (n : Nat) : (wordD w).okd (n + 2) = true := by
  simp only [wordD, D.okd, List.all_cons, List.all_nil, okd_cmd, okd_adr, Bool.and_self]
theorem eqv_cmd {a b : Cmd} (ha : a.ok) (hb : b.ok) : (cmdD a).eqv (cmdD b) = decide (a = b) := by
  obtain ⟨x, i⟩ := a
  obtain ⟨y, j⟩ := b
  unfold Cmd.ok at ha hb
  unfold cmdD
  by_cases h : x = y
  · subst h
    cases hx : x.bnd with
    | none => simp_all [D.eqv, D.eqvs]
    | some v => simp [hx, D.eqv, D.eqvs, int_beq]
  · have h2 := nmS_beq x y
    rw [decide_eq_false h] at h2
    cases hx : x.bnd <;> cases hy : y.bnd <;> simp [hx, hy, D.eqv, D.eqvs, h2, h]
theorem eqv_adr {a b : Adr} (ha : a.ok) (hb : b.ok) : (adrD a).eqv (adrD b) = decide (a = b) := by
  obtain ⟨x, i⟩ := a
  obtain ⟨y, j⟩ := b
  unfold Adr.ok at ha hb
  unfold adrD
  by_cases h : x = y
  · subst h
    cases hx : x.bnd with
    | none => simp_all [D.eqv, D.eqvs]
    | some v => simp [hx, D.eqv, D.eqvs, int_beq]
  · have h2 := akS_beq x y
    rw [decide_eq_false h] at h2
    cases hx : x.bnd <;> cases hy : y.bnd <;> simp [hx, hy, D.eqv, D.eqvs, h2, h]
theorem eqv_word {a b : Wrd} (ha : a.ok) (hb : b.ok) : (wordD a).eqv (wordD b) = decide (a = b) := by
  obtain ⟨x, i⟩ := a
  obtain ⟨y, j⟩ := b
  simp only [wordD, D.eqv, D.eqvs, eqv_adr ha.1 hb.1, eqv_cmd ha.2 hb.2, Bool.and_true]
  simp
def heardD : Option Wrd → D
  | none => .non
  | some w => wordD w
theorem eqD_heard {h : Option Wrd} {w : Wrd} (hh : ∀ v, h = some v → v.ok) (hw : w.ok) : eqD (heardD h) (wordD w) = some (decide (h = some w)) := by
  cases h with
  | none => exact q_nt (okd_word w 6)
  | some v =>
    have h1 := okd_word v 6
    have h2 := okd_word w 6
    have h3 := eqv_word (hh v rfl) hw
    simp only [heardD, Option.some.injEq]
    unfold wordD at *
    simp only [eqD, h1, h2, Bool.and_self, if_true, h3]
/-! ### what names are -/
def twS : List Str := ["fade", "join", "leave", "store", "forget"]
theorem nm_twice (S : Sto) (x : Nm) : isIn S (.str (nmS x)) (.tup [.str "fade", .str "join", .str "leave", .str "store", .str "forget"]) = some x.twice := by cases x <;> rfl
theorem nm_q (x : Nm) (y : Nm) (z : Str) (hz : nmS y = z) : eqD (.str (nmS x)) (.str z) = some (decide (x = y)) := by
  subst hz
  rw [q_str, nmS_beq]
theorem ak_q (x : Ak) (y : Ak) (z : Str) (hz : akS y = z) : eqD (.str (akS x)) (.str z) = some (decide (x = y)) := by
  subst hz
  rw [q_str, akS_beq]
theorem nm_askL (x : Nm) : eqD (.str (nmS x)) (.str "level?") = some (decide (x = .askL)) := nm_q x .askL _ rfl
theorem nm_askG (x : Nm) : eqD (.str (nmS x)) (.str "group?") = some (decide (x = .askG)) := nm_q x .askG _ rfl
theorem nm_level (x : Nm) : eqD (.str (nmS x)) (.str "level") = some (decide (x = .level)) := nm_q x .level _ rfl
theorem nm_scene (x : Nm) : eqD (.str (nmS x)) (.str "scene") = some (decide (x = .scene)) := nm_q x .scene _ rfl
theorem nm_off (x : Nm) : eqD (.str (nmS x)) (.str "off") = some (decide (x = .off)) := nm_q x .off _ rfl
theorem nm_up (x : Nm) : eqD (.str (nmS x)) (.str "up") = some (decide (x = .up)) := nm_q x .up _ rfl
theorem nm_fade (x : Nm) : eqD (.str (nmS x)) (.str "fade") = some (decide (x = .fade)) := nm_q x .fade _ rfl
theorem nm_join (x : Nm) : eqD (.str (nmS x)) (.str "join") = some (decide (x = .join)) := nm_q x .join _ rfl
theorem nm_leave (x : Nm) : eqD (.str (nmS x)) (.str "leave") = some (decide (x = .leave)) := nm_q x .leave _ rfl
theorem nm_store (x : Nm) : eqD (.str (nmS x)) (.str "store") = some (decide (x = .store)) := nm_q x .store _ rfl
theorem nm_forget (x : Nm) : eqD (.str (nmS x)) (.str "forget") = some (decide (x = .forget)) := nm_q x .forget _ rfl
theorem ak_all (x : Ak) : eqD (.str (akS x)) (.str "all") = some (decide (x = .all)) := ak_q x .all _ rfl
theorem ak_short (x : Ak) : eqD (.str (akS x)) (.str "short") = some (decide (x = .short)) := ak_q x .short _ rfl
theorem cmd_0 (c : Cmd) (S : Sto) : index S (cmdD c) (.int 0) = some (.str (nmS c.nm)) := by
  unfold cmdD
  split <;> exact g0
theorem cmd_1 (c : Cmd) (S : Sto) (h : c.nm.bnd.isSome = true) : index S (cmdD c) (.int 1) = some (.int c.n) := by
  unfold cmdD
  rw [if_pos h]
  exact g1
theorem adr_0 (c : Adr) (S : Sto) : index S (adrD c) (.int 0) = some (.str (akS c.k)) := by
  unfold adrD
  split <;> exact g0
theorem adr_1 (c : Adr) (S : Sto) (h : c.k.bnd.isSome = true) : index S (adrD c) (.int 1) = some (.int c.n) := by
  unfold adrD
  rw [if_pos h]
  exact g1
theorem vw_cmd (c : Cmd) (S : Sto) : view S (cmdD c) = cmdD c := view_ok (okd_cmd c 0) S
theorem vw_adr (c : Adr) (S : Sto) : view S (adrD c) = adrD c := view_ok (okd_adr c 0) S
theorem vw_word (c : Wrd) (S : Sto) : view S (wordD c) = wordD c := view_ok (okd_word c 0) S
/-! ### lamps -/
structure Own where
  lg : Int
  sh : Option Int
  lo : Int
  hi : Int
  deriving DecidableEq
def shD : Option Int → D
  | none => .non
  | some i => .int i
def ownD (o : Own) : D := .tup [.int o.lg, shD o.sh, .int o.lo, .int o.hi]
structure Lmp where
  own : Own
  first : Int
  goal : Int
  ticks : Int
  gone : Int
  time : Int
  groups : List Int
  scenes : List (Int × Int)
  heard : Option Wrd
  ago : Int
def scD (sc : List (Int × Int)) : List (Key × D) := sc.map fun p => (.inl p.1, .int p.2)
def lampO (r : Nat) (s : Lmp) : O := .ins 0 [(9, ownD s.own), (1, .int s.first), (2, .int s.goal), (13, .int s.ticks), (3, .int s.gone), (0, .int s.time), (4, .lst (intsL s.groups)), (11, .ref r), (5, heardD s.heard), (6, .int s.ago)]
/-- a store with a lamp in it -/
def LS (A : Sto) (s : Lmp) (B : Sto) : Sto := A ++ lampO (A.length + 1) s :: .dic (scD s.scenes) :: B
section
variable {A B : Sto} {s : Lmp}
theorem ls_0 : (LS A s B)[A.length]? = some (lampO (A.length + 1) s) := by simp [LS]
theorem ls_1 : (LS A s B)[A.length + 1]? = some (.dic (scD s.scenes)) := by simp [LS]
theorem la_9 : attr (LS A s B) (.ref A.length) 9 = some (ownD s.own) := by rw [at_ ls_0]; rfl
theorem la_1 : attr (LS A s B) (.ref A.length) 1 = some (.int s.first) := by rw [at_ ls_0]; rfl
theorem la_2 : attr (LS A s B) (.ref A.length) 2 = some (.int s.goal) := by rw [at_ ls_0]; rfl
theorem la_13 : attr (LS A s B) (.ref A.length) 13 = some (.int s.ticks) := by rw [at_ ls_0]; rfl
theorem la_3 : attr (LS A s B) (.ref A.length) 3 = some (.int s.gone) := by rw [at_ ls_0]; rfl
theorem la_0 : attr (LS A s B) (.ref A.length) 0 = some (.int s.time) := by rw [at_ ls_0]; rfl
theorem la_4 : attr (LS A s B) (.ref A.length) 4 = some (.lst (intsL s.groups)) := by rw [at_ ls_0]; rfl
theorem la_11 : attr (LS A s B) (.ref A.length) 11 = some (.ref (A.length + 1)) := by rw [at_ ls_0]; rfl
theorem la_5 : attr (LS A s B) (.ref A.length) 5 = some (heardD s.heard) := by rw [at_ ls_0]; rfl
theorem la_6 : attr (LS A s B) (.ref A.length) 6 = some (.int s.ago) := by rw [at_ ls_0]; rfl
theorem lset {f : Nat} {d : D} {s' : Lmp} (h : O.ins 0 (putA f d [(9, ownD s.own), (1, .int s.first), (2, .int s.goal), (13, .int s.ticks), (3, .int s.gone), (0, .int s.time), (4, .lst (intsL s.groups)), (11, .ref (A.length + 1)), (5, heardD s.heard), (6, .int s.ago)]) = lampO (A.length + 1) s') (hs : s'.scenes = s.scenes) : setAttr (LS A s B) (.ref A.length) f d = some (LS A s' B) := by
  rw [sat_ ls_0 (by show (10 : Nat) < 100; decide), h]
  simp [LS, hs]
theorem ls_s1 {i : Int} : setAttr (LS A s B) (.ref A.length) 1 (.int i) = some (LS A { s with first := i } B) := lset rfl rfl
theorem ls_s2 {i : Int} : setAttr (LS A s B) (.ref A.length) 2 (.int i) = some (LS A { s with goal := i } B) := lset rfl rfl
theorem ls_s13 {i : Int} : setAttr (LS A s B) (.ref A.length) 13 (.int i) = some (LS A { s with ticks := i } B) := lset rfl rfl
theorem ls_s3 {i : Int} : setAttr (LS A s B) (.ref A.length) 3 (.int i) = some (LS A { s with gone := i } B) := lset rfl rfl
theorem ls_s0 {i : Int} : setAttr (LS A s B) (.ref A.length) 0 (.int i) = some (LS A { s with time := i } B) := lset rfl rfl
theorem ls_s4 {i : List Int} : setAttr (LS A s B) (.ref A.length) 4 (.lst (intsL i)) = some (LS A { s with groups := i } B) := lset rfl rfl
theorem ls_s5 {i : Option Wrd} : setAttr (LS A s B) (.ref A.length) 5 (heardD i) = some (LS A { s with heard := i } B) := lset rfl rfl
theorem ls_s6 {i : Int} : setAttr (LS A s B) (.ref A.length) 6 (.int i) = some (LS A { s with ago := i } B) := lset rfl rfl
end
/-! ### scenes -/
def getSc (k : Int) (sc : List (Int × Int)) : Option Int := (sc.find? fun p => decide (p.1 = k)).map (·.2)
def putSc (k v : Int) (sc : List (Int × Int)) : List (Int × Int) := if (sc.any fun p => decide (p.1 = k)) = true then sc.map (fun p => if p.1 = k then (p.1, v) else p) else sc ++ [(k, v)]
def delSc (k : Int) (sc : List (Int × Int)) : List (Int × Int) := sc.filter fun p => decide (p.1 ≠ k)
theorem getK_sc (k : Int) (sc : List (Int × Int)) : getK (scD sc) (.inl k) = (getSc k sc).map .int := by
  unfold getK scD getSc
  induction sc with
  | nil => rfl
  | cons p sc ih =>
    simp only [List.map_cons, List.find?_cons]
    by_cases h : p.1 = k
    · simp [h]
    · have h2 : ¬ ((Sum.inl p.1 : Key) = Sum.inl k) := by simpa using h
      simp only [decide_eq_false h, decide_eq_false h2]
      exact ih
theorem putK_sc (k v : Int) (sc : List (Int × Int)) : putK (.inl k) (.int v) (scD sc) = scD (putSc k v sc) := by
  have h1 : ((scD sc).any fun kv => decide (kv.1 = (Sum.inl k : Key))) = (sc.any fun p => decide (p.1 = k)) := by
    unfold scD
    rw [List.any_map]
    congr 1
    funext p
    simp
  unfold putK putSc
  rw [h1]
  split
  · unfold scD
    rw [List.map_map, List.map_map]
    refine List.map_congr_left fun p _ => ?_
    simp only [Function.comp]
    by_cases h : p.1 = k <;> simp [h]
  · simp [scD]
theorem dropKV_sc (k : Int) (sc : List (Int × Int)) : dropKV (.inl k) (scD sc) = scD (delSc k sc) := by
  unfold dropKV delSc scD
  rw [List.filter_map]
  congr 1
  refine List.filter_congr fun p _ => ?_
  simp [Function.comp]
theorem ls_idx {A B : Sto} {s : Lmp} {k : Int} : index (LS A s B) (.ref (A.length + 1)) (.int k) = (getSc k s.scenes).map .int := by rw [ix_dicI ls_1, getK_sc]
theorem ls_has {A B : Sto} {s : Lmp} {k : Int} : isIn (LS A s B) (.int k) (.ref (A.length + 1)) = some (getSc k s.scenes).isSome := by
  have h : (LS A s B)[A.length + 1]? = some (.dic (scD s.scenes)) := ls_1
  simp only [isIn, h, keyD, Option.map_some, getK_sc, Option.isSome_map]
theorem ls_put {A B : Sto} {s : Lmp} {k v : Int} (hl : s.scenes.length < cap) : setIdx (LS A s B) (.ref (A.length + 1)) (.int k) (.int v) = some (LS A { s with scenes := putSc k v s.scenes } B) := by
  have h : (LS A s B)[A.length + 1]? = some (.dic (scD s.scenes)) := ls_1
  have hl' : (scD s.scenes).length < cap := by simpa [scD] using hl
  simp only [setIdx, h, keyD, Option.bind_some, hl', if_true, putK_sc]
  simp [LS, lampO]
theorem ls_del {A B : Sto} {s : Lmp} {k : Int} : (LS A s B).set (A.length + 1) (.dic (dropKV (.inl k) (scD s.scenes))) = LS A { s with scenes := delSc k s.scenes } B := by
  rw [dropKV_sc]
  simp [LS, lampO]
end Y

end

section
set_option Elab.async false
set_option linter.all false
set_option maxRecDepth 100000
set_option maxHeartbeats 4000000
namespace Y
open PySem L2
/-! ### what lamps do -/
def Lmp.lvl (s : Lmp) : Int := if s.ticks ≤ s.gone then s.goal else betw s.first (if 0 < s.goal then s.goal else s.own.lo) s.ticks s.gone
def Lmp.left (s : Lmp) : Int := max 0 (s.ticks - s.gone)
def Own.letb (o : Own) (v : Int) : Int := if v = 0 then 0 else max o.lo (min o.hi v)
def Lmp.atOnce (s : Lmp) (v : Int) : Lmp := { s with first := v, goal := v, ticks := 0, gone := 0 }
def Lmp.goTo (s : Lmp) (v : Int) : Lmp := if s.lvl = s.own.letb v ∨ s.time = 0 then s.atOnce (s.own.letb v) else { s with first := (if 0 < s.lvl then s.lvl else s.own.lo), goal := s.own.letb v, ticks := s.time, gone := 0 }
def Lmp.tick (s : Lmp) (m : Int) : Lmp := { s with gone := min s.ticks (s.gone + m), ago := s.ago + m }
def Lmp.meant (s : Lmp) (a : Adr) : Bool := match a.k with
  | .all => true
  | .short => decide (s.own.sh = some a.n)
  | .group => decide (a.n ∈ s.groups)
def Lmp.keep (s : Lmp) (nm : Nm) (n : Int) : Lmp := match nm with
  | .fade => { s with time := n }
  | .join => { s with groups := sortI (s.groups.filter (fun g => decide (g ≠ n)) ++ [n]) }
  | .leave => { s with groups := s.groups.filter fun g => decide (g ≠ n) }
  | .store => { s with scenes := putSc n s.lvl s.scenes }
  | _ => { s with scenes := delSc n s.scenes }
def Lmp.does (s : Lmp) (c : Cmd) : Lmp := match c.nm with
  | .askL => s
  | .askG => s
  | .level => s.goTo c.n
  | .scene => (match getSc c.n s.scenes with
    | some v => s.goTo v
    | none => s)
  | .off => s.atOnce 0
  | .up => if 0 < s.lvl then s.atOnce (max s.own.lo (min s.own.hi (s.lvl + 1))) else s
  | .down => if 0 < s.lvl then s.atOnce (max s.own.lo (min s.own.hi (s.lvl + -1))) else s
  | nm => s.keep nm c.n
def Lmp.says (s : Lmp) (c : Cmd) : Option Int := match c.nm with
  | .askL => some s.lvl
  | .askG => some (if c.n ∈ s.groups then 1 else 0)
  | _ => none
def Lmp.kept (s : Lmp) (w : Wrd) : Bool := w.c.nm.twice && !(decide (s.heard = some w) && decide (s.ago ≤ 5))
def Lmp.note (s : Lmp) (w : Wrd) : Lmp := { s with heard := if s.kept w then some w else none, ago := 0 }
def Lmp.does' (s : Lmp) (w : Wrd) : Bool := s.meant w.a && !s.kept w
def Lmp.hear (s : Lmp) (w : Wrd) : Lmp := if s.does' w then (s.note w).does w.c else s.note w
def Lmp.answer (s : Lmp) (w : Wrd) : Option Int := if s.does' w then (s.note w).says w.c else none
def ansD : Option Int → D
  | none => .non
  | some i => .int i
structure Lmp.ok (s : Lmp) : Prop where
  gone0 : 0 ≤ s.gone
  goneT : s.gone ≤ s.ticks
  ticks : s.ticks ≤ 50
  time0 : 0 ≤ s.time
  time : s.time ≤ 50
  grp : s.groups.length ≤ 8
  grps : ∀ g ∈ s.groups, 0 ≤ g ∧ g ≤ 7
  gnd : s.groups.Nodup
  scs : ∀ p ∈ s.scenes, 0 ≤ p.1 ∧ p.1 ≤ 7
  scn : (s.scenes.map (·.1)).Nodup
  hrd : ∀ v, s.heard = some v → v.ok
  ago0 : 0 ≤ s.ago
/-- the defs and methods of lamps -/
structure LT (T : Tab) : Prop where
  h9 : T.fn 9 = some f9_let_by
  h21 : T.fn 21 = some f21_between
  h22 : T.fn 22 = some f22_Lamp___init
  h23 : T.fn 23 = some f23_Lamp_level
  h25 : T.fn 25 = some f25_Lamp_at_once
  h26 : T.fn 26 = some f26_Lamp_go_to
  h28 : T.fn 28 = some f28_Lamp_is_meant
  h29 : T.fn 29 = some f29_Lamp_hear
  h30 : T.fn 30 = some f30_Lamp_do
  h31 : T.fn 31 = some f31_Lamp_keep
  i0 : T.init 0 = 22
  m1 : T.meth 0 1 = some 25
  m2 : T.meth 0 2 = some 30
  m4 : T.meth 0 4 = some 26
  m5 : T.meth 0 5 = some 29
  m6 : T.meth 0 6 = some 28
  m7 : T.meth 0 7 = some 31
  m9 : T.meth 0 9 = some 23
def flds (r : Nat) (s : Lmp) : List (Nat × D) := [(9, ownD s.own), (1, .int s.first), (2, .int s.goal), (13, .int s.ticks), (3, .int s.gone), (0, .int s.time), (4, .lst (intsL s.groups)), (11, .ref r), (5, heardD s.heard), (6, .int s.ago)]
section
variable {T : Tab} {A B : Sto} {s : Lmp}
theorem ls_i : (LS A s B)[A.length]? = some (.ins 0 (flds (A.length + 1) s)) := ls_0
theorem own_1 (o : Own) (S : Sto) : index S (ownD o) (.int 1) = some (shD o.sh) := g1
theorem own_2 (o : Own) (S : Sto) : index S (ownD o) (.int 2) = some (.int o.lo) := g2
theorem own_3 (o : Own) (S : Sto) : index S (ownD o) (.int 3) = some (.int o.hi) := g3
theorem own_0 (o : Own) (S : Sto) : index S (ownD o) (.int 0) = some (.int o.lg) := g0
theorem nr_int (i : Int) : (D.int i).noref = true := rfl
theorem nr_bl (i : Bool) : (D.bl i).noref = true := rfl
theorem nr_non : D.non.noref = true := rfl
theorem level_eq (L : LT T) (h : s.ok) (k : Nat) : callAt T (k + 2) 23 [.ref A.length] (LS A s B) = .ok (.int s.lvl) (LS A s B) := by
  rw [call_eq L.h23 rfl]
  simp only [f23_Lamp_level, Lmp.lvl]
  by_cases h1 : s.ticks ≤ s.gone
  · simp only [evCs, evC, evE, evEs, R.bind_ok, R.bind_exc, opt_some, tB_bl, tB_exc, of_ok, of_exc, seq_nx, seq_rt, seq_exc, turn_nx, turn_rt, turn_exc, calm_ok, Env.get, Env.put, isTys, isTy, vw_non, vw_bl, vw_int, vw_str, vw_tup, vw_lst, vw_scr, c_lt, c_le, c_gt, c_ge, c_eq, c_ne, c_in, c_nin, q_int, q_nn, q_ni, q_in, ix_lst, ix_tup, ix_scr, g0, g1, g2, g3, b_lenL, b_lenT, b_lenS, b_max2, b_min2, b_max, b_min, b_sum, b_sorted, b_int, b_bool, b_tupL, b_tupT, b_lstL, b_lstT, b_abs, add_i, sub_i, sl_lst, sl_tup, pt_nil, pt_int, nD_non, nD_int, nD_str, nD_tup, nD_lst, app_get, app_set, store, stores, putAll, decide_true, decide_false, Bool.not_true, Bool.not_false, Bool.and_true, Bool.true_and, Bool.and_false, Bool.false_and, Bool.or_true, Bool.true_or, Bool.or_false, Bool.false_or, Option.map_some, Option.map_none, Option.bind_some, if_true, if_false, ite_true, ite_false, Bool.false_eq_true, reduceIte, reduceCtorEq, List.length_cons, List.length_nil, List.nil_append, List.cons_append, List.map_cons, List.map_nil, List.append_assoc, Nat.zero_add, Nat.reduceAdd, Nat.reduceLT, Nat.reduceEqDiff, Int.reduceNeg, Int.reduceLT, Int.reduceLE, and_self, true_and, and_true, Bool.and_self, ty_beq, nc0, nc1, nc2, nc3, nc4, nc5, nc6, nc7, nc8, nc9, Int.reduceEq, Int.reduceNe, eq_self, Int.reduceSub, Int.reduceAdd, Nat.reduceLeDiff, la_3, la_13, la_2, h1, fin_rt0, nr_int, Nat.sub_self, List.replicate]
  · have b := fun l S => between_eq L.h21 k s.first l s.ticks s.gone h.gone0 (by have := h.ticks; omega) S
    by_cases h2 : 0 < s.goal
    · simp only [evCs, evC, evE, evEs, R.bind_ok, R.bind_exc, opt_some, tB_bl, tB_exc, of_ok, of_exc, seq_nx, seq_rt, seq_exc, turn_nx, turn_rt, turn_exc, calm_ok, Env.get, Env.put, isTys, isTy, vw_non, vw_bl, vw_int, vw_str, vw_tup, vw_lst, vw_scr, c_lt, c_le, c_gt, c_ge, c_eq, c_ne, c_in, c_nin, q_int, q_nn, q_ni, q_in, ix_lst, ix_tup, ix_scr, g0, g1, g2, g3, b_lenL, b_lenT, b_lenS, b_max2, b_min2, b_max, b_min, b_sum, b_sorted, b_int, b_bool, b_tupL, b_tupT, b_lstL, b_lstT, b_abs, add_i, sub_i, sl_lst, sl_tup, pt_nil, pt_int, nD_non, nD_int, nD_str, nD_tup, nD_lst, app_get, app_set, store, stores, putAll, decide_true, decide_false, Bool.not_true, Bool.not_false, Bool.and_true, Bool.true_and, Bool.and_false, Bool.false_and, Bool.or_true, Bool.true_or, Bool.or_false, Bool.false_or, Option.map_some, Option.map_none, Option.bind_some, if_true, if_false, ite_true, ite_false, Bool.false_eq_true, reduceIte, reduceCtorEq, List.length_cons, List.length_nil, List.nil_append, List.cons_append, List.map_cons, List.map_nil, List.append_assoc, Nat.zero_add, Nat.reduceAdd, Nat.reduceLT, Nat.reduceEqDiff, Int.reduceNeg, Int.reduceLT, Int.reduceLE, and_self, true_and, and_true, Bool.and_self, ty_beq, nc0, nc1, nc2, nc3, nc4, nc5, nc6, nc7, nc8, nc9, Int.reduceEq, Int.reduceNe, eq_self, Int.reduceSub, Int.reduceAdd, Nat.reduceLeDiff, la_3, la_13, la_2, la_1, la_9, h1, h2, b, fin_rt0, nr_int, Nat.sub_self, List.replicate]
    · simp only [evCs, evC, evE, evEs, R.bind_ok, R.bind_exc, opt_some, tB_bl, tB_exc, of_ok, of_exc, seq_nx, seq_rt, seq_exc, turn_nx, turn_rt, turn_exc, calm_ok, Env.get, Env.put, isTys, isTy, vw_non, vw_bl, vw_int, vw_str, vw_tup, vw_lst, vw_scr, c_lt, c_le, c_gt, c_ge, c_eq, c_ne, c_in, c_nin, q_int, q_nn, q_ni, q_in, ix_lst, ix_tup, ix_scr, g0, g1, g2, g3, b_lenL, b_lenT, b_lenS, b_max2, b_min2, b_max, b_min, b_sum, b_sorted, b_int, b_bool, b_tupL, b_tupT, b_lstL, b_lstT, b_abs, add_i, sub_i, sl_lst, sl_tup, pt_nil, pt_int, nD_non, nD_int, nD_str, nD_tup, nD_lst, app_get, app_set, store, stores, putAll, decide_true, decide_false, Bool.not_true, Bool.not_false, Bool.and_true, Bool.true_and, Bool.and_false, Bool.false_and, Bool.or_true, Bool.true_or, Bool.or_false, Bool.false_or, Option.map_some, Option.map_none, Option.bind_some, if_true, if_false, ite_true, ite_false, Bool.false_eq_true, reduceIte, reduceCtorEq, List.length_cons, List.length_nil, List.nil_append, List.cons_append, List.map_cons, List.map_nil, List.append_assoc, Nat.zero_add, Nat.reduceAdd, Nat.reduceLT, Nat.reduceEqDiff, Int.reduceNeg, Int.reduceLT, Int.reduceLE, and_self, true_and, and_true, Bool.and_self, ty_beq, nc0, nc1, nc2, nc3, nc4, nc5, nc6, nc7, nc8, nc9, Int.reduceEq, Int.reduceNe, eq_self, Int.reduceSub, Int.reduceAdd, Nat.reduceLeDiff, la_3, la_13, la_2, la_1, la_9, h1, h2, b, own_2, fin_rt0, nr_int, Nat.sub_self, List.replicate]
theorem let_by_eq (h : T.fn 9 = some f9_let_by) (k : Nat) (o : Own) (v : Int) (S : Sto) : callAt T (k + 1) 9 [ownD o, .int v] S = .ok (.int (o.letb v)) S := by
  rw [call_eq h rfl]
  simp only [f9_let_by, Own.letb]
  by_cases h1 : v = 0
  · simp only [evCs, evC, evE, evEs, R.bind_ok, R.bind_exc, opt_some, tB_bl, tB_exc, of_ok, of_exc, seq_nx, seq_rt, seq_exc, turn_nx, turn_rt, turn_exc, calm_ok, Env.get, Env.put, isTys, isTy, vw_non, vw_bl, vw_int, vw_str, vw_tup, vw_lst, vw_scr, c_lt, c_le, c_gt, c_ge, c_eq, c_ne, c_in, c_nin, q_int, q_nn, q_ni, q_in, ix_lst, ix_tup, ix_scr, g0, g1, g2, g3, b_lenL, b_lenT, b_lenS, b_max2, b_min2, b_max, b_min, b_sum, b_sorted, b_int, b_bool, b_tupL, b_tupT, b_lstL, b_lstT, b_abs, add_i, sub_i, sl_lst, sl_tup, pt_nil, pt_int, nD_non, nD_int, nD_str, nD_tup, nD_lst, app_get, app_set, store, stores, putAll, decide_true, decide_false, Bool.not_true, Bool.not_false, Bool.and_true, Bool.true_and, Bool.and_false, Bool.false_and, Bool.or_true, Bool.true_or, Bool.or_false, Bool.false_or, Option.map_some, Option.map_none, Option.bind_some, if_true, if_false, ite_true, ite_false, Bool.false_eq_true, reduceIte, reduceCtorEq, List.length_cons, List.length_nil, List.nil_append, List.cons_append, List.map_cons, List.map_nil, List.append_assoc, Nat.zero_add, Nat.reduceAdd, Nat.reduceLT, Nat.reduceEqDiff, Int.reduceNeg, Int.reduceLT, Int.reduceLE, and_self, true_and, and_true, Bool.and_self, ty_beq, nc0, nc1, nc2, nc3, nc4, nc5, nc6, nc7, nc8, nc9, Int.reduceEq, Int.reduceNe, eq_self, Int.reduceSub, Int.reduceAdd, Nat.reduceLeDiff, h1, fin_rt0, nr_int, Nat.sub_self, List.replicate]
  · simp only [evCs, evC, evE, evEs, R.bind_ok, R.bind_exc, opt_some, tB_bl, tB_exc, of_ok, of_exc, seq_nx, seq_rt, seq_exc, turn_nx, turn_rt, turn_exc, calm_ok, Env.get, Env.put, isTys, isTy, vw_non, vw_bl, vw_int, vw_str, vw_tup, vw_lst, vw_scr, c_lt, c_le, c_gt, c_ge, c_eq, c_ne, c_in, c_nin, q_int, q_nn, q_ni, q_in, ix_lst, ix_tup, ix_scr, g0, g1, g2, g3, b_lenL, b_lenT, b_lenS, b_max2, b_min2, b_max, b_min, b_sum, b_sorted, b_int, b_bool, b_tupL, b_tupT, b_lstL, b_lstT, b_abs, add_i, sub_i, sl_lst, sl_tup, pt_nil, pt_int, nD_non, nD_int, nD_str, nD_tup, nD_lst, app_get, app_set, store, stores, putAll, decide_true, decide_false, Bool.not_true, Bool.not_false, Bool.and_true, Bool.true_and, Bool.and_false, Bool.false_and, Bool.or_true, Bool.true_or, Bool.or_false, Bool.false_or, Option.map_some, Option.map_none, Option.bind_some, if_true, if_false, ite_true, ite_false, Bool.false_eq_true, reduceIte, reduceCtorEq, List.length_cons, List.length_nil, List.nil_append, List.cons_append, List.map_cons, List.map_nil, List.append_assoc, Nat.zero_add, Nat.reduceAdd, Nat.reduceLT, Nat.reduceEqDiff, Int.reduceNeg, Int.reduceLT, Int.reduceLE, and_self, true_and, and_true, Bool.and_self, ty_beq, nc0, nc1, nc2, nc3, nc4, nc5, nc6, nc7, nc8, nc9, Int.reduceEq, Int.reduceNe, eq_self, Int.reduceSub, Int.reduceAdd, Nat.reduceLeDiff, h1, own_2, own_3, fin_rt0, nr_int, Nat.sub_self, List.replicate]
theorem at_once_eq (L : LT T) (k : Nat) (v : Int) : callAt T (k + 1) 25 [.ref A.length, .int v] (LS A s B) = .ok .non (LS A (s.atOnce v) B) := by
  rw [call_eq L.h25 rfl]
  simp only [f25_Lamp_at_once, Lmp.atOnce]
  simp only [evCs, evC, evE, evEs, R.bind_ok, R.bind_exc, opt_some, tB_bl, tB_exc, of_ok, of_exc, seq_nx, seq_rt, seq_exc, turn_nx, turn_rt, turn_exc, calm_ok, Env.get, Env.put, isTys, isTy, vw_non, vw_bl, vw_int, vw_str, vw_tup, vw_lst, vw_scr, c_lt, c_le, c_gt, c_ge, c_eq, c_ne, c_in, c_nin, q_int, q_nn, q_ni, q_in, ix_lst, ix_tup, ix_scr, g0, g1, g2, g3, b_lenL, b_lenT, b_lenS, b_max2, b_min2, b_max, b_min, b_sum, b_sorted, b_int, b_bool, b_tupL, b_tupT, b_lstL, b_lstT, b_abs, add_i, sub_i, sl_lst, sl_tup, pt_nil, pt_int, nD_non, nD_int, nD_str, nD_tup, nD_lst, app_get, app_set, store, stores, putAll, decide_true, decide_false, Bool.not_true, Bool.not_false, Bool.and_true, Bool.true_and, Bool.and_false, Bool.false_and, Bool.or_true, Bool.true_or, Bool.or_false, Bool.false_or, Option.map_some, Option.map_none, Option.bind_some, if_true, if_false, ite_true, ite_false, Bool.false_eq_true, reduceIte, reduceCtorEq, List.length_cons, List.length_nil, List.nil_append, List.cons_append, List.map_cons, List.map_nil, List.append_assoc, Nat.zero_add, Nat.reduceAdd, Nat.reduceLT, Nat.reduceEqDiff, Int.reduceNeg, Int.reduceLT, Int.reduceLE, and_self, true_and, and_true, Bool.and_self, ty_beq, nc0, nc1, nc2, nc3, nc4, nc5, nc6, nc7, nc8, nc9, Int.reduceEq, Int.reduceNe, eq_self, Int.reduceSub, Int.reduceAdd, Nat.reduceLeDiff, ls_s1, ls_s2, ls_s13, ls_s3, fin, Nat.sub_self, List.replicate]
theorem go_to_eq (L : LT T) (h : s.ok) (k : Nat) (v : Int) : callAt T (k + 3) 26 [.ref A.length, .int v] (LS A s B) = .ok .non (LS A (s.goTo v) B) := by
  rw [call_eq L.h26 rfl]
  have l1 := level_eq (A := A) (B := B) L h k
  have l2 := let_by_eq L.h9 (k + 1) s.own v (LS A s B)
  have l3 := fun v => at_once_eq (A := A) (B := B) (s := s) L (k + 1) v
  simp only [f26_Lamp_go_to, Lmp.goTo]
  by_cases h1 : s.lvl = s.own.letb v
  · simp only [evCs, evC, evE, evEs, R.bind_ok, R.bind_exc, opt_some, tB_bl, tB_exc, of_ok, of_exc, seq_nx, seq_rt, seq_exc, turn_nx, turn_rt, turn_exc, calm_ok, Env.get, Env.put, isTys, isTy, vw_non, vw_bl, vw_int, vw_str, vw_tup, vw_lst, vw_scr, c_lt, c_le, c_gt, c_ge, c_eq, c_ne, c_in, c_nin, q_int, q_nn, q_ni, q_in, ix_lst, ix_tup, ix_scr, g0, g1, g2, g3, b_lenL, b_lenT, b_lenS, b_max2, b_min2, b_max, b_min, b_sum, b_sorted, b_int, b_bool, b_tupL, b_tupT, b_lstL, b_lstT, b_abs, add_i, sub_i, sl_lst, sl_tup, pt_nil, pt_int, nD_non, nD_int, nD_str, nD_tup, nD_lst, app_get, app_set, store, stores, putAll, decide_true, decide_false, Bool.not_true, Bool.not_false, Bool.and_true, Bool.true_and, Bool.and_false, Bool.false_and, Bool.or_true, Bool.true_or, Bool.or_false, Bool.false_or, Option.map_some, Option.map_none, Option.bind_some, if_true, if_false, ite_true, ite_false, Bool.false_eq_true, reduceIte, reduceCtorEq, List.length_cons, List.length_nil, List.nil_append, List.cons_append, List.map_cons, List.map_nil, List.append_assoc, Nat.zero_add, Nat.reduceAdd, Nat.reduceLT, Nat.reduceEqDiff, Int.reduceNeg, Int.reduceLT, Int.reduceLE, and_self, true_and, and_true, Bool.and_self, ty_beq, nc0, nc1, nc2, nc3, nc4, nc5, nc6, nc7, nc8, nc9, Int.reduceEq, Int.reduceNe, eq_self, Int.reduceSub, Int.reduceAdd, Nat.reduceLeDiff, ls_i, L.m9, L.m1, la_9, l1, l2, l3, h1, true_or, fin, Nat.sub_self, List.replicate]
  · by_cases h2 : s.time = 0
    · simp only [evCs, evC, evE, evEs, R.bind_ok, R.bind_exc, opt_some, tB_bl, tB_exc, of_ok, of_exc, seq_nx, seq_rt, seq_exc, turn_nx, turn_rt, turn_exc, calm_ok, Env.get, Env.put, isTys, isTy, vw_non, vw_bl, vw_int, vw_str, vw_tup, vw_lst, vw_scr, c_lt, c_le, c_gt, c_ge, c_eq, c_ne, c_in, c_nin, q_int, q_nn, q_ni, q_in, ix_lst, ix_tup, ix_scr, g0, g1, g2, g3, b_lenL, b_lenT, b_lenS, b_max2, b_min2, b_max, b_min, b_sum, b_sorted, b_int, b_bool, b_tupL, b_tupT, b_lstL, b_lstT, b_abs, add_i, sub_i, sl_lst, sl_tup, pt_nil, pt_int, nD_non, nD_int, nD_str, nD_tup, nD_lst, app_get, app_set, store, stores, putAll, decide_true, decide_false, Bool.not_true, Bool.not_false, Bool.and_true, Bool.true_and, Bool.and_false, Bool.false_and, Bool.or_true, Bool.true_or, Bool.or_false, Bool.false_or, Option.map_some, Option.map_none, Option.bind_some, if_true, if_false, ite_true, ite_false, Bool.false_eq_true, reduceIte, reduceCtorEq, List.length_cons, List.length_nil, List.nil_append, List.cons_append, List.map_cons, List.map_nil, List.append_assoc, Nat.zero_add, Nat.reduceAdd, Nat.reduceLT, Nat.reduceEqDiff, Int.reduceNeg, Int.reduceLT, Int.reduceLE, and_self, true_and, and_true, Bool.and_self, ty_beq, nc0, nc1, nc2, nc3, nc4, nc5, nc6, nc7, nc8, nc9, Int.reduceEq, Int.reduceNe, eq_self, Int.reduceSub, Int.reduceAdd, Nat.reduceLeDiff, ls_i, L.m9, L.m1, la_9, la_0, l1, l2, l3, h1, h2, or_true, fin, Nat.sub_self, List.replicate]
    · by_cases h3 : 0 < s.lvl
      · simp only [evCs, evC, evE, evEs, R.bind_ok, R.bind_exc, opt_some, tB_bl, tB_exc, of_ok, of_exc, seq_nx, seq_rt, seq_exc, turn_nx, turn_rt, turn_exc, calm_ok, Env.get, Env.put, isTys, isTy, vw_non, vw_bl, vw_int, vw_str, vw_tup, vw_lst, vw_scr, c_lt, c_le, c_gt, c_ge, c_eq, c_ne, c_in, c_nin, q_int, q_nn, q_ni, q_in, ix_lst, ix_tup, ix_scr, g0, g1, g2, g3, b_lenL, b_lenT, b_lenS, b_max2, b_min2, b_max, b_min, b_sum, b_sorted, b_int, b_bool, b_tupL, b_tupT, b_lstL, b_lstT, b_abs, add_i, sub_i, sl_lst, sl_tup, pt_nil, pt_int, nD_non, nD_int, nD_str, nD_tup, nD_lst, app_get, app_set, store, stores, putAll, decide_true, decide_false, Bool.not_true, Bool.not_false, Bool.and_true, Bool.true_and, Bool.and_false, Bool.false_and, Bool.or_true, Bool.true_or, Bool.or_false, Bool.false_or, Option.map_some, Option.map_none, Option.bind_some, if_true, if_false, ite_true, ite_false, Bool.false_eq_true, reduceIte, reduceCtorEq, List.length_cons, List.length_nil, List.nil_append, List.cons_append, List.map_cons, List.map_nil, List.append_assoc, Nat.zero_add, Nat.reduceAdd, Nat.reduceLT, Nat.reduceEqDiff, Int.reduceNeg, Int.reduceLT, Int.reduceLE, and_self, true_and, and_true, Bool.and_self, ty_beq, nc0, nc1, nc2, nc3, nc4, nc5, nc6, nc7, nc8, nc9, Int.reduceEq, Int.reduceNe, eq_self, Int.reduceSub, Int.reduceAdd, Nat.reduceLeDiff, ls_i, L.m9, L.m1, la_9, la_0, l1, l2, h1, h2, h3, or_self, own_2, ls_s1, ls_s2, ls_s13, ls_s3, fin, Nat.sub_self, List.replicate]
      · simp only [evCs, evC, evE, evEs, R.bind_ok, R.bind_exc, opt_some, tB_bl, tB_exc, of_ok, of_exc, seq_nx, seq_rt, seq_exc, turn_nx, turn_rt, turn_exc, calm_ok, Env.get, Env.put, isTys, isTy, vw_non, vw_bl, vw_int, vw_str, vw_tup, vw_lst, vw_scr, c_lt, c_le, c_gt, c_ge, c_eq, c_ne, c_in, c_nin, q_int, q_nn, q_ni, q_in, ix_lst, ix_tup, ix_scr, g0, g1, g2, g3, b_lenL, b_lenT, b_lenS, b_max2, b_min2, b_max, b_min, b_sum, b_sorted, b_int, b_bool, b_tupL, b_tupT, b_lstL, b_lstT, b_abs, add_i, sub_i, sl_lst, sl_tup, pt_nil, pt_int, nD_non, nD_int, nD_str, nD_tup, nD_lst, app_get, app_set, store, stores, putAll, decide_true, decide_false, Bool.not_true, Bool.not_false, Bool.and_true, Bool.true_and, Bool.and_false, Bool.false_and, Bool.or_true, Bool.true_or, Bool.or_false, Bool.false_or, Option.map_some, Option.map_none, Option.bind_some, if_true, if_false, ite_true, ite_false, Bool.false_eq_true, reduceIte, reduceCtorEq, List.length_cons, List.length_nil, List.nil_append, List.cons_append, List.map_cons, List.map_nil, List.append_assoc, Nat.zero_add, Nat.reduceAdd, Nat.reduceLT, Nat.reduceEqDiff, Int.reduceNeg, Int.reduceLT, Int.reduceLE, and_self, true_and, and_true, Bool.and_self, ty_beq, nc0, nc1, nc2, nc3, nc4, nc5, nc6, nc7, nc8, nc9, Int.reduceEq, Int.reduceNe, eq_self, Int.reduceSub, Int.reduceAdd, Nat.reduceLeDiff, ls_i, L.m9, L.m1, la_9, la_0, l1, l2, h1, h2, h3, or_self, own_2, ls_s1, ls_s2, ls_s13, ls_s3, fin, Nat.sub_self, List.replicate]
theorem sh_eq (o : Option Int) (n : Int) : eqD (shD o) (.int n) = some (decide (o = some n)) := by
  cases o with
  | none => rfl
  | some i => simp only [shD, q_int, Option.some.injEq]
theorem vw_sh (o : Option Int) (S : Sto) : view S (shD o) = shD o := by cases o <;> rfl
theorem in_ints (L : List Int) (x : Int) (S : Sto) : isIn S (.int x) (.lst (intsL L)) = some (decide (x ∈ L)) := by
  simp only [isIn, okd_ints, show (D.int x).okd 7 = true from rfl, Bool.and_self, if_true, any_ints]
theorem meant_eq (L : LT T) (k : Nat) (a : Adr) : callAt T (k + 1) 28 [.ref A.length, adrD a] (LS A s B) = .ok (.bl (s.meant a)) (LS A s B) := by
  rw [call_eq L.h28 rfl]
  simp only [f28_Lamp_is_meant, Lmp.meant]
  have a0 := fun S => adr_0 a S
  have a1 := fun S => adr_1 a S
  obtain ⟨k, n⟩ := a
  cases k
  · simp only [evCs, evC, evE, evEs, R.bind_ok, R.bind_exc, opt_some, tB_bl, tB_exc, of_ok, of_exc, seq_nx, seq_rt, seq_exc, turn_nx, turn_rt, turn_exc, calm_ok, Env.get, Env.put, isTys, isTy, vw_non, vw_bl, vw_int, vw_str, vw_tup, vw_lst, vw_scr, c_lt, c_le, c_gt, c_ge, c_eq, c_ne, c_in, c_nin, q_int, q_nn, q_ni, q_in, ix_lst, ix_tup, ix_scr, g0, g1, g2, g3, b_lenL, b_lenT, b_lenS, b_max2, b_min2, b_max, b_min, b_sum, b_sorted, b_int, b_bool, b_tupL, b_tupT, b_lstL, b_lstT, b_abs, add_i, sub_i, sl_lst, sl_tup, pt_nil, pt_int, nD_non, nD_int, nD_str, nD_tup, nD_lst, app_get, app_set, store, stores, putAll, decide_true, decide_false, Bool.not_true, Bool.not_false, Bool.and_true, Bool.true_and, Bool.and_false, Bool.false_and, Bool.or_true, Bool.true_or, Bool.or_false, Bool.false_or, Option.map_some, Option.map_none, Option.bind_some, if_true, if_false, ite_true, ite_false, Bool.false_eq_true, reduceIte, reduceCtorEq, List.length_cons, List.length_nil, List.nil_append, List.cons_append, List.map_cons, List.map_nil, List.append_assoc, Nat.zero_add, Nat.reduceAdd, Nat.reduceLT, Nat.reduceEqDiff, Int.reduceNeg, Int.reduceLT, Int.reduceLE, and_self, true_and, and_true, Bool.and_self, ty_beq, nc0, nc1, nc2, nc3, nc4, nc5, nc6, nc7, nc8, nc9, Int.reduceEq, Int.reduceNe, eq_self, Int.reduceSub, Int.reduceAdd, Nat.reduceLeDiff, a0, ak_all, fin_rt0, nr_bl, Nat.sub_self, List.replicate]
  · have a1 := fun S => a1 S rfl
    simp only [evCs, evC, evE, evEs, R.bind_ok, R.bind_exc, opt_some, tB_bl, tB_exc, of_ok, of_exc, seq_nx, seq_rt, seq_exc, turn_nx, turn_rt, turn_exc, calm_ok, Env.get, Env.put, isTys, isTy, vw_non, vw_bl, vw_int, vw_str, vw_tup, vw_lst, vw_scr, c_lt, c_le, c_gt, c_ge, c_eq, c_ne, c_in, c_nin, q_int, q_nn, q_ni, q_in, ix_lst, ix_tup, ix_scr, g0, g1, g2, g3, b_lenL, b_lenT, b_lenS, b_max2, b_min2, b_max, b_min, b_sum, b_sorted, b_int, b_bool, b_tupL, b_tupT, b_lstL, b_lstT, b_abs, add_i, sub_i, sl_lst, sl_tup, pt_nil, pt_int, nD_non, nD_int, nD_str, nD_tup, nD_lst, app_get, app_set, store, stores, putAll, decide_true, decide_false, Bool.not_true, Bool.not_false, Bool.and_true, Bool.true_and, Bool.and_false, Bool.false_and, Bool.or_true, Bool.true_or, Bool.or_false, Bool.false_or, Option.map_some, Option.map_none, Option.bind_some, if_true, if_false, ite_true, ite_false, Bool.false_eq_true, reduceIte, reduceCtorEq, List.length_cons, List.length_nil, List.nil_append, List.cons_append, List.map_cons, List.map_nil, List.append_assoc, Nat.zero_add, Nat.reduceAdd, Nat.reduceLT, Nat.reduceEqDiff, Int.reduceNeg, Int.reduceLT, Int.reduceLE, and_self, true_and, and_true, Bool.and_self, ty_beq, nc0, nc1, nc2, nc3, nc4, nc5, nc6, nc7, nc8, nc9, Int.reduceEq, Int.reduceNe, eq_self, Int.reduceSub, Int.reduceAdd, Nat.reduceLeDiff, a0, a1, ak_all, ak_short, la_9, own_1, vw_sh, sh_eq, fin_rt0, nr_bl, Nat.sub_self, List.replicate]
  · have a1 := fun S => a1 S rfl
    simp only [evCs, evC, evE, evEs, R.bind_ok, R.bind_exc, opt_some, tB_bl, tB_exc, of_ok, of_exc, seq_nx, seq_rt, seq_exc, turn_nx, turn_rt, turn_exc, calm_ok, Env.get, Env.put, isTys, isTy, vw_non, vw_bl, vw_int, vw_str, vw_tup, vw_lst, vw_scr, c_lt, c_le, c_gt, c_ge, c_eq, c_ne, c_in, c_nin, q_int, q_nn, q_ni, q_in, ix_lst, ix_tup, ix_scr, g0, g1, g2, g3, b_lenL, b_lenT, b_lenS, b_max2, b_min2, b_max, b_min, b_sum, b_sorted, b_int, b_bool, b_tupL, b_tupT, b_lstL, b_lstT, b_abs, add_i, sub_i, sl_lst, sl_tup, pt_nil, pt_int, nD_non, nD_int, nD_str, nD_tup, nD_lst, app_get, app_set, store, stores, putAll, decide_true, decide_false, Bool.not_true, Bool.not_false, Bool.and_true, Bool.true_and, Bool.and_false, Bool.false_and, Bool.or_true, Bool.true_or, Bool.or_false, Bool.false_or, Option.map_some, Option.map_none, Option.bind_some, if_true, if_false, ite_true, ite_false, Bool.false_eq_true, reduceIte, reduceCtorEq, List.length_cons, List.length_nil, List.nil_append, List.cons_append, List.map_cons, List.map_nil, List.append_assoc, Nat.zero_add, Nat.reduceAdd, Nat.reduceLT, Nat.reduceEqDiff, Int.reduceNeg, Int.reduceLT, Int.reduceLE, and_self, true_and, and_true, Bool.and_self, ty_beq, nc0, nc1, nc2, nc3, nc4, nc5, nc6, nc7, nc8, nc9, Int.reduceEq, Int.reduceNe, eq_self, Int.reduceSub, Int.reduceAdd, Nat.reduceLeDiff, a0, a1, ak_all, ak_short, la_4, in_ints, fin_rt0, nr_bl, Nat.sub_self, List.replicate]
end
end Y

end

section
set_option Elab.async false
set_option linter.all false
set_option maxRecDepth 100000
set_option maxHeartbeats 4000000
namespace Y
open PySem L2
theorem nodup_len : ∀ (n : Nat) (l : List Int), l.Nodup → (∀ x ∈ l, 0 ≤ x ∧ x < n) → l.length ≤ n
  | 0, l, _, h => by
    cases l with
    | nil => simp
    | cons x l => have := h x (by simp); omega
  | n + 1, l, hn, h => by
    have ih := nodup_len n (l.erase n) (hn.erase _) (fun x hx => by
      obtain ⟨h1, h2⟩ := hn.mem_erase_iff.mp hx
      have := h x h2
      omega)
    rw [List.length_erase] at ih
    split at ih <;> omega
section
variable {T : Tab} {A B : Sto} {s : Lmp}
theorem grp_c0 {k : Nat} {n : Int} (e1 : Option D) (e3 : Option D) : evE (RG T k) f31_c0 [some (.ref A.length), e1, some (.int n), e3] (LS A s B) = .ok (.lst (intsL (s.groups.filter fun g => decide (g ≠ n)))) (LS A s B) := by
  unfold f31_c0
  rw [comp_ok (ds := [.lst (intsL s.groups)]) (its := intsL s.groups) (p := fun d => match d with | .int g => decide (g ≠ n) | _ => false) (g := fun d => d) ?_ rfl ?_]
  · rw [List.map_id', intsL, List.filter_map]; rfl
  · simp only [evCs, evC, evE, evEs, R.bind_ok, R.bind_exc, opt_some, tB_bl, tB_exc, of_ok, of_exc, seq_nx, seq_rt, seq_exc, turn_nx, turn_rt, turn_exc, calm_ok, Env.get, Env.put, isTys, isTy, vw_non, vw_bl, vw_int, vw_str, vw_tup, vw_lst, vw_scr, c_lt, c_le, c_gt, c_ge, c_eq, c_ne, c_in, c_nin, q_int, q_nn, q_ni, q_in, ix_lst, ix_tup, ix_scr, g0, g1, g2, g3, b_lenL, b_lenT, b_lenS, b_max2, b_min2, b_max, b_min, b_sum, b_sorted, b_int, b_bool, b_tupL, b_tupT, b_lstL, b_lstT, b_abs, add_i, sub_i, sl_lst, sl_tup, pt_nil, pt_int, nD_non, nD_int, nD_str, nD_tup, nD_lst, app_get, app_set, store, stores, putAll, decide_true, decide_false, Bool.not_true, Bool.not_false, Bool.and_true, Bool.true_and, Bool.and_false, Bool.false_and, Bool.or_true, Bool.true_or, Bool.or_false, Bool.false_or, Option.map_some, Option.map_none, Option.bind_some, if_true, if_false, ite_true, ite_false, Bool.false_eq_true, reduceIte, reduceCtorEq, List.length_cons, List.length_nil, List.nil_append, List.cons_append, List.map_cons, List.map_nil, List.append_assoc, Nat.zero_add, Nat.reduceAdd, Nat.reduceLT, Nat.reduceEqDiff, Int.reduceNeg, Int.reduceLT, Int.reduceLE, and_self, true_and, and_true, Bool.and_self, ty_beq, nc0, nc1, nc2, nc3, nc4, nc5, nc6, nc7, nc8, nc9, Int.reduceEq, Int.reduceNe, eq_self, Int.reduceSub, Int.reduceAdd, Nat.reduceLeDiff, la_4]
  · intro d hd
    obtain ⟨g, _, rfl⟩ := List.mem_map.mp hd
    refine ⟨_, rfl, ?_, fun _ => rfl⟩
    simp only [evCs, evC, evE, evEs, R.bind_ok, R.bind_exc, opt_some, tB_bl, tB_exc, of_ok, of_exc, seq_nx, seq_rt, seq_exc, turn_nx, turn_rt, turn_exc, calm_ok, Env.get, Env.put, isTys, isTy, vw_non, vw_bl, vw_int, vw_str, vw_tup, vw_lst, vw_scr, c_lt, c_le, c_gt, c_ge, c_eq, c_ne, c_in, c_nin, q_int, q_nn, q_ni, q_in, ix_lst, ix_tup, ix_scr, g0, g1, g2, g3, b_lenL, b_lenT, b_lenS, b_max2, b_min2, b_max, b_min, b_sum, b_sorted, b_int, b_bool, b_tupL, b_tupT, b_lstL, b_lstT, b_abs, add_i, sub_i, sl_lst, sl_tup, pt_nil, pt_int, nD_non, nD_int, nD_str, nD_tup, nD_lst, app_get, app_set, store, stores, putAll, decide_true, decide_false, Bool.not_true, Bool.not_false, Bool.and_true, Bool.true_and, Bool.and_false, Bool.false_and, Bool.or_true, Bool.true_or, Bool.or_false, Bool.false_or, Option.map_some, Option.map_none, Option.bind_some, if_true, if_false, ite_true, ite_false, Bool.false_eq_true, reduceIte, reduceCtorEq, List.length_cons, List.length_nil, List.nil_append, List.cons_append, List.map_cons, List.map_nil, List.append_assoc, Nat.zero_add, Nat.reduceAdd, Nat.reduceLT, Nat.reduceEqDiff, Int.reduceNeg, Int.reduceLT, Int.reduceLE, and_self, true_and, and_true, Bool.and_self, ty_beq, nc0, nc1, nc2, nc3, nc4, nc5, nc6, nc7, nc8, nc9, Int.reduceEq, Int.reduceNe, eq_self, Int.reduceSub, Int.reduceAdd, Nat.reduceLeDiff, Env.wipe, List.foldr]
    simp
theorem list_app {xs ys : List Int} (h : xs.length + ys.length ≤ 1000) : bop .add (.lst (intsL xs)) (.lst (intsL ys)) = some (.lst (intsL (xs ++ ys))) := by
  rw [add_l (by rw [ints_len, ints_len]; omega), ints_app]
theorem vw_scd : view (LS A s B) (.ref (A.length + 1)) = .ref (A.length + 1) := vw_dic ls_1
theorem keep_eq (L : LT T) (h : s.ok) (k : Nat) (nm : Nm) (n : Int) (ht : nm.twice = true) : callAt T (k + 3) 31 [.ref A.length, .str (nmS nm), .int n] (LS A s B) = .ok .non (LS A (s.keep nm n) B) := by
  rw [call_eq L.h31 rfl]
  simp only [f31_Lamp_keep]
  have hl := h.grp
  have c0 := fun e1 e3 => grp_c0 (T := T) (A := A) (B := B) (s := s) (k := k + 2) (n := n) e1 e3
  have c1 : ∀ e1 e3, evE (RG T (k + 2)) f31_c1 [some (.ref A.length), e1, some (.int n), e3] (LS A s B) = _ := c0
  have hlf : (s.groups.filter fun g => decide (g ≠ n)).length ≤ 8 := Nat.le_trans (List.length_filter_le _ _) hl
  have ap := list_app (xs := s.groups.filter fun g => decide (g ≠ n)) (ys := [n]) (by simp only [List.length_cons, List.length_nil]; omega)
  have l1 := level_eq (A := A) (B := B) L h k
  have hs : s.scenes.length < cap := by
    have := nodup_len 8 (s.scenes.map (·.1)) h.scn (fun x hx => by
      obtain ⟨p, hp, rfl⟩ := List.mem_map.mp hx
      have := h.scs p hp
      omega)
    simp only [List.length_map] at this
    exact lt_cap (by omega)
  have ci : (D.lst [.int n]) = .lst (intsL [n]) := rfl
  obtain ⟨cc, hcc⟩ : ∃ cc, cc = f31_c0 := ⟨_, rfl⟩; rw [← hcc] at c0 ⊢
  obtain ⟨cd, hcd⟩ : ∃ cd, cd = f31_c1 := ⟨_, rfl⟩; rw [← hcd] at c1 ⊢
  cases nm <;> simp only [Nm.twice, Bool.false_eq_true] at ht
  · simp only [evCs, evC, evE, evEs, R.bind_ok, R.bind_exc, opt_some, tB_bl, tB_exc, of_ok, of_exc, seq_nx, seq_rt, seq_exc, turn_nx, turn_rt, turn_exc, calm_ok, Env.get, Env.put, isTys, isTy, vw_non, vw_bl, vw_int, vw_str, vw_tup, vw_lst, vw_scr, c_lt, c_le, c_gt, c_ge, c_eq, c_ne, c_in, c_nin, q_int, q_nn, q_ni, q_in, ix_lst, ix_tup, ix_scr, g0, g1, g2, g3, b_lenL, b_lenT, b_lenS, b_max2, b_min2, b_max, b_min, b_sum, b_sorted, b_int, b_bool, b_tupL, b_tupT, b_lstL, b_lstT, b_abs, add_i, sub_i, sl_lst, sl_tup, pt_nil, pt_int, nD_non, nD_int, nD_str, nD_tup, nD_lst, app_get, app_set, store, stores, putAll, decide_true, decide_false, Bool.not_true, Bool.not_false, Bool.and_true, Bool.true_and, Bool.and_false, Bool.false_and, Bool.or_true, Bool.true_or, Bool.or_false, Bool.false_or, Option.map_some, Option.map_none, Option.bind_some, if_true, if_false, ite_true, ite_false, Bool.false_eq_true, reduceIte, reduceCtorEq, List.length_cons, List.length_nil, List.nil_append, List.cons_append, List.map_cons, List.map_nil, List.append_assoc, Nat.zero_add, Nat.reduceAdd, Nat.reduceLT, Nat.reduceEqDiff, Int.reduceNeg, Int.reduceLT, Int.reduceLE, and_self, true_and, and_true, Bool.and_self, ty_beq, nc0, nc1, nc2, nc3, nc4, nc5, nc6, nc7, nc8, nc9, Int.reduceEq, Int.reduceNe, eq_self, Int.reduceSub, Int.reduceAdd, Nat.reduceLeDiff, nm_fade, ls_s0, Lmp.keep, fin, Nat.sub_self, List.replicate]
  · simp only [evCs, evC, evE, evEs, R.bind_ok, R.bind_exc, opt_some, tB_bl, tB_exc, of_ok, of_exc, seq_nx, seq_rt, seq_exc, turn_nx, turn_rt, turn_exc, calm_ok, Env.get, Env.put, isTys, isTy, vw_non, vw_bl, vw_int, vw_str, vw_tup, vw_lst, vw_scr, c_lt, c_le, c_gt, c_ge, c_eq, c_ne, c_in, c_nin, q_int, q_nn, q_ni, q_in, ix_lst, ix_tup, ix_scr, g0, g1, g2, g3, b_lenL, b_lenT, b_lenS, b_max2, b_min2, b_max, b_min, b_sum, b_sorted, b_int, b_bool, b_tupL, b_tupT, b_lstL, b_lstT, b_abs, add_i, sub_i, sl_lst, sl_tup, pt_nil, pt_int, nD_non, nD_int, nD_str, nD_tup, nD_lst, app_get, app_set, store, stores, putAll, decide_true, decide_false, Bool.not_true, Bool.not_false, Bool.and_true, Bool.true_and, Bool.and_false, Bool.false_and, Bool.or_true, Bool.true_or, Bool.or_false, Bool.false_or, Option.map_some, Option.map_none, Option.bind_some, if_true, if_false, ite_true, ite_false, Bool.false_eq_true, reduceIte, reduceCtorEq, List.length_cons, List.length_nil, List.nil_append, List.cons_append, List.map_cons, List.map_nil, List.append_assoc, Nat.zero_add, Nat.reduceAdd, Nat.reduceLT, Nat.reduceEqDiff, Int.reduceNeg, Int.reduceLT, Int.reduceLE, and_self, true_and, and_true, Bool.and_self, ty_beq, nc0, nc1, nc2, nc3, nc4, nc5, nc6, nc7, nc8, nc9, Int.reduceEq, Int.reduceNe, eq_self, Int.reduceSub, Int.reduceAdd, Nat.reduceLeDiff, nm_fade, nm_join, c0, ci, ap, ls_s4, Lmp.keep, fin, Nat.sub_self, List.replicate]
  · simp only [evCs, evC, evE, evEs, R.bind_ok, R.bind_exc, opt_some, tB_bl, tB_exc, of_ok, of_exc, seq_nx, seq_rt, seq_exc, turn_nx, turn_rt, turn_exc, calm_ok, Env.get, Env.put, isTys, isTy, vw_non, vw_bl, vw_int, vw_str, vw_tup, vw_lst, vw_scr, c_lt, c_le, c_gt, c_ge, c_eq, c_ne, c_in, c_nin, q_int, q_nn, q_ni, q_in, ix_lst, ix_tup, ix_scr, g0, g1, g2, g3, b_lenL, b_lenT, b_lenS, b_max2, b_min2, b_max, b_min, b_sum, b_sorted, b_int, b_bool, b_tupL, b_tupT, b_lstL, b_lstT, b_abs, add_i, sub_i, sl_lst, sl_tup, pt_nil, pt_int, nD_non, nD_int, nD_str, nD_tup, nD_lst, app_get, app_set, store, stores, putAll, decide_true, decide_false, Bool.not_true, Bool.not_false, Bool.and_true, Bool.true_and, Bool.and_false, Bool.false_and, Bool.or_true, Bool.true_or, Bool.or_false, Bool.false_or, Option.map_some, Option.map_none, Option.bind_some, if_true, if_false, ite_true, ite_false, Bool.false_eq_true, reduceIte, reduceCtorEq, List.length_cons, List.length_nil, List.nil_append, List.cons_append, List.map_cons, List.map_nil, List.append_assoc, Nat.zero_add, Nat.reduceAdd, Nat.reduceLT, Nat.reduceEqDiff, Int.reduceNeg, Int.reduceLT, Int.reduceLE, and_self, true_and, and_true, Bool.and_self, ty_beq, nc0, nc1, nc2, nc3, nc4, nc5, nc6, nc7, nc8, nc9, Int.reduceEq, Int.reduceNe, eq_self, Int.reduceSub, Int.reduceAdd, Nat.reduceLeDiff, nm_fade, nm_join, nm_leave, c1, ls_s4, Lmp.keep, fin, Nat.sub_self, List.replicate]
  · simp only [evCs, evC, evE, evEs, R.bind_ok, R.bind_exc, opt_some, tB_bl, tB_exc, of_ok, of_exc, seq_nx, seq_rt, seq_exc, turn_nx, turn_rt, turn_exc, calm_ok, Env.get, Env.put, isTys, isTy, vw_non, vw_bl, vw_int, vw_str, vw_tup, vw_lst, vw_scr, c_lt, c_le, c_gt, c_ge, c_eq, c_ne, c_in, c_nin, q_int, q_nn, q_ni, q_in, ix_lst, ix_tup, ix_scr, g0, g1, g2, g3, b_lenL, b_lenT, b_lenS, b_max2, b_min2, b_max, b_min, b_sum, b_sorted, b_int, b_bool, b_tupL, b_tupT, b_lstL, b_lstT, b_abs, add_i, sub_i, sl_lst, sl_tup, pt_nil, pt_int, nD_non, nD_int, nD_str, nD_tup, nD_lst, app_get, app_set, store, stores, putAll, decide_true, decide_false, Bool.not_true, Bool.not_false, Bool.and_true, Bool.true_and, Bool.and_false, Bool.false_and, Bool.or_true, Bool.true_or, Bool.or_false, Bool.false_or, Option.map_some, Option.map_none, Option.bind_some, if_true, if_false, ite_true, ite_false, Bool.false_eq_true, reduceIte, reduceCtorEq, List.length_cons, List.length_nil, List.nil_append, List.cons_append, List.map_cons, List.map_nil, List.append_assoc, Nat.zero_add, Nat.reduceAdd, Nat.reduceLT, Nat.reduceEqDiff, Int.reduceNeg, Int.reduceLT, Int.reduceLE, and_self, true_and, and_true, Bool.and_self, ty_beq, nc0, nc1, nc2, nc3, nc4, nc5, nc6, nc7, nc8, nc9, Int.reduceEq, Int.reduceNe, eq_self, Int.reduceSub, Int.reduceAdd, Nat.reduceLeDiff, nm_fade, nm_join, nm_leave, nm_store, ls_i, L.m9, l1, la_11, ls_put hs, Lmp.keep, fin, Nat.sub_self, List.replicate]
  · cases hg : getSc n s.scenes with
    | none =>
      have e : delSc n s.scenes = s.scenes := by
        unfold delSc
        refine List.filter_eq_self.mpr fun p hp => ?_
        unfold getSc at hg
        simp only [Option.map_eq_none_iff, List.find?_eq_none] at hg
        have := hg p hp
        simpa using this
      simp only [evCs, evC, evE, evEs, R.bind_ok, R.bind_exc, opt_some, tB_bl, tB_exc, of_ok, of_exc, seq_nx, seq_rt, seq_exc, turn_nx, turn_rt, turn_exc, calm_ok, Env.get, Env.put, isTys, isTy, vw_non, vw_bl, vw_int, vw_str, vw_tup, vw_lst, vw_scr, c_lt, c_le, c_gt, c_ge, c_eq, c_ne, c_in, c_nin, q_int, q_nn, q_ni, q_in, ix_lst, ix_tup, ix_scr, g0, g1, g2, g3, b_lenL, b_lenT, b_lenS, b_max2, b_min2, b_max, b_min, b_sum, b_sorted, b_int, b_bool, b_tupL, b_tupT, b_lstL, b_lstT, b_abs, add_i, sub_i, sl_lst, sl_tup, pt_nil, pt_int, nD_non, nD_int, nD_str, nD_tup, nD_lst, app_get, app_set, store, stores, putAll, decide_true, decide_false, Bool.not_true, Bool.not_false, Bool.and_true, Bool.true_and, Bool.and_false, Bool.false_and, Bool.or_true, Bool.true_or, Bool.or_false, Bool.false_or, Option.map_some, Option.map_none, Option.bind_some, if_true, if_false, ite_true, ite_false, Bool.false_eq_true, reduceIte, reduceCtorEq, List.length_cons, List.length_nil, List.nil_append, List.cons_append, List.map_cons, List.map_nil, List.append_assoc, Nat.zero_add, Nat.reduceAdd, Nat.reduceLT, Nat.reduceEqDiff, Int.reduceNeg, Int.reduceLT, Int.reduceLE, and_self, true_and, and_true, Bool.and_self, ty_beq, nc0, nc1, nc2, nc3, nc4, nc5, nc6, nc7, nc8, nc9, Int.reduceEq, Int.reduceNe, eq_self, Int.reduceSub, Int.reduceAdd, Nat.reduceLeDiff, nm_fade, nm_join, nm_leave, nm_store, la_11, ls_1, keyD, getK_sc, hg, Lmp.keep, fin, Nat.sub_self, List.replicate, e]
    | some v =>
      simp only [evCs, evC, evE, evEs, R.bind_ok, R.bind_exc, opt_some, tB_bl, tB_exc, of_ok, of_exc, seq_nx, seq_rt, seq_exc, turn_nx, turn_rt, turn_exc, calm_ok, Env.get, Env.put, isTys, isTy, vw_non, vw_bl, vw_int, vw_str, vw_tup, vw_lst, vw_scr, c_lt, c_le, c_gt, c_ge, c_eq, c_ne, c_in, c_nin, q_int, q_nn, q_ni, q_in, ix_lst, ix_tup, ix_scr, g0, g1, g2, g3, b_lenL, b_lenT, b_lenS, b_max2, b_min2, b_max, b_min, b_sum, b_sorted, b_int, b_bool, b_tupL, b_tupT, b_lstL, b_lstT, b_abs, add_i, sub_i, sl_lst, sl_tup, pt_nil, pt_int, nD_non, nD_int, nD_str, nD_tup, nD_lst, app_get, app_set, store, stores, putAll, decide_true, decide_false, Bool.not_true, Bool.not_false, Bool.and_true, Bool.true_and, Bool.and_false, Bool.false_and, Bool.or_true, Bool.true_or, Bool.or_false, Bool.false_or, Option.map_some, Option.map_none, Option.bind_some, if_true, if_false, ite_true, ite_false, Bool.false_eq_true, reduceIte, reduceCtorEq, List.length_cons, List.length_nil, List.nil_append, List.cons_append, List.map_cons, List.map_nil, List.append_assoc, Nat.zero_add, Nat.reduceAdd, Nat.reduceLT, Nat.reduceEqDiff, Int.reduceNeg, Int.reduceLT, Int.reduceLE, and_self, true_and, and_true, Bool.and_self, ty_beq, nc0, nc1, nc2, nc3, nc4, nc5, nc6, nc7, nc8, nc9, Int.reduceEq, Int.reduceNe, eq_self, Int.reduceSub, Int.reduceAdd, Nat.reduceLeDiff, nm_fade, nm_join, nm_leave, nm_store, la_11, ls_1, keyD, getK_sc, hg, ls_del, Lmp.keep, fin, Nat.sub_self, List.replicate]
theorem does_eq (L : LT T) (h : s.ok) (k : Nat) (c : Cmd) (hc : c.ok) : callAt T (k + 4) 30 [.ref A.length, cmdD c] (LS A s B) = .ok (ansD (s.says c)) (LS A (s.does c) B) := by
  rw [call_eq L.h30 rfl]
  have l1 := level_eq (A := A) (B := B) L h (k + 1)
  have gt := fun v => go_to_eq (A := A) (B := B) L h k v
  have ao := fun v => at_once_eq (A := A) (B := B) (s := s) L (k + 2) v
  have c0 := fun S => cmd_0 c S
  have c1 := fun S => cmd_1 c S
  have vc := fun S => vw_cmd c S
  have kp := fun nm n ht => keep_eq (A := A) (B := B) L h k nm n ht
  simp only [f30_Lamp_do]
  obtain ⟨nm, n⟩ := c
  cases nm
  · have c1 := fun S => c1 S rfl
    simp only [evCs, evC, evE, evEs, R.bind_ok, R.bind_exc, opt_some, tB_bl, tB_exc, of_ok, of_exc, seq_nx, seq_rt, seq_exc, turn_nx, turn_rt, turn_exc, calm_ok, Env.get, Env.put, isTys, isTy, vw_non, vw_bl, vw_int, vw_str, vw_tup, vw_lst, vw_scr, c_lt, c_le, c_gt, c_ge, c_eq, c_ne, c_in, c_nin, q_int, q_nn, q_ni, q_in, ix_lst, ix_tup, ix_scr, g0, g1, g2, g3, b_lenL, b_lenT, b_lenS, b_max2, b_min2, b_max, b_min, b_sum, b_sorted, b_int, b_bool, b_tupL, b_tupT, b_lstL, b_lstT, b_abs, add_i, sub_i, sl_lst, sl_tup, pt_nil, pt_int, nD_non, nD_int, nD_str, nD_tup, nD_lst, app_get, app_set, store, stores, putAll, decide_true, decide_false, Bool.not_true, Bool.not_false, Bool.and_true, Bool.true_and, Bool.and_false, Bool.false_and, Bool.or_true, Bool.true_or, Bool.or_false, Bool.false_or, Option.map_some, Option.map_none, Option.bind_some, if_true, if_false, ite_true, ite_false, Bool.false_eq_true, reduceIte, reduceCtorEq, List.length_cons, List.length_nil, List.nil_append, List.cons_append, List.map_cons, List.map_nil, List.append_assoc, Nat.zero_add, Nat.reduceAdd, Nat.reduceLT, Nat.reduceEqDiff, Int.reduceNeg, Int.reduceLT, Int.reduceLE, and_self, true_and, and_true, Bool.and_self, ty_beq, nc0, nc1, nc2, nc3, nc4, nc5, nc6, nc7, nc8, nc9, Int.reduceEq, Int.reduceNe, eq_self, Int.reduceSub, Int.reduceAdd, Nat.reduceLeDiff, c0, c1, nm_askL, nm_askG, nm_twice, Nm.twice, nm_level, ls_i, L.m4, gt, Lmp.does, Lmp.says, ansD, fin, Nat.sub_self, List.replicate]
  · simp only [evCs, evC, evE, evEs, R.bind_ok, R.bind_exc, opt_some, tB_bl, tB_exc, of_ok, of_exc, seq_nx, seq_rt, seq_exc, turn_nx, turn_rt, turn_exc, calm_ok, Env.get, Env.put, isTys, isTy, vw_non, vw_bl, vw_int, vw_str, vw_tup, vw_lst, vw_scr, c_lt, c_le, c_gt, c_ge, c_eq, c_ne, c_in, c_nin, q_int, q_nn, q_ni, q_in, ix_lst, ix_tup, ix_scr, g0, g1, g2, g3, b_lenL, b_lenT, b_lenS, b_max2, b_min2, b_max, b_min, b_sum, b_sorted, b_int, b_bool, b_tupL, b_tupT, b_lstL, b_lstT, b_abs, add_i, sub_i, sl_lst, sl_tup, pt_nil, pt_int, nD_non, nD_int, nD_str, nD_tup, nD_lst, app_get, app_set, store, stores, putAll, decide_true, decide_false, Bool.not_true, Bool.not_false, Bool.and_true, Bool.true_and, Bool.and_false, Bool.false_and, Bool.or_true, Bool.true_or, Bool.or_false, Bool.false_or, Option.map_some, Option.map_none, Option.bind_some, if_true, if_false, ite_true, ite_false, Bool.false_eq_true, reduceIte, reduceCtorEq, List.length_cons, List.length_nil, List.nil_append, List.cons_append, List.map_cons, List.map_nil, List.append_assoc, Nat.zero_add, Nat.reduceAdd, Nat.reduceLT, Nat.reduceEqDiff, Int.reduceNeg, Int.reduceLT, Int.reduceLE, and_self, true_and, and_true, Bool.and_self, ty_beq, nc0, nc1, nc2, nc3, nc4, nc5, nc6, nc7, nc8, nc9, Int.reduceEq, Int.reduceNe, eq_self, Int.reduceSub, Int.reduceAdd, Nat.reduceLeDiff, c0, nm_askL, nm_askG, nm_twice, Nm.twice, nm_level, nm_scene, nm_off, ls_i, L.m1, ao, Lmp.does, Lmp.says, ansD, fin, Nat.sub_self, List.replicate]
  · by_cases hz : 0 < s.lvl
    · simp only [evCs, evC, evE, evEs, R.bind_ok, R.bind_exc, opt_some, tB_bl, tB_exc, of_ok, of_exc, seq_nx, seq_rt, seq_exc, turn_nx, turn_rt, turn_exc, calm_ok, Env.get, Env.put, isTys, isTy, vw_non, vw_bl, vw_int, vw_str, vw_tup, vw_lst, vw_scr, c_lt, c_le, c_gt, c_ge, c_eq, c_ne, c_in, c_nin, q_int, q_nn, q_ni, q_in, ix_lst, ix_tup, ix_scr, g0, g1, g2, g3, b_lenL, b_lenT, b_lenS, b_max2, b_min2, b_max, b_min, b_sum, b_sorted, b_int, b_bool, b_tupL, b_tupT, b_lstL, b_lstT, b_abs, add_i, sub_i, sl_lst, sl_tup, pt_nil, pt_int, nD_non, nD_int, nD_str, nD_tup, nD_lst, app_get, app_set, store, stores, putAll, decide_true, decide_false, Bool.not_true, Bool.not_false, Bool.and_true, Bool.true_and, Bool.and_false, Bool.false_and, Bool.or_true, Bool.true_or, Bool.or_false, Bool.false_or, Option.map_some, Option.map_none, Option.bind_some, if_true, if_false, ite_true, ite_false, Bool.false_eq_true, reduceIte, reduceCtorEq, List.length_cons, List.length_nil, List.nil_append, List.cons_append, List.map_cons, List.map_nil, List.append_assoc, Nat.zero_add, Nat.reduceAdd, Nat.reduceLT, Nat.reduceEqDiff, Int.reduceNeg, Int.reduceLT, Int.reduceLE, and_self, true_and, and_true, Bool.and_self, ty_beq, nc0, nc1, nc2, nc3, nc4, nc5, nc6, nc7, nc8, nc9, Int.reduceEq, Int.reduceNe, eq_self, Int.reduceSub, Int.reduceAdd, Nat.reduceLeDiff, c0, nm_askL, nm_askG, nm_twice, Nm.twice, nm_level, nm_scene, nm_off, nm_up, ls_i, L.m1, L.m9, l1, hz, la_9, own_2, own_3, ao, Lmp.does, Lmp.says, ansD, fin, Nat.sub_self, List.replicate]
    · simp only [evCs, evC, evE, evEs, R.bind_ok, R.bind_exc, opt_some, tB_bl, tB_exc, of_ok, of_exc, seq_nx, seq_rt, seq_exc, turn_nx, turn_rt, turn_exc, calm_ok, Env.get, Env.put, isTys, isTy, vw_non, vw_bl, vw_int, vw_str, vw_tup, vw_lst, vw_scr, c_lt, c_le, c_gt, c_ge, c_eq, c_ne, c_in, c_nin, q_int, q_nn, q_ni, q_in, ix_lst, ix_tup, ix_scr, g0, g1, g2, g3, b_lenL, b_lenT, b_lenS, b_max2, b_min2, b_max, b_min, b_sum, b_sorted, b_int, b_bool, b_tupL, b_tupT, b_lstL, b_lstT, b_abs, add_i, sub_i, sl_lst, sl_tup, pt_nil, pt_int, nD_non, nD_int, nD_str, nD_tup, nD_lst, app_get, app_set, store, stores, putAll, decide_true, decide_false, Bool.not_true, Bool.not_false, Bool.and_true, Bool.true_and, Bool.and_false, Bool.false_and, Bool.or_true, Bool.true_or, Bool.or_false, Bool.false_or, Option.map_some, Option.map_none, Option.bind_some, if_true, if_false, ite_true, ite_false, Bool.false_eq_true, reduceIte, reduceCtorEq, List.length_cons, List.length_nil, List.nil_append, List.cons_append, List.map_cons, List.map_nil, List.append_assoc, Nat.zero_add, Nat.reduceAdd, Nat.reduceLT, Nat.reduceEqDiff, Int.reduceNeg, Int.reduceLT, Int.reduceLE, and_self, true_and, and_true, Bool.and_self, ty_beq, nc0, nc1, nc2, nc3, nc4, nc5, nc6, nc7, nc8, nc9, Int.reduceEq, Int.reduceNe, eq_self, Int.reduceSub, Int.reduceAdd, Nat.reduceLeDiff, c0, nm_askL, nm_askG, nm_twice, Nm.twice, nm_level, nm_scene, nm_off, nm_up, ls_i, L.m1, L.m9, l1, hz, la_9, own_2, own_3, ao, Lmp.does, Lmp.says, ansD, fin, Nat.sub_self, List.replicate]
  · by_cases hz : 0 < s.lvl
    · simp only [evCs, evC, evE, evEs, R.bind_ok, R.bind_exc, opt_some, tB_bl, tB_exc, of_ok, of_exc, seq_nx, seq_rt, seq_exc, turn_nx, turn_rt, turn_exc, calm_ok, Env.get, Env.put, isTys, isTy, vw_non, vw_bl, vw_int, vw_str, vw_tup, vw_lst, vw_scr, c_lt, c_le, c_gt, c_ge, c_eq, c_ne, c_in, c_nin, q_int, q_nn, q_ni, q_in, ix_lst, ix_tup, ix_scr, g0, g1, g2, g3, b_lenL, b_lenT, b_lenS, b_max2, b_min2, b_max, b_min, b_sum, b_sorted, b_int, b_bool, b_tupL, b_tupT, b_lstL, b_lstT, b_abs, add_i, sub_i, sl_lst, sl_tup, pt_nil, pt_int, nD_non, nD_int, nD_str, nD_tup, nD_lst, app_get, app_set, store, stores, putAll, decide_true, decide_false, Bool.not_true, Bool.not_false, Bool.and_true, Bool.true_and, Bool.and_false, Bool.false_and, Bool.or_true, Bool.true_or, Bool.or_false, Bool.false_or, Option.map_some, Option.map_none, Option.bind_some, if_true, if_false, ite_true, ite_false, Bool.false_eq_true, reduceIte, reduceCtorEq, List.length_cons, List.length_nil, List.nil_append, List.cons_append, List.map_cons, List.map_nil, List.append_assoc, Nat.zero_add, Nat.reduceAdd, Nat.reduceLT, Nat.reduceEqDiff, Int.reduceNeg, Int.reduceLT, Int.reduceLE, and_self, true_and, and_true, Bool.and_self, ty_beq, nc0, nc1, nc2, nc3, nc4, nc5, nc6, nc7, nc8, nc9, Int.reduceEq, Int.reduceNe, eq_self, Int.reduceSub, Int.reduceAdd, Nat.reduceLeDiff, c0, nm_askL, nm_askG, nm_twice, Nm.twice, nm_level, nm_scene, nm_off, nm_up, ls_i, L.m1, L.m9, l1, hz, la_9, own_2, own_3, ao, Lmp.does, Lmp.says, ansD, fin, Nat.sub_self, List.replicate]
    · simp only [evCs, evC, evE, evEs, R.bind_ok, R.bind_exc, opt_some, tB_bl, tB_exc, of_ok, of_exc, seq_nx, seq_rt, seq_exc, turn_nx, turn_rt, turn_exc, calm_ok, Env.get, Env.put, isTys, isTy, vw_non, vw_bl, vw_int, vw_str, vw_tup, vw_lst, vw_scr, c_lt, c_le, c_gt, c_ge, c_eq, c_ne, c_in, c_nin, q_int, q_nn, q_ni, q_in, ix_lst, ix_tup, ix_scr, g0, g1, g2, g3, b_lenL, b_lenT, b_lenS, b_max2, b_min2, b_max, b_min, b_sum, b_sorted, b_int, b_bool, b_tupL, b_tupT, b_lstL, b_lstT, b_abs, add_i, sub_i, sl_lst, sl_tup, pt_nil, pt_int, nD_non, nD_int, nD_str, nD_tup, nD_lst, app_get, app_set, store, stores, putAll, decide_true, decide_false, Bool.not_true, Bool.not_false, Bool.and_true, Bool.true_and, Bool.and_false, Bool.false_and, Bool.or_true, Bool.true_or, Bool.or_false, Bool.false_or, Option.map_some, Option.map_none, Option.bind_some, if_true, if_false, ite_true, ite_false, Bool.false_eq_true, reduceIte, reduceCtorEq, List.length_cons, List.length_nil, List.nil_append, List.cons_append, List.map_cons, List.map_nil, List.append_assoc, Nat.zero_add, Nat.reduceAdd, Nat.reduceLT, Nat.reduceEqDiff, Int.reduceNeg, Int.reduceLT, Int.reduceLE, and_self, true_and, and_true, Bool.and_self, ty_beq, nc0, nc1, nc2, nc3, nc4, nc5, nc6, nc7, nc8, nc9, Int.reduceEq, Int.reduceNe, eq_self, Int.reduceSub, Int.reduceAdd, Nat.reduceLeDiff, c0, nm_askL, nm_askG, nm_twice, Nm.twice, nm_level, nm_scene, nm_off, nm_up, ls_i, L.m1, L.m9, l1, hz, la_9, own_2, own_3, ao, Lmp.does, Lmp.says, ansD, fin, Nat.sub_self, List.replicate]
  · have c1 := fun S => c1 S rfl
    cases hg : getSc n s.scenes with
    | none => simp only [evCs, evC, evE, evEs, R.bind_ok, R.bind_exc, opt_some, tB_bl, tB_exc, of_ok, of_exc, seq_nx, seq_rt, seq_exc, turn_nx, turn_rt, turn_exc, calm_ok, Env.get, Env.put, isTys, isTy, vw_non, vw_bl, vw_int, vw_str, vw_tup, vw_lst, vw_scr, c_lt, c_le, c_gt, c_ge, c_eq, c_ne, c_in, c_nin, q_int, q_nn, q_ni, q_in, ix_lst, ix_tup, ix_scr, g0, g1, g2, g3, b_lenL, b_lenT, b_lenS, b_max2, b_min2, b_max, b_min, b_sum, b_sorted, b_int, b_bool, b_tupL, b_tupT, b_lstL, b_lstT, b_abs, add_i, sub_i, sl_lst, sl_tup, pt_nil, pt_int, nD_non, nD_int, nD_str, nD_tup, nD_lst, app_get, app_set, store, stores, putAll, decide_true, decide_false, Bool.not_true, Bool.not_false, Bool.and_true, Bool.true_and, Bool.and_false, Bool.false_and, Bool.or_true, Bool.true_or, Bool.or_false, Bool.false_or, Option.map_some, Option.map_none, Option.bind_some, if_true, if_false, ite_true, ite_false, Bool.false_eq_true, reduceIte, reduceCtorEq, List.length_cons, List.length_nil, List.nil_append, List.cons_append, List.map_cons, List.map_nil, List.append_assoc, Nat.zero_add, Nat.reduceAdd, Nat.reduceLT, Nat.reduceEqDiff, Int.reduceNeg, Int.reduceLT, Int.reduceLE, and_self, true_and, and_true, Bool.and_self, ty_beq, nc0, nc1, nc2, nc3, nc4, nc5, nc6, nc7, nc8, nc9, Int.reduceEq, Int.reduceNe, eq_self, Int.reduceSub, Int.reduceAdd, Nat.reduceLeDiff, c0, c1, nm_askL, nm_askG, nm_twice, Nm.twice, nm_level, nm_scene, ls_i, L.m4, gt, la_11, vw_scd, ls_has, ls_idx, hg, Option.isSome, Lmp.does, Lmp.says, ansD, fin, Nat.sub_self, List.replicate]
    | some v => simp only [evCs, evC, evE, evEs, R.bind_ok, R.bind_exc, opt_some, tB_bl, tB_exc, of_ok, of_exc, seq_nx, seq_rt, seq_exc, turn_nx, turn_rt, turn_exc, calm_ok, Env.get, Env.put, isTys, isTy, vw_non, vw_bl, vw_int, vw_str, vw_tup, vw_lst, vw_scr, c_lt, c_le, c_gt, c_ge, c_eq, c_ne, c_in, c_nin, q_int, q_nn, q_ni, q_in, ix_lst, ix_tup, ix_scr, g0, g1, g2, g3, b_lenL, b_lenT, b_lenS, b_max2, b_min2, b_max, b_min, b_sum, b_sorted, b_int, b_bool, b_tupL, b_tupT, b_lstL, b_lstT, b_abs, add_i, sub_i, sl_lst, sl_tup, pt_nil, pt_int, nD_non, nD_int, nD_str, nD_tup, nD_lst, app_get, app_set, store, stores, putAll, decide_true, decide_false, Bool.not_true, Bool.not_false, Bool.and_true, Bool.true_and, Bool.and_false, Bool.false_and, Bool.or_true, Bool.true_or, Bool.or_false, Bool.false_or, Option.map_some, Option.map_none, Option.bind_some, if_true, if_false, ite_true, ite_false, Bool.false_eq_true, reduceIte, reduceCtorEq, List.length_cons, List.length_nil, List.nil_append, List.cons_append, List.map_cons, List.map_nil, List.append_assoc, Nat.zero_add, Nat.reduceAdd, Nat.reduceLT, Nat.reduceEqDiff, Int.reduceNeg, Int.reduceLT, Int.reduceLE, and_self, true_and, and_true, Bool.and_self, ty_beq, nc0, nc1, nc2, nc3, nc4, nc5, nc6, nc7, nc8, nc9, Int.reduceEq, Int.reduceNe, eq_self, Int.reduceSub, Int.reduceAdd, Nat.reduceLeDiff, c0, c1, nm_askL, nm_askG, nm_twice, Nm.twice, nm_level, nm_scene, ls_i, L.m4, gt, la_11, vw_scd, ls_has, ls_idx, hg, Option.isSome, Lmp.does, Lmp.says, ansD, fin, Nat.sub_self, List.replicate]
  · simp only [evCs, evC, evE, evEs, R.bind_ok, R.bind_exc, opt_some, tB_bl, tB_exc, of_ok, of_exc, seq_nx, seq_rt, seq_exc, turn_nx, turn_rt, turn_exc, calm_ok, Env.get, Env.put, isTys, isTy, vw_non, vw_bl, vw_int, vw_str, vw_tup, vw_lst, vw_scr, c_lt, c_le, c_gt, c_ge, c_eq, c_ne, c_in, c_nin, q_int, q_nn, q_ni, q_in, ix_lst, ix_tup, ix_scr, g0, g1, g2, g3, b_lenL, b_lenT, b_lenS, b_max2, b_min2, b_max, b_min, b_sum, b_sorted, b_int, b_bool, b_tupL, b_tupT, b_lstL, b_lstT, b_abs, add_i, sub_i, sl_lst, sl_tup, pt_nil, pt_int, nD_non, nD_int, nD_str, nD_tup, nD_lst, app_get, app_set, store, stores, putAll, decide_true, decide_false, Bool.not_true, Bool.not_false, Bool.and_true, Bool.true_and, Bool.and_false, Bool.false_and, Bool.or_true, Bool.true_or, Bool.or_false, Bool.false_or, Option.map_some, Option.map_none, Option.bind_some, if_true, if_false, ite_true, ite_false, Bool.false_eq_true, reduceIte, reduceCtorEq, List.length_cons, List.length_nil, List.nil_append, List.cons_append, List.map_cons, List.map_nil, List.append_assoc, Nat.zero_add, Nat.reduceAdd, Nat.reduceLT, Nat.reduceEqDiff, Int.reduceNeg, Int.reduceLT, Int.reduceLE, and_self, true_and, and_true, Bool.and_self, ty_beq, nc0, nc1, nc2, nc3, nc4, nc5, nc6, nc7, nc8, nc9, Int.reduceEq, Int.reduceNe, eq_self, Int.reduceSub, Int.reduceAdd, Nat.reduceLeDiff, c0, nm_askL, ls_i, L.m9, l1, Lmp.does, Lmp.says, ansD, fin, Nat.sub_self, List.replicate]
  · have c1 := fun S => c1 S rfl
    by_cases hz : n ∈ s.groups
    · simp only [evCs, evC, evE, evEs, R.bind_ok, R.bind_exc, opt_some, tB_bl, tB_exc, of_ok, of_exc, seq_nx, seq_rt, seq_exc, turn_nx, turn_rt, turn_exc, calm_ok, Env.get, Env.put, isTys, isTy, vw_non, vw_bl, vw_int, vw_str, vw_tup, vw_lst, vw_scr, c_lt, c_le, c_gt, c_ge, c_eq, c_ne, c_in, c_nin, q_int, q_nn, q_ni, q_in, ix_lst, ix_tup, ix_scr, g0, g1, g2, g3, b_lenL, b_lenT, b_lenS, b_max2, b_min2, b_max, b_min, b_sum, b_sorted, b_int, b_bool, b_tupL, b_tupT, b_lstL, b_lstT, b_abs, add_i, sub_i, sl_lst, sl_tup, pt_nil, pt_int, nD_non, nD_int, nD_str, nD_tup, nD_lst, app_get, app_set, store, stores, putAll, decide_true, decide_false, Bool.not_true, Bool.not_false, Bool.and_true, Bool.true_and, Bool.and_false, Bool.false_and, Bool.or_true, Bool.true_or, Bool.or_false, Bool.false_or, Option.map_some, Option.map_none, Option.bind_some, if_true, if_false, ite_true, ite_false, Bool.false_eq_true, reduceIte, reduceCtorEq, List.length_cons, List.length_nil, List.nil_append, List.cons_append, List.map_cons, List.map_nil, List.append_assoc, Nat.zero_add, Nat.reduceAdd, Nat.reduceLT, Nat.reduceEqDiff, Int.reduceNeg, Int.reduceLT, Int.reduceLE, and_self, true_and, and_true, Bool.and_self, ty_beq, nc0, nc1, nc2, nc3, nc4, nc5, nc6, nc7, nc8, nc9, Int.reduceEq, Int.reduceNe, eq_self, Int.reduceSub, Int.reduceAdd, Nat.reduceLeDiff, c0, c1, nm_askL, nm_askG, la_4, in_ints, hz, Lmp.does, Lmp.says, ansD, fin, Nat.sub_self, List.replicate]
    · simp only [evCs, evC, evE, evEs, R.bind_ok, R.bind_exc, opt_some, tB_bl, tB_exc, of_ok, of_exc, seq_nx, seq_rt, seq_exc, turn_nx, turn_rt, turn_exc, calm_ok, Env.get, Env.put, isTys, isTy, vw_non, vw_bl, vw_int, vw_str, vw_tup, vw_lst, vw_scr, c_lt, c_le, c_gt, c_ge, c_eq, c_ne, c_in, c_nin, q_int, q_nn, q_ni, q_in, ix_lst, ix_tup, ix_scr, g0, g1, g2, g3, b_lenL, b_lenT, b_lenS, b_max2, b_min2, b_max, b_min, b_sum, b_sorted, b_int, b_bool, b_tupL, b_tupT, b_lstL, b_lstT, b_abs, add_i, sub_i, sl_lst, sl_tup, pt_nil, pt_int, nD_non, nD_int, nD_str, nD_tup, nD_lst, app_get, app_set, store, stores, putAll, decide_true, decide_false, Bool.not_true, Bool.not_false, Bool.and_true, Bool.true_and, Bool.and_false, Bool.false_and, Bool.or_true, Bool.true_or, Bool.or_false, Bool.false_or, Option.map_some, Option.map_none, Option.bind_some, if_true, if_false, ite_true, ite_false, Bool.false_eq_true, reduceIte, reduceCtorEq, List.length_cons, List.length_nil, List.nil_append, List.cons_append, List.map_cons, List.map_nil, List.append_assoc, Nat.zero_add, Nat.reduceAdd, Nat.reduceLT, Nat.reduceEqDiff, Int.reduceNeg, Int.reduceLT, Int.reduceLE, and_self, true_and, and_true, Bool.and_self, ty_beq, nc0, nc1, nc2, nc3, nc4, nc5, nc6, nc7, nc8, nc9, Int.reduceEq, Int.reduceNe, eq_self, Int.reduceSub, Int.reduceAdd, Nat.reduceLeDiff, c0, c1, nm_askL, nm_askG, la_4, in_ints, hz, Lmp.does, Lmp.says, ansD, fin, Nat.sub_self, List.replicate]
  all_goals
    have c1 := fun S => c1 S rfl
    simp only [evCs, evC, evE, evEs, R.bind_ok, R.bind_exc, opt_some, tB_bl, tB_exc, of_ok, of_exc, seq_nx, seq_rt, seq_exc, turn_nx, turn_rt, turn_exc, calm_ok, Env.get, Env.put, isTys, isTy, vw_non, vw_bl, vw_int, vw_str, vw_tup, vw_lst, vw_scr, c_lt, c_le, c_gt, c_ge, c_eq, c_ne, c_in, c_nin, q_int, q_nn, q_ni, q_in, ix_lst, ix_tup, ix_scr, g0, g1, g2, g3, b_lenL, b_lenT, b_lenS, b_max2, b_min2, b_max, b_min, b_sum, b_sorted, b_int, b_bool, b_tupL, b_tupT, b_lstL, b_lstT, b_abs, add_i, sub_i, sl_lst, sl_tup, pt_nil, pt_int, nD_non, nD_int, nD_str, nD_tup, nD_lst, app_get, app_set, store, stores, putAll, decide_true, decide_false, Bool.not_true, Bool.not_false, Bool.and_true, Bool.true_and, Bool.and_false, Bool.false_and, Bool.or_true, Bool.true_or, Bool.or_false, Bool.false_or, Option.map_some, Option.map_none, Option.bind_some, if_true, if_false, ite_true, ite_false, Bool.false_eq_true, reduceIte, reduceCtorEq, List.length_cons, List.length_nil, List.nil_append, List.cons_append, List.map_cons, List.map_nil, List.append_assoc, Nat.zero_add, Nat.reduceAdd, Nat.reduceLT, Nat.reduceEqDiff, Int.reduceNeg, Int.reduceLT, Int.reduceLE, and_self, true_and, and_true, Bool.and_self, ty_beq, nc0, nc1, nc2, nc3, nc4, nc5, nc6, nc7, nc8, nc9, Int.reduceEq, Int.reduceNe, eq_self, Int.reduceSub, Int.reduceAdd, Nat.reduceLeDiff, c0, c1, nm_askL, nm_askG, nm_twice, Nm.twice, ls_i, L.m7, kp .fade n rfl, kp .join n rfl, kp .leave n rfl, kp .store n rfl, kp .forget n rfl, Lmp.does, Lmp.says, ansD, fin, Nat.sub_self, List.replicate]
theorem note_meant (w : Wrd) (h : Option Wrd) (i : Int) (a : Adr) : ({ s with heard := h, ago := i } : Lmp).meant a = s.meant a := rfl
theorem eqD_heard' {h : Option Wrd} {w : Wrd} (hh : ∀ v, h = some v → v.ok) (hw : w.ok) : eqD (heardD h) (.tup [adrD w.a, cmdD w.c]) = some (decide (h = some w)) := eqD_heard hh hw
theorem vw_heard (h : Option Wrd) (S : Sto) : view S (heardD h) = heardD h := by
  cases h with
  | none => rfl
  | some w => exact vw_word w S
theorem ls_s5a {w : Wrd} : setAttr (LS A s B) (.ref A.length) 5 (.tup [adrD w.a, cmdD w.c]) = some (LS A { s with heard := some w } B) := ls_s5 (i := some w)
theorem ls_s5b : setAttr (LS A s B) (.ref A.length) 5 .non = some (LS A { s with heard := none } B) := ls_s5 (i := none)
theorem hear_eq (L : LT T) (h : s.ok) (k : Nat) (w : Wrd) (hw : w.ok) : callAt T (k + 5) 29 [.ref A.length, wordD w] (LS A s B) = .ok (ansD (s.answer w)) (LS A (s.hear w) B) := by
  rw [call_eq L.h29 rfl]
  simp only [f29_Lamp_hear, wordD]
  have q := eqD_heard' (h := s.heard) h.hrd hw
  have c0 := fun S => cmd_0 w.c S
  have okn : ∀ (v : Option Wrd), (∀ x, v = some x → x.ok) → ({ s with heard := v, ago := 0 } : Lmp).ok := fun v hv => ⟨h.gone0, h.goneT, h.ticks, h.time0, h.time, h.grp, h.grps, h.gnd, h.scs, h.scn, hv, by show (0 : Int) ≤ 0; decide⟩
  have d1 := does_eq (A := A) (B := B) (s := { s with heard := some w, ago := 0 }) L (okn _ (fun x e => by cases e; exact hw)) k w.c hw.2
  have d2 := does_eq (A := A) (B := B) (s := { s with heard := none, ago := 0 }) L (okn _ (fun x e => by cases e)) k w.c hw.2
  have m1 := fun v i => meant_eq (A := A) (B := B) (s := { s with heard := v, ago := i }) L (k + 3) w.a
  simp only [note_meant w] at m1
  have va := fun S => vw_adr w.a S
  have vc := fun S => vw_cmd w.c S
  cases hh : decide (s.heard = some w) <;> by_cases ha : s.ago ≤ 5 <;> cases ht : w.c.nm.twice <;> cases hm : s.meant w.a <;>
    simp only [evCs, evC, evE, evEs, R.bind_ok, R.bind_exc, opt_some, tB_bl, tB_exc, of_ok, of_exc, seq_nx, seq_rt, seq_exc, turn_nx, turn_rt, turn_exc, calm_ok, Env.get, Env.put, isTys, isTy, vw_non, vw_bl, vw_int, vw_str, vw_tup, vw_lst, vw_scr, c_lt, c_le, c_gt, c_ge, c_eq, c_ne, c_in, c_nin, q_int, q_nn, q_ni, q_in, ix_lst, ix_tup, ix_scr, g0, g1, g2, g3, b_lenL, b_lenT, b_lenS, b_max2, b_min2, b_max, b_min, b_sum, b_sorted, b_int, b_bool, b_tupL, b_tupT, b_lstL, b_lstT, b_abs, add_i, sub_i, sl_lst, sl_tup, pt_nil, pt_int, nD_non, nD_int, nD_str, nD_tup, nD_lst, app_get, app_set, store, stores, putAll, decide_true, decide_false, Bool.not_true, Bool.not_false, Bool.and_true, Bool.true_and, Bool.and_false, Bool.false_and, Bool.or_true, Bool.true_or, Bool.or_false, Bool.false_or, Option.map_some, Option.map_none, Option.bind_some, if_true, if_false, ite_true, ite_false, Bool.false_eq_true, reduceIte, reduceCtorEq, List.length_cons, List.length_nil, List.nil_append, List.cons_append, List.map_cons, List.map_nil, List.append_assoc, Nat.zero_add, Nat.reduceAdd, Nat.reduceLT, Nat.reduceEqDiff, Int.reduceNeg, Int.reduceLT, Int.reduceLE, and_self, true_and, and_true, Bool.and_self, ty_beq, nc0, nc1, nc2, nc3, nc4, nc5, nc6, nc7, nc8, nc9, Int.reduceEq, Int.reduceNe, eq_self, Int.reduceSub, Int.reduceAdd, Nat.reduceLeDiff, la_5, la_6, q, hh, ha, c0, nm_twice, ht, vw_heard, ls_s5a, ls_s5b, ls_s6, ls_i, L.m6, L.m2, m1, hm, d1, d2, Lmp.hear, Lmp.answer, Lmp.note, Lmp.does', Lmp.kept, ansD, fin, Nat.sub_self, List.replicate]
end
end Y

end

section
set_option Elab.async false
set_option linter.all false
set_option maxRecDepth 100000
set_option maxHeartbeats 4000000
namespace Y
open PySem L2
/-! ### many lamps -/
def lampsB : Nat → List Lmp → Sto
  | _, [] => []
  | b, s :: r => lampO (b + 1) s :: .dic (scD s.scenes) :: lampsB (b + 2) r
def refsL : Nat → Nat → List D
  | _, 0 => []
  | b, n + 1 => .ref b :: refsL (b + 2) n
/-- a store with lamps in it -/
def WS (A : Sto) (ls : List Lmp) (B : Sto) : Sto := A ++ (lampsB A.length ls ++ B)
theorem lampsB_len : ∀ (b : Nat) (ls : List Lmp), (lampsB b ls).length = 2 * ls.length
  | _, [] => rfl
  | b, s :: r => by simp only [lampsB, List.length_cons, lampsB_len (b + 2) r]; omega
theorem refsL_len : ∀ (b n : Nat), (refsL b n).length = n
  | _, 0 => rfl
  | b, n + 1 => by simp [refsL, refsL_len (b + 2) n]
theorem refsL_get : ∀ (b n i : Nat), i < n → (refsL b n)[i]? = some (.ref (b + 2 * i))
  | b, n + 1, 0, _ => rfl
  | b, n + 1, i + 1, h => by
    simp only [refsL, List.getElem?_cons_succ]
    rw [refsL_get (b + 2) n i (by omega)]
    congr 2
    omega
theorem lampsB_app : ∀ (b : Nat) (l r : List Lmp), lampsB b (l ++ r) = lampsB b l ++ lampsB (b + 2 * l.length) r
  | b, [], r => by simp [lampsB]
  | b, s :: l, r => by
    simp only [List.cons_append, lampsB, lampsB_app (b + 2) l r, List.length_cons]
    rw [show b + 2 + 2 * l.length = b + 2 * (l.length + 1) by omega]
theorem ws_nil {A B : Sto} : WS A [] B = A ++ B := rfl
theorem ws_cons {A B : Sto} {s : Lmp} {r : List Lmp} : WS A (s :: r) B = LS A s (lampsB (A.length + 2) r ++ B) := rfl
theorem ls_ws {A B : Sto} {s : Lmp} {r : List Lmp} : LS A s (lampsB (A.length + 2) r ++ B) = WS (A ++ [lampO (A.length + 1) s, .dic (scD s.scenes)]) r B := by
  simp [LS, WS]
theorem ws_ls {A B : Sto} {s : Lmp} {r : List Lmp} : WS (A ++ [lampO (A.length + 1) s, .dic (scD s.scenes)]) r B = WS A (s :: r) B := by rw [ws_cons, ls_ws]
theorem ws_at {A B : Sto} {ls : List Lmp} {i : Nat} (h : i < ls.length) : WS A ls B = LS (A ++ lampsB A.length (ls.take i)) ls[i] (lampsB (A.length + 2 * i + 2) (ls.drop (i + 1)) ++ B) := by
  have e : ls = ls.take i ++ ls[i] :: ls.drop (i + 1) := by simp
  have hl : (ls.take i).length = i := by simp; omega
  unfold WS LS
  conv => lhs; rw [e]
  rw [lampsB_app, hl, lampsB]
  have : (A ++ lampsB A.length (ls.take i)).length = A.length + 2 * i := by rw [List.length_append, lampsB_len, hl]
  rw [this]
  simp
theorem pre_len {A : Sto} {ls : List Lmp} {i : Nat} (h : i < ls.length) : (A ++ lampsB A.length (ls.take i)).length = A.length + 2 * i := by
  rw [List.length_append, lampsB_len]
  simp; omega
/-- what a comprehension that goes through lamps does -/
theorem comp_lamps {turn : D → Sto → R (Option D)} {it : Nat → Nat → D} {f : Nat → Lmp → Option D} {g : Nat → Lmp → Lmp} {B : Sto} : ∀ (ls : List Lmp) (A : Sto) (i : Nat),
    (∀ (j : Nat) (s : Lmp) (A B : Sto), ls[j]? = some s → turn (it (i + j) A.length) (LS A s B) = .ok (f (i + j) s) (LS A (g (i + j) s) B)) →
    ∀ its : List D, (∀ j, j < ls.length → its[j]? = some (it (i + j) (A.length + 2 * j))) → its.length = ls.length →
    compL turn its (WS A ls B) = .ok ((List.range ls.length).zip ls |>.filterMap fun p => f (i + p.1) p.2) (WS A ((List.range ls.length).zip ls |>.map fun p => g (i + p.1) p.2) B)
  | [], A, i, _, its, _, hl => by
    have : its = [] := List.length_eq_zero_iff.mp hl
    subst this
    rfl
  | s :: r, A, i, ht, its, hi, hl => by
    cases its with
    | nil => cases hl
    | cons d its =>
      have hd := hi 0 (by simp)
      simp only [List.getElem?_cons_zero, Option.some.injEq, Nat.add_zero, Nat.mul_zero] at hd
      subst hd
      have t0 := ht 0 s A (lampsB (A.length + 2) r ++ B) rfl
      rw [Nat.add_zero] at t0
      have ih := comp_lamps (turn := turn) (it := it) (f := f) (g := g) (B := B) r (A ++ [lampO (A.length + 1) (g i s), .dic (scD (g i s).scenes)]) (i + 1) (fun j s' A' B' hj => by
        have := ht (j + 1) s' A' B' (by simpa using hj)
        rw [show i + 1 + j = i + (j + 1) by omega]
        exact this) its (fun j hj => by
        have := hi (j + 1) (by simp; omega)
        simp only [List.getElem?_cons_succ] at this
        rw [this]
        simp only [List.length_append, List.length_cons, List.length_nil]
        congr 2 <;> omega) (by simpa using hl)
      rw [ws_cons]
      simp only [compL]
      rw [t0, R.bind_ok, ls_ws, ih, R.bind_ok]
      rw [List.length_cons, List.range_succ_eq_map, List.zip_cons_cons, List.filterMap_cons, List.map_cons, List.zip_map_left, List.filterMap_map, List.map_map]
      simp only [Nat.add_zero]
      have e1 : ((fun p => f (i + p.1) p.2) ∘ Prod.map Nat.succ id : Nat × Lmp → Option D) = fun p => f (i + 1 + p.1) p.2 := by
        funext p; simp only [Function.comp, Prod.map, id]; congr 1; omega
      have e2 : ((fun p => g (i + p.1) p.2) ∘ Prod.map Nat.succ id : Nat × Lmp → Lmp) = fun p => g (i + 1 + p.1) p.2 := by
        funext p; simp only [Function.comp, Prod.map, id]; congr 1; omega
      rw [e1, e2, ws_ls]
      congr 1
      cases f i s <;> rfl
/-- what a for that goes through lamps does -/
theorem for_lamps {body : Env → Sto → F} {v : Nat} {g : Lmp → Lmp} {B : Sto} (E : D → Env) : ∀ (ls : List Lmp) (A : Sto) (env : Env),
    (∀ d d', (E d).put v d' = E d') → (∀ d', env.put v d' = E d') →
    (∀ (s : Lmp) (A B : Sto), s ∈ ls → body (E (.ref A.length)) (LS A s B) = .nx (E (.ref A.length)) (LS A (g s) B)) →
    ∃ env', forL [v] false body (refsL A.length ls.length) env (WS A ls B) = .nx env' (WS A (ls.map g) B)
  | [], A, env, _, _, _ => ⟨env, rfl⟩
  | s :: r, A, env, hp, he, ht => by
    obtain ⟨env', ih⟩ := for_lamps E r (A ++ [lampO (A.length + 1) (g s), .dic (scD (g s).scenes)]) (E (.ref A.length)) hp (hp _) (fun s' A' B' hs => ht s' A' B' (by simp [hs])) (B := B)
    refine ⟨env', ?_⟩
    have hl : (A ++ [lampO (A.length + 1) (g s), .dic (scD (g s).scenes)]).length = A.length + 2 := by simp
    rw [hl] at ih
    simp only [List.length_cons, refsL, forL, bindT, he, ws_cons]
    rw [ht s A _ (by simp)]
    simp only [F.turn]
    rw [ls_ws, ih, ws_ls, List.map_cons, ws_cons]
/-! ### turns -/
def turnOf (G : Rules) (tg : List Nat) (tp : Bool) (cond elt : E) (env : Env) (d : D) (S : Sto) : R (Option D) := match bindT tg tp d (tg.foldr (fun i e => e.wipe i) env) with
  | some env' => (evE G cond env' S).bind fun c S => (match c with
    | .bl true => (evE G elt env' S).bind fun x S => .ok (some x) S
    | .bl false => .ok none S
    | _ => .bad)
  | none => .bad
section
variable {G : Rules} {tg : List Nat} {tp : Bool} {k : SrcK} {src : List E} {cond elt : E} {env env' : Env} {S S1 S2 S3 : Sto} {ds its xs : List D} {d x : D}
theorem evE_comp : evE G (.comp tg tp k src cond elt) env S = (evEs G src env S).bind fun ds S => (opt (items S k ds) S).bind fun its S => ((compL (turnOf G tg tp cond elt env) its S).calm).bind fun xs S => .ok (.lst xs) S := by
  rw [evE]
  rfl
theorem comp_run (hs : evEs G src env S = .ok ds S1) (hi : items S1 k ds = some its) (hc : compL (turnOf G tg tp cond elt env) its S1 = .ok xs S2) : evE G (.comp tg tp k src cond elt) env S = .ok (.lst xs) S2 := by
  rw [evE_comp, hs, R.bind_ok, hi, opt_some, R.bind_ok, hc]
  rfl
theorem turn_y (hb : bindT tg tp d (tg.foldr (fun i e => e.wipe i) env) = some env') (hc : evE G cond env' S = .ok (.bl true) S1) (he : evE G elt env' S1 = .ok x S2) : turnOf G tg tp cond elt env d S = .ok (some x) S2 := by
  simp only [turnOf, hb, hc, R.bind_ok, he]
theorem turn_n (hb : bindT tg tp d (tg.foldr (fun i e => e.wipe i) env) = some env') (hc : evE G cond env' S = .ok (.bl false) S1) : turnOf G tg tp cond elt env d S = .ok none S1 := by
  simp only [turnOf, hb, hc, R.bind_ok]
end
end Y

end

section
set_option Elab.async false
set_option linter.all false
set_option maxRecDepth 100000
set_option maxHeartbeats 4000000
namespace Y
open PySem L2
/-! ### right words -/
structure WdT (T : Tab) : Prop where
  h0 : T.fn 0 = some f0_is_count
  h10 : T.fn 10 = some f10_is_pair
  h11 : T.fn 11 = some f11_is_address
  h12 : T.fn 12 = some f12_is_command
  h13 : T.fn 13 = some f13_is_ask_group
  h14 : T.fn 14 = some f14_is_word
  h15 : T.fn 15 = some f15_need_word
section
variable {T : Tab}
theorem pair_yes (W : WdT T) (k : Nat) (z : Str) (n b : Int) (names : List D) (S : Sto) (hin : isIn S (.str z) (.tup names) = some true) (hb : bounds.lookup z = some b) : callAt T (k + 2) 10 [.tup [.str z, .int n], .tup names] S = .ok (.bl (decide (0 ≤ n) && decide (n ≤ b))) S := by
  rw [call_eq W.h10 rfl]
  have c := cnt_int W.h0 k 0 b S n
  simp only [f10_is_pair]
  simp only [evCs, evC, evE, evEs, R.bind_ok, R.bind_exc, opt_some, tB_bl, tB_exc, of_ok, of_exc, seq_nx, seq_rt, seq_exc, turn_nx, turn_rt, turn_exc, calm_ok, Env.get, Env.put, isTys, isTy, vw_non, vw_bl, vw_int, vw_str, vw_tup, vw_lst, vw_scr, c_lt, c_le, c_gt, c_ge, c_eq, c_ne, c_in, c_nin, q_int, q_nn, q_ni, q_in, ix_lst, ix_tup, ix_scr, g0, g1, g2, g3, b_lenL, b_lenT, b_lenS, b_max2, b_min2, b_max, b_min, b_sum, b_sorted, b_int, b_bool, b_tupL, b_tupT, b_lstL, b_lstT, b_abs, add_i, sub_i, sl_lst, sl_tup, pt_nil, pt_int, nD_non, nD_int, nD_str, nD_tup, nD_lst, app_get, app_set, store, stores, putAll, decide_true, decide_false, Bool.not_true, Bool.not_false, Bool.and_true, Bool.true_and, Bool.and_false, Bool.false_and, Bool.or_true, Bool.true_or, Bool.or_false, Bool.false_or, Option.map_some, Option.map_none, Option.bind_some, if_true, if_false, ite_true, ite_false, Bool.false_eq_true, reduceIte, reduceCtorEq, List.length_cons, List.length_nil, List.nil_append, List.cons_append, List.map_cons, List.map_nil, List.append_assoc, Nat.zero_add, Nat.reduceAdd, Nat.reduceLT, Nat.reduceEqDiff, Int.reduceNeg, Int.reduceLT, Int.reduceLE, and_self, true_and, and_true, Bool.and_self, ty_beq, nc0, nc1, nc2, nc3, nc4, nc5, nc6, nc7, nc8, nc9, Int.reduceEq, Int.reduceNe, eq_self, Int.reduceSub, Int.reduceAdd, Nat.reduceLeDiff, hin, hb, c, fin_rt0, nr_bl, Nat.sub_self, List.replicate]
theorem pair_no (W : WdT T) (k : Nat) (z : Str) (n : Int) (names : List D) (S : Sto) (hin : isIn S (.str z) (.tup names) = some false) : callAt T (k + 2) 10 [.tup [.str z, .int n], .tup names] S = .ok (.bl false) S := by
  rw [call_eq W.h10 rfl]
  simp only [f10_is_pair]
  simp only [evCs, evC, evE, evEs, R.bind_ok, R.bind_exc, opt_some, tB_bl, tB_exc, of_ok, of_exc, seq_nx, seq_rt, seq_exc, turn_nx, turn_rt, turn_exc, calm_ok, Env.get, Env.put, isTys, isTy, vw_non, vw_bl, vw_int, vw_str, vw_tup, vw_lst, vw_scr, c_lt, c_le, c_gt, c_ge, c_eq, c_ne, c_in, c_nin, q_int, q_nn, q_ni, q_in, ix_lst, ix_tup, ix_scr, g0, g1, g2, g3, b_lenL, b_lenT, b_lenS, b_max2, b_min2, b_max, b_min, b_sum, b_sorted, b_int, b_bool, b_tupL, b_tupT, b_lstL, b_lstT, b_abs, add_i, sub_i, sl_lst, sl_tup, pt_nil, pt_int, nD_non, nD_int, nD_str, nD_tup, nD_lst, app_get, app_set, store, stores, putAll, decide_true, decide_false, Bool.not_true, Bool.not_false, Bool.and_true, Bool.true_and, Bool.and_false, Bool.false_and, Bool.or_true, Bool.true_or, Bool.or_false, Bool.false_or, Option.map_some, Option.map_none, Option.bind_some, if_true, if_false, ite_true, ite_false, Bool.false_eq_true, reduceIte, reduceCtorEq, List.length_cons, List.length_nil, List.nil_append, List.cons_append, List.map_cons, List.map_nil, List.append_assoc, Nat.zero_add, Nat.reduceAdd, Nat.reduceLT, Nat.reduceEqDiff, Int.reduceNeg, Int.reduceLT, Int.reduceLE, and_self, true_and, and_true, Bool.and_self, ty_beq, nc0, nc1, nc2, nc3, nc4, nc5, nc6, nc7, nc8, nc9, Int.reduceEq, Int.reduceNe, eq_self, Int.reduceSub, Int.reduceAdd, Nat.reduceLeDiff, hin, fin_rt0, nr_bl, Nat.sub_self, List.replicate]
def Nm.told : Nm → Bool
  | .off | .up | .down | .askL | .askG => false
  | _ => true
theorem nm_told (S : Sto) (x : Nm) : isIn S (.str (nmS x)) (.tup [.str "level", .str "scene", .str "fade", .str "join", .str "leave", .str "store", .str "forget"]) = some x.told := by cases x <;> rfl
theorem nm_bound (x : Nm) (h : x.told = true) : bounds.lookup (nmS x) = x.bnd := by cases x <;> first | rfl | cases h
theorem ak_names (S : Sto) (x : Ak) : isIn S (.str (akS x)) (.tup [.str "short", .str "group"]) = some x.bnd.isSome := by cases x <;> rfl
theorem ak_bound (x : Ak) (h : x.bnd.isSome = true) : bounds.lookup (akS x) = x.bnd := by cases x <;> first | rfl | cases h
theorem adr_all (a : Adr) (ha : a.ok) : eqD (adrD a) (.tup [.str "all"]) = some (decide (a.k = .all)) := by
  obtain ⟨k, n⟩ := a
  have e : D.tup [.str "all"] = adrD ⟨.all, 0⟩ := rfl
  have h1 := okd_adr ⟨k, n⟩ 7
  have h2 := okd_adr ⟨.all, 0⟩ 7
  have h3 := eqv_adr ha (show Adr.ok ⟨.all, 0⟩ from rfl)
  rw [e]
  have : eqD (adrD ⟨k, n⟩) (adrD ⟨.all, 0⟩) = some ((adrD ⟨k, n⟩).eqv (adrD ⟨.all, 0⟩)) := by
    unfold adrD at *
    cases k <;> simp only [Ak.bnd, Option.isSome, if_true, Bool.false_eq_true, if_false] at * <;> simp only [eqD, h1, h2, Bool.and_self, if_true]
  rw [this, h3]
  congr 1
  cases k
  · have : n = 0 := ha
    subst this
    simp
  · simp
  · simp
theorem address_eq (W : WdT T) (k : Nat) (a : Adr) (ha : a.ok) (S : Sto) : callAt T (k + 3) 11 [adrD a] S = .ok (.bl true) S := by
  rw [call_eq W.h11 rfl]
  have q := adr_all a ha
  simp only [f11_is_address]
  have v := vw_adr a S
  by_cases h : a.k = .all
  · simp only [evCs, evC, evE, evEs, R.bind_ok, R.bind_exc, opt_some, tB_bl, tB_exc, of_ok, of_exc, seq_nx, seq_rt, seq_exc, turn_nx, turn_rt, turn_exc, calm_ok, Env.get, Env.put, isTys, isTy, vw_non, vw_bl, vw_int, vw_str, vw_tup, vw_lst, vw_scr, c_lt, c_le, c_gt, c_ge, c_eq, c_ne, c_in, c_nin, q_int, q_nn, q_ni, q_in, ix_lst, ix_tup, ix_scr, g0, g1, g2, g3, b_lenL, b_lenT, b_lenS, b_max2, b_min2, b_max, b_min, b_sum, b_sorted, b_int, b_bool, b_tupL, b_tupT, b_lstL, b_lstT, b_abs, add_i, sub_i, sl_lst, sl_tup, pt_nil, pt_int, nD_non, nD_int, nD_str, nD_tup, nD_lst, app_get, app_set, store, stores, putAll, decide_true, decide_false, Bool.not_true, Bool.not_false, Bool.and_true, Bool.true_and, Bool.and_false, Bool.false_and, Bool.or_true, Bool.true_or, Bool.or_false, Bool.false_or, Option.map_some, Option.map_none, Option.bind_some, if_true, if_false, ite_true, ite_false, Bool.false_eq_true, reduceIte, reduceCtorEq, List.length_cons, List.length_nil, List.nil_append, List.cons_append, List.map_cons, List.map_nil, List.append_assoc, Nat.zero_add, Nat.reduceAdd, Nat.reduceLT, Nat.reduceEqDiff, Int.reduceNeg, Int.reduceLT, Int.reduceLE, and_self, true_and, and_true, Bool.and_self, ty_beq, nc0, nc1, nc2, nc3, nc4, nc5, nc6, nc7, nc8, nc9, Int.reduceEq, Int.reduceNe, eq_self, Int.reduceSub, Int.reduceAdd, Nat.reduceLeDiff, v, q, h, fin_rt0, nr_bl, Nat.sub_self, List.replicate]
  · obtain ⟨kk, n⟩ := a
    have hb : kk.bnd.isSome = true := by cases kk <;> first | exact absurd rfl h | rfl
    obtain ⟨b, hb'⟩ := Option.isSome_iff_exists.mp hb
    have hk : 0 ≤ n ∧ n ≤ b := by
      have : Adr.ok ⟨kk, n⟩ := ha
      unfold Adr.ok at this
      rw [hb'] at this
      exact this
    have p := pair_yes W k (akS kk) n b [.str "short", .str "group"] S (by rw [ak_names, hb]) (by rw [ak_bound kk hb, hb'])
    rw [decide_eq_true hk.1, decide_eq_true hk.2] at p
    have e : adrD ⟨kk, n⟩ = .tup [.str (akS kk), .int n] := by
      unfold adrD
      rw [if_pos hb]
    rw [e] at v q ⊢
    simp only [evCs, evC, evE, evEs, R.bind_ok, R.bind_exc, opt_some, tB_bl, tB_exc, of_ok, of_exc, seq_nx, seq_rt, seq_exc, turn_nx, turn_rt, turn_exc, calm_ok, Env.get, Env.put, isTys, isTy, vw_non, vw_bl, vw_int, vw_str, vw_tup, vw_lst, vw_scr, c_lt, c_le, c_gt, c_ge, c_eq, c_ne, c_in, c_nin, q_int, q_nn, q_ni, q_in, ix_lst, ix_tup, ix_scr, g0, g1, g2, g3, b_lenL, b_lenT, b_lenS, b_max2, b_min2, b_max, b_min, b_sum, b_sorted, b_int, b_bool, b_tupL, b_tupT, b_lstL, b_lstT, b_abs, add_i, sub_i, sl_lst, sl_tup, pt_nil, pt_int, nD_non, nD_int, nD_str, nD_tup, nD_lst, app_get, app_set, store, stores, putAll, decide_true, decide_false, Bool.not_true, Bool.not_false, Bool.and_true, Bool.true_and, Bool.and_false, Bool.false_and, Bool.or_true, Bool.true_or, Bool.or_false, Bool.false_or, Option.map_some, Option.map_none, Option.bind_some, if_true, if_false, ite_true, ite_false, Bool.false_eq_true, reduceIte, reduceCtorEq, List.length_cons, List.length_nil, List.nil_append, List.cons_append, List.map_cons, List.map_nil, List.append_assoc, Nat.zero_add, Nat.reduceAdd, Nat.reduceLT, Nat.reduceEqDiff, Int.reduceNeg, Int.reduceLT, Int.reduceLE, and_self, true_and, and_true, Bool.and_self, ty_beq, nc0, nc1, nc2, nc3, nc4, nc5, nc6, nc7, nc8, nc9, Int.reduceEq, Int.reduceNe, eq_self, Int.reduceSub, Int.reduceAdd, Nat.reduceLeDiff, q, h, p, fin_rt0, nr_bl, Nat.sub_self, List.replicate]
theorem nm_plain (S : Sto) (x : Nm) (h : x.bnd = none) : isIn S (.str (nmS x)) (.tup (cutD [.str "off", .str "up", .str "down", .str "level?", .str "group?"] none (some 4))) = some true := by cases x <;> first | rfl | cases h
theorem command_eq (W : WdT T) (k : Nat) (c : Cmd) (hc : c.ok) (S : Sto) : callAt T (k + 3) 12 [cmdD c] S = .ok (.bl true) S := by
  rw [call_eq W.h12 rfl]
  simp only [f12_is_command]
  obtain ⟨nm, n⟩ := c
  cases hb : nm.bnd with
  | none =>
    have e : cmdD ⟨nm, n⟩ = .tup [.str (nmS nm)] := by unfold cmdD; rw [hb]; rfl
    rw [e]
    have p := nm_plain S nm hb
    simp only [evCs, evC, evE, evEs, R.bind_ok, R.bind_exc, opt_some, tB_bl, tB_exc, of_ok, of_exc, seq_nx, seq_rt, seq_exc, turn_nx, turn_rt, turn_exc, calm_ok, Env.get, Env.put, isTys, isTy, vw_non, vw_bl, vw_int, vw_str, vw_tup, vw_lst, vw_scr, c_lt, c_le, c_gt, c_ge, c_eq, c_ne, c_in, c_nin, q_int, q_nn, q_ni, q_in, ix_lst, ix_tup, ix_scr, g0, g1, g2, g3, b_lenL, b_lenT, b_lenS, b_max2, b_min2, b_max, b_min, b_sum, b_sorted, b_int, b_bool, b_tupL, b_tupT, b_lstL, b_lstT, b_abs, add_i, sub_i, sl_lst, sl_tup, pt_nil, pt_int, nD_non, nD_int, nD_str, nD_tup, nD_lst, app_get, app_set, store, stores, putAll, decide_true, decide_false, Bool.not_true, Bool.not_false, Bool.and_true, Bool.true_and, Bool.and_false, Bool.false_and, Bool.or_true, Bool.true_or, Bool.or_false, Bool.false_or, Option.map_some, Option.map_none, Option.bind_some, if_true, if_false, ite_true, ite_false, Bool.false_eq_true, reduceIte, reduceCtorEq, List.length_cons, List.length_nil, List.nil_append, List.cons_append, List.map_cons, List.map_nil, List.append_assoc, Nat.zero_add, Nat.reduceAdd, Nat.reduceLT, Nat.reduceEqDiff, Int.reduceNeg, Int.reduceLT, Int.reduceLE, and_self, true_and, and_true, Bool.and_self, ty_beq, nc0, nc1, nc2, nc3, nc4, nc5, nc6, nc7, nc8, nc9, Int.reduceEq, Int.reduceNe, eq_self, Int.reduceSub, Int.reduceAdd, Nat.reduceLeDiff, p, fin_rt0, nr_bl, Nat.sub_self, List.replicate]
  | some b =>
    have e : cmdD ⟨nm, n⟩ = .tup [.str (nmS nm), .int n] := by unfold cmdD; rw [hb]; rfl
    have hk : 0 ≤ n ∧ n ≤ b := by
      unfold Cmd.ok at hc
      rw [hb] at hc
      exact hc
    rw [e]
    cases ht : nm.told with
    | true =>
      have p := pair_yes W k (nmS nm) n b _ S (by rw [nm_told, ht]) (by rw [nm_bound nm ht, hb])
      rw [decide_eq_true hk.1, decide_eq_true hk.2] at p
      simp only [evCs, evC, evE, evEs, R.bind_ok, R.bind_exc, opt_some, tB_bl, tB_exc, of_ok, of_exc, seq_nx, seq_rt, seq_exc, turn_nx, turn_rt, turn_exc, calm_ok, Env.get, Env.put, isTys, isTy, vw_non, vw_bl, vw_int, vw_str, vw_tup, vw_lst, vw_scr, c_lt, c_le, c_gt, c_ge, c_eq, c_ne, c_in, c_nin, q_int, q_nn, q_ni, q_in, ix_lst, ix_tup, ix_scr, g0, g1, g2, g3, b_lenL, b_lenT, b_lenS, b_max2, b_min2, b_max, b_min, b_sum, b_sorted, b_int, b_bool, b_tupL, b_tupT, b_lstL, b_lstT, b_abs, add_i, sub_i, sl_lst, sl_tup, pt_nil, pt_int, nD_non, nD_int, nD_str, nD_tup, nD_lst, app_get, app_set, store, stores, putAll, decide_true, decide_false, Bool.not_true, Bool.not_false, Bool.and_true, Bool.true_and, Bool.and_false, Bool.false_and, Bool.or_true, Bool.true_or, Bool.or_false, Bool.false_or, Option.map_some, Option.map_none, Option.bind_some, if_true, if_false, ite_true, ite_false, Bool.false_eq_true, reduceIte, reduceCtorEq, List.length_cons, List.length_nil, List.nil_append, List.cons_append, List.map_cons, List.map_nil, List.append_assoc, Nat.zero_add, Nat.reduceAdd, Nat.reduceLT, Nat.reduceEqDiff, Int.reduceNeg, Int.reduceLT, Int.reduceLE, and_self, true_and, and_true, Bool.and_self, ty_beq, nc0, nc1, nc2, nc3, nc4, nc5, nc6, nc7, nc8, nc9, Int.reduceEq, Int.reduceNe, eq_self, Int.reduceSub, Int.reduceAdd, Nat.reduceLeDiff, p, fin_rt0, nr_bl, Nat.sub_self, List.replicate]
    | false =>
      have hn : nm = .askG := by cases nm <;> simp_all [Nm.told, Nm.bnd]
      subst hn
      have p := pair_no W k (nmS .askG) n _ S (by rw [nm_told, ht])
      have hb7 : b = 7 := by cases hb; rfl
      have a : callAt T (k + 2) 13 [.tup [.str (nmS .askG), .int n]] S = .ok (.bl true) S := by
        rw [call_eq W.h13 rfl]
        have c := cnt_int W.h0 k 0 7 S n
        rw [decide_eq_true hk.1, decide_eq_true (hb7 ▸ hk.2)] at c
        simp only [f13_is_ask_group]
        simp only [evCs, evC, evE, evEs, R.bind_ok, R.bind_exc, opt_some, tB_bl, tB_exc, of_ok, of_exc, seq_nx, seq_rt, seq_exc, turn_nx, turn_rt, turn_exc, calm_ok, Env.get, Env.put, isTys, isTy, vw_non, vw_bl, vw_int, vw_str, vw_tup, vw_lst, vw_scr, c_lt, c_le, c_gt, c_ge, c_eq, c_ne, c_in, c_nin, q_int, q_nn, q_ni, q_in, ix_lst, ix_tup, ix_scr, g0, g1, g2, g3, b_lenL, b_lenT, b_lenS, b_max2, b_min2, b_max, b_min, b_sum, b_sorted, b_int, b_bool, b_tupL, b_tupT, b_lstL, b_lstT, b_abs, add_i, sub_i, sl_lst, sl_tup, pt_nil, pt_int, nD_non, nD_int, nD_str, nD_tup, nD_lst, app_get, app_set, store, stores, putAll, decide_true, decide_false, Bool.not_true, Bool.not_false, Bool.and_true, Bool.true_and, Bool.and_false, Bool.false_and, Bool.or_true, Bool.true_or, Bool.or_false, Bool.false_or, Option.map_some, Option.map_none, Option.bind_some, if_true, if_false, ite_true, ite_false, Bool.false_eq_true, reduceIte, reduceCtorEq, List.length_cons, List.length_nil, List.nil_append, List.cons_append, List.map_cons, List.map_nil, List.append_assoc, Nat.zero_add, Nat.reduceAdd, Nat.reduceLT, Nat.reduceEqDiff, Int.reduceNeg, Int.reduceLT, Int.reduceLE, and_self, true_and, and_true, Bool.and_self, ty_beq, nc0, nc1, nc2, nc3, nc4, nc5, nc6, nc7, nc8, nc9, Int.reduceEq, Int.reduceNe, eq_self, Int.reduceSub, Int.reduceAdd, Nat.reduceLeDiff, nm_askG, c, fin_rt0, nr_bl, Nat.sub_self, List.replicate]
      simp only [evCs, evC, evE, evEs, R.bind_ok, R.bind_exc, opt_some, tB_bl, tB_exc, of_ok, of_exc, seq_nx, seq_rt, seq_exc, turn_nx, turn_rt, turn_exc, calm_ok, Env.get, Env.put, isTys, isTy, vw_non, vw_bl, vw_int, vw_str, vw_tup, vw_lst, vw_scr, c_lt, c_le, c_gt, c_ge, c_eq, c_ne, c_in, c_nin, q_int, q_nn, q_ni, q_in, ix_lst, ix_tup, ix_scr, g0, g1, g2, g3, b_lenL, b_lenT, b_lenS, b_max2, b_min2, b_max, b_min, b_sum, b_sorted, b_int, b_bool, b_tupL, b_tupT, b_lstL, b_lstT, b_abs, add_i, sub_i, sl_lst, sl_tup, pt_nil, pt_int, nD_non, nD_int, nD_str, nD_tup, nD_lst, app_get, app_set, store, stores, putAll, decide_true, decide_false, Bool.not_true, Bool.not_false, Bool.and_true, Bool.true_and, Bool.and_false, Bool.false_and, Bool.or_true, Bool.true_or, Bool.or_false, Bool.false_or, Option.map_some, Option.map_none, Option.bind_some, if_true, if_false, ite_true, ite_false, Bool.false_eq_true, reduceIte, reduceCtorEq, List.length_cons, List.length_nil, List.nil_append, List.cons_append, List.map_cons, List.map_nil, List.append_assoc, Nat.zero_add, Nat.reduceAdd, Nat.reduceLT, Nat.reduceEqDiff, Int.reduceNeg, Int.reduceLT, Int.reduceLE, and_self, true_and, and_true, Bool.and_self, ty_beq, nc0, nc1, nc2, nc3, nc4, nc5, nc6, nc7, nc8, nc9, Int.reduceEq, Int.reduceNe, eq_self, Int.reduceSub, Int.reduceAdd, Nat.reduceLeDiff, p, a, fin_rt0, nr_bl, Nat.sub_self, List.replicate]
theorem word_eq (W : WdT T) (k : Nat) (w : Wrd) (hw : w.ok) (S : Sto) : callAt T (k + 4) 14 [wordD w] S = .ok (.bl true) S := by
  rw [call_eq W.h14 rfl]
  have a := address_eq W k w.a hw.1 S
  have c := command_eq W k w.c hw.2 S
  simp only [f14_is_word, wordD]
  simp only [evCs, evC, evE, evEs, R.bind_ok, R.bind_exc, opt_some, tB_bl, tB_exc, of_ok, of_exc, seq_nx, seq_rt, seq_exc, turn_nx, turn_rt, turn_exc, calm_ok, Env.get, Env.put, isTys, isTy, vw_non, vw_bl, vw_int, vw_str, vw_tup, vw_lst, vw_scr, c_lt, c_le, c_gt, c_ge, c_eq, c_ne, c_in, c_nin, q_int, q_nn, q_ni, q_in, ix_lst, ix_tup, ix_scr, g0, g1, g2, g3, b_lenL, b_lenT, b_lenS, b_max2, b_min2, b_max, b_min, b_sum, b_sorted, b_int, b_bool, b_tupL, b_tupT, b_lstL, b_lstT, b_abs, add_i, sub_i, sl_lst, sl_tup, pt_nil, pt_int, nD_non, nD_int, nD_str, nD_tup, nD_lst, app_get, app_set, store, stores, putAll, decide_true, decide_false, Bool.not_true, Bool.not_false, Bool.and_true, Bool.true_and, Bool.and_false, Bool.false_and, Bool.or_true, Bool.true_or, Bool.or_false, Bool.false_or, Option.map_some, Option.map_none, Option.bind_some, if_true, if_false, ite_true, ite_false, Bool.false_eq_true, reduceIte, reduceCtorEq, List.length_cons, List.length_nil, List.nil_append, List.cons_append, List.map_cons, List.map_nil, List.append_assoc, Nat.zero_add, Nat.reduceAdd, Nat.reduceLT, Nat.reduceEqDiff, Int.reduceNeg, Int.reduceLT, Int.reduceLE, and_self, true_and, and_true, Bool.and_self, ty_beq, nc0, nc1, nc2, nc3, nc4, nc5, nc6, nc7, nc8, nc9, Int.reduceEq, Int.reduceNe, eq_self, Int.reduceSub, Int.reduceAdd, Nat.reduceLeDiff, a, c, fin_rt0, nr_bl, Nat.sub_self, List.replicate]
theorem need_word_eq (W : WdT T) (k : Nat) (w : Wrd) (hw : w.ok) (S : Sto) : callAt T (k + 5) 15 [wordD w] S = .ok .non S := by
  rw [call_eq W.h15 rfl]
  have a := word_eq W k w hw S
  simp only [f15_need_word]
  simp only [evCs, evC, evE, evEs, R.bind_ok, R.bind_exc, opt_some, tB_bl, tB_exc, of_ok, of_exc, seq_nx, seq_rt, seq_exc, turn_nx, turn_rt, turn_exc, calm_ok, Env.get, Env.put, isTys, isTy, vw_non, vw_bl, vw_int, vw_str, vw_tup, vw_lst, vw_scr, c_lt, c_le, c_gt, c_ge, c_eq, c_ne, c_in, c_nin, q_int, q_nn, q_ni, q_in, ix_lst, ix_tup, ix_scr, g0, g1, g2, g3, b_lenL, b_lenT, b_lenS, b_max2, b_min2, b_max, b_min, b_sum, b_sorted, b_int, b_bool, b_tupL, b_tupT, b_lstL, b_lstT, b_abs, add_i, sub_i, sl_lst, sl_tup, pt_nil, pt_int, nD_non, nD_int, nD_str, nD_tup, nD_lst, app_get, app_set, store, stores, putAll, decide_true, decide_false, Bool.not_true, Bool.not_false, Bool.and_true, Bool.true_and, Bool.and_false, Bool.false_and, Bool.or_true, Bool.true_or, Bool.or_false, Bool.false_or, Option.map_some, Option.map_none, Option.bind_some, if_true, if_false, ite_true, ite_false, Bool.false_eq_true, reduceIte, reduceCtorEq, List.length_cons, List.length_nil, List.nil_append, List.cons_append, List.map_cons, List.map_nil, List.append_assoc, Nat.zero_add, Nat.reduceAdd, Nat.reduceLT, Nat.reduceEqDiff, Int.reduceNeg, Int.reduceLT, Int.reduceLE, and_self, true_and, and_true, Bool.and_self, ty_beq, nc0, nc1, nc2, nc3, nc4, nc5, nc6, nc7, nc8, nc9, Int.reduceEq, Int.reduceNe, eq_self, Int.reduceSub, Int.reduceAdd, Nat.reduceLeDiff, a, fin_nx0, Nat.sub_self, List.replicate]
end
end Y

end

section
set_option Elab.async false
set_option linter.all false
set_option maxRecDepth 100000
set_option maxHeartbeats 4000000
namespace Y
open PySem L2
/-! ### houses -/
structure Own.ok (o : Own) : Prop where
  lg0 : 0 ≤ o.lg
  lg1 : o.lg ≤ 65535
  sh : ∀ i, o.sh = some i → 0 ≤ i ∧ i ≤ 15
  lo0 : 1 ≤ o.lo
  lo1 : o.lo ≤ 100
  hi0 : o.lo ≤ o.hi
  hi1 : o.hi ≤ 100
structure Hok (os : List Own) : Prop where
  l1 : 1 ≤ os.length
  l8 : os.length ≤ 8
  all : ∀ o ∈ os, o.ok
  nd : (os.map (·.lg)).Nodup
structure WT (T : Tab) : Prop extends LT T, WdT T where
  h1 : T.fn 1 = some f1_is_lamp
  h2 : T.fn 2 = some f2_need_house
  h33 : T.fn 33 = some f33_Wire___init
  h34 : T.fn 34 = some f34_Wire_send
  h36 : T.fn 36 = some f36_Wire_need_lamp
  h37 : T.fn 37 = some f37_Wire_level
  i1 : T.init 1 = 33
  w10 : T.meth 1 12 = some 36
  w9 : T.meth 1 9 = some 37
  w15 : T.meth 1 15 = some 34
section
variable {T : Tab}
theorem is_lamp_eq (W : WT T) (k : Nat) (o : Own) (ho : o.ok) (S : Sto) : callAt T (k + 2) 1 [ownD o] S = .ok (.bl true) S := by
  rw [call_eq W.h1 rfl]
  have c := fun i lo hi => cnt_int W.h0 k lo hi S i
  obtain ⟨lg, sh, lo, hi⟩ := o
  have h1 := ho.lg0
  have h2 := ho.lg1
  have h3 := ho.lo0
  have h4 := ho.lo1
  have h5 := ho.hi0
  have h6 := ho.hi1
  simp only at h1 h2 h3 h4 h5 h6
  simp only [f1_is_lamp, ownD]
  cases sh with
  | none => simp only [evCs, evC, evE, evEs, R.bind_ok, R.bind_exc, opt_some, tB_bl, tB_exc, of_ok, of_exc, seq_nx, seq_rt, seq_exc, turn_nx, turn_rt, turn_exc, calm_ok, Env.get, Env.put, isTys, isTy, vw_non, vw_bl, vw_int, vw_str, vw_tup, vw_lst, vw_scr, c_lt, c_le, c_gt, c_ge, c_eq, c_ne, c_in, c_nin, q_int, q_nn, q_ni, q_in, ix_lst, ix_tup, ix_scr, g0, g1, g2, g3, b_lenL, b_lenT, b_lenS, b_max2, b_min2, b_max, b_min, b_sum, b_sorted, b_int, b_bool, b_tupL, b_tupT, b_lstL, b_lstT, b_abs, add_i, sub_i, sl_lst, sl_tup, pt_nil, pt_int, nD_non, nD_int, nD_str, nD_tup, nD_lst, app_get, app_set, store, stores, putAll, decide_true, decide_false, Bool.not_true, Bool.not_false, Bool.and_true, Bool.true_and, Bool.and_false, Bool.false_and, Bool.or_true, Bool.true_or, Bool.or_false, Bool.false_or, Option.map_some, Option.map_none, Option.bind_some, if_true, if_false, ite_true, ite_false, Bool.false_eq_true, reduceIte, reduceCtorEq, List.length_cons, List.length_nil, List.nil_append, List.cons_append, List.map_cons, List.map_nil, List.append_assoc, Nat.zero_add, Nat.reduceAdd, Nat.reduceLT, Nat.reduceEqDiff, Int.reduceNeg, Int.reduceLT, Int.reduceLE, and_self, true_and, and_true, Bool.and_self, ty_beq, nc0, nc1, nc2, nc3, nc4, nc5, nc6, nc7, nc8, nc9, Int.reduceEq, Int.reduceNe, eq_self, Int.reduceSub, Int.reduceAdd, Nat.reduceLeDiff, c, h1, h2, h3, h4, h5, h6, shD, fin_rt0, nr_bl, Nat.sub_self, List.replicate]
  | some i =>
    obtain ⟨h7, h8⟩ := ho.sh i rfl
    simp only [evCs, evC, evE, evEs, R.bind_ok, R.bind_exc, opt_some, tB_bl, tB_exc, of_ok, of_exc, seq_nx, seq_rt, seq_exc, turn_nx, turn_rt, turn_exc, calm_ok, Env.get, Env.put, isTys, isTy, vw_non, vw_bl, vw_int, vw_str, vw_tup, vw_lst, vw_scr, c_lt, c_le, c_gt, c_ge, c_eq, c_ne, c_in, c_nin, q_int, q_nn, q_ni, q_in, ix_lst, ix_tup, ix_scr, g0, g1, g2, g3, b_lenL, b_lenT, b_lenS, b_max2, b_min2, b_max, b_min, b_sum, b_sorted, b_int, b_bool, b_tupL, b_tupT, b_lstL, b_lstT, b_abs, add_i, sub_i, sl_lst, sl_tup, pt_nil, pt_int, nD_non, nD_int, nD_str, nD_tup, nD_lst, app_get, app_set, store, stores, putAll, decide_true, decide_false, Bool.not_true, Bool.not_false, Bool.and_true, Bool.true_and, Bool.and_false, Bool.false_and, Bool.or_true, Bool.true_or, Bool.or_false, Bool.false_or, Option.map_some, Option.map_none, Option.bind_some, if_true, if_false, ite_true, ite_false, Bool.false_eq_true, reduceIte, reduceCtorEq, List.length_cons, List.length_nil, List.nil_append, List.cons_append, List.map_cons, List.map_nil, List.append_assoc, Nat.zero_add, Nat.reduceAdd, Nat.reduceLT, Nat.reduceEqDiff, Int.reduceNeg, Int.reduceLT, Int.reduceLE, and_self, true_and, and_true, Bool.and_self, ty_beq, nc0, nc1, nc2, nc3, nc4, nc5, nc6, nc7, nc8, nc9, Int.reduceEq, Int.reduceNe, eq_self, Int.reduceSub, Int.reduceAdd, Nat.reduceLeDiff, c, h1, h2, h3, h4, h5, h6, h7, h8, shD, fin_rt0, nr_bl, Nat.sub_self, List.replicate]
theorem need_house_eq (W : WT T) (k : Nat) (os : List Own) (ho : Hok os) (S : Sto) : callAt T (k + 3) 2 [.lst (os.map ownD)] S = .ok .non S := by
  rw [call_eq W.h2 rfl]
  have c0 : evE (RG T (k + 2)) (.bi .all [f2_c0]) [some (.lst (os.map ownD)), none] S = .ok (.bl true) S := by
    refine all_map_true (xs := os.map ownD) (comp_map rfl fun d hd => ?_)
    obtain ⟨o, hm, rfl⟩ := List.mem_map.mp hd
    have := is_lamp_eq W k o (ho.all o hm) S
    simp only [evCs, evC, evE, evEs, R.bind_ok, R.bind_exc, opt_some, tB_bl, tB_exc, of_ok, of_exc, seq_nx, seq_rt, seq_exc, turn_nx, turn_rt, turn_exc, calm_ok, Env.get, Env.put, isTys, isTy, vw_non, vw_bl, vw_int, vw_str, vw_tup, vw_lst, vw_scr, c_lt, c_le, c_gt, c_ge, c_eq, c_ne, c_in, c_nin, q_int, q_nn, q_ni, q_in, ix_lst, ix_tup, ix_scr, g0, g1, g2, g3, b_lenL, b_lenT, b_lenS, b_max2, b_min2, b_max, b_min, b_sum, b_sorted, b_int, b_bool, b_tupL, b_tupT, b_lstL, b_lstT, b_abs, add_i, sub_i, sl_lst, sl_tup, pt_nil, pt_int, nD_non, nD_int, nD_str, nD_tup, nD_lst, app_get, app_set, store, stores, putAll, decide_true, decide_false, Bool.not_true, Bool.not_false, Bool.and_true, Bool.true_and, Bool.and_false, Bool.false_and, Bool.or_true, Bool.true_or, Bool.or_false, Bool.false_or, Option.map_some, Option.map_none, Option.bind_some, if_true, if_false, ite_true, ite_false, Bool.false_eq_true, reduceIte, reduceCtorEq, List.length_cons, List.length_nil, List.nil_append, List.cons_append, List.map_cons, List.map_nil, List.append_assoc, Nat.zero_add, Nat.reduceAdd, Nat.reduceLT, Nat.reduceEqDiff, Int.reduceNeg, Int.reduceLT, Int.reduceLE, and_self, true_and, and_true, Bool.and_self, ty_beq, nc0, nc1, nc2, nc3, nc4, nc5, nc6, nc7, nc8, nc9, Int.reduceEq, Int.reduceNe, eq_self, Int.reduceSub, Int.reduceAdd, Nat.reduceLeDiff, Env.wipe, this]
  have c1 : evE (RG T (k + 2)) (.bi .nset [f2_c1]) [some (.lst (os.map ownD)), none] S = .ok (.int os.length) S := by
    have e : evE (RG T (k + 2)) f2_c1 [some (.lst (os.map ownD)), none] S = .ok (.lst (intsL (os.map (·.lg)))) S := by
      unfold f2_c1
      rw [comp_map (xs := os.map ownD) (g := fun d => match d with | .tup (x :: _) => x | _ => .non) rfl]
      · simp [intsL, Function.comp, ownD]
      · intro d hd
        obtain ⟨o, hm, rfl⟩ := List.mem_map.mp hd
        simp only [evCs, evC, evE, evEs, R.bind_ok, R.bind_exc, opt_some, tB_bl, tB_exc, of_ok, of_exc, seq_nx, seq_rt, seq_exc, turn_nx, turn_rt, turn_exc, calm_ok, Env.get, Env.put, isTys, isTy, vw_non, vw_bl, vw_int, vw_str, vw_tup, vw_lst, vw_scr, c_lt, c_le, c_gt, c_ge, c_eq, c_ne, c_in, c_nin, q_int, q_nn, q_ni, q_in, ix_lst, ix_tup, ix_scr, g0, g1, g2, g3, b_lenL, b_lenT, b_lenS, b_max2, b_min2, b_max, b_min, b_sum, b_sorted, b_int, b_bool, b_tupL, b_tupT, b_lstL, b_lstT, b_abs, add_i, sub_i, sl_lst, sl_tup, pt_nil, pt_int, nD_non, nD_int, nD_str, nD_tup, nD_lst, app_get, app_set, store, stores, putAll, decide_true, decide_false, Bool.not_true, Bool.not_false, Bool.and_true, Bool.true_and, Bool.and_false, Bool.false_and, Bool.or_true, Bool.true_or, Bool.or_false, Bool.false_or, Option.map_some, Option.map_none, Option.bind_some, if_true, if_false, ite_true, ite_false, Bool.false_eq_true, reduceIte, reduceCtorEq, List.length_cons, List.length_nil, List.nil_append, List.cons_append, List.map_cons, List.map_nil, List.append_assoc, Nat.zero_add, Nat.reduceAdd, Nat.reduceLT, Nat.reduceEqDiff, Int.reduceNeg, Int.reduceLT, Int.reduceLE, and_self, true_and, and_true, Bool.and_self, ty_beq, nc0, nc1, nc2, nc3, nc4, nc5, nc6, nc7, nc8, nc9, Int.reduceEq, Int.reduceNe, eq_self, Int.reduceSub, Int.reduceAdd, Nat.reduceLeDiff, Env.wipe, own_0]
        rfl
    have i := ints_some (os.map (·.lg))
    have f := firsts_nodup _ ho.nd
    have l : os.length ≤ 4000 := by have := ho.l8; omega
    simp only [evE, evEs, e, R.bind_ok, bi, view, i, Option.bind_some, f, List.length_map, l, if_true, opt_some]
  have l1 : (1 : Int) ≤ (os.length : Int) := by have := ho.l1; omega
  have l8 : (os.length : Int) ≤ 8 := by have := ho.l8; omega
  have ll : (((os.map ownD).length : Nat) : Int) = os.length := by simp
  simp only [f2_need_house]
  obtain ⟨x0, hx0⟩ : ∃ x, x = E.bi .all [f2_c0] := ⟨_, rfl⟩
  obtain ⟨x1, hx1⟩ : ∃ x, x = E.bi .nset [f2_c1] := ⟨_, rfl⟩
  rw [← hx0, ← hx1]
  rw [← hx0] at c0
  rw [← hx1] at c1
  generalize os.map ownD = OL at *
  simp only [evCs, evC, evE, evEs, R.bind_ok, R.bind_exc, opt_some, tB_bl, tB_exc, of_ok, of_exc, seq_nx, seq_rt, seq_exc, turn_nx, turn_rt, turn_exc, calm_ok, Env.get, Env.put, isTys, isTy, vw_non, vw_bl, vw_int, vw_str, vw_tup, vw_lst, vw_scr, c_lt, c_le, c_gt, c_ge, c_eq, c_ne, c_in, c_nin, q_int, q_nn, q_ni, q_in, ix_lst, ix_tup, ix_scr, g0, g1, g2, g3, b_lenL, b_lenT, b_lenS, b_max2, b_min2, b_max, b_min, b_sum, b_sorted, b_int, b_bool, b_tupL, b_tupT, b_lstL, b_lstT, b_abs, add_i, sub_i, sl_lst, sl_tup, pt_nil, pt_int, nD_non, nD_int, nD_str, nD_tup, nD_lst, app_get, app_set, store, stores, putAll, decide_true, decide_false, Bool.not_true, Bool.not_false, Bool.and_true, Bool.true_and, Bool.and_false, Bool.false_and, Bool.or_true, Bool.true_or, Bool.or_false, Bool.false_or, Option.map_some, Option.map_none, Option.bind_some, if_true, if_false, ite_true, ite_false, Bool.false_eq_true, reduceIte, reduceCtorEq, List.length_cons, List.length_nil, List.nil_append, List.cons_append, List.map_cons, List.map_nil, List.append_assoc, Nat.zero_add, Nat.reduceAdd, Nat.reduceLT, Nat.reduceEqDiff, Int.reduceNeg, Int.reduceLT, Int.reduceLE, and_self, true_and, and_true, Bool.and_self, ty_beq, nc0, nc1, nc2, nc3, nc4, nc5, nc6, nc7, nc8, nc9, Int.reduceEq, Int.reduceNe, eq_self, Int.reduceSub, Int.reduceAdd, Nat.reduceLeDiff, c0, c1, l1, l8, ll, fin_nx0, Nat.sub_self, List.replicate]
/-! ### new lamps -/
def newLmp (o : Own) : Lmp := ⟨o, 0, 0, 0, 0, 0, [], [], none, 0⟩
theorem sa_app {S : Sto} {fs : List (Nat × D)} {c f : Nat} {d : D} {r : Sto} (hl : fs.length < 100) : setAttr (S ++ .ins c fs :: r) (.ref S.length) f d = some (S ++ .ins c (putA f d fs) :: r) := by
  rw [sat_ app_get1 hl]
  simp
theorem lamp_init_eq (L : LT T) (k : Nat) (o : Own) (S : Sto) : callAt T (k + 1) 22 [.ref S.length, ownD o] (S ++ [.ins 0 []]) = .ok .non (LS S (newLmp o) []) := by
  rw [call_eq L.h22 rfl]
  simp only [f22_Lamp___init]
  have hd : ∀ fs : List (Nat × D), (S ++ [O.ins 0 fs] ++ [O.dic []])[(S ++ [O.ins 0 fs]).length]? = some (.dic []) := fun fs => by simp
  simp [evCs, evC, evE, evEs, F.of, F.seq, Env.get, opt, store, sa_app, putA, fin, LS, lampO, newLmp, heardD, intsL, scD, dispK, R.bind]
theorem new_lamps {T : Tab} (L : LT T) (k : Nat) {e0 : Option D} {X : D} : ∀ (os : List Own) (S : Sto), compL (turnOf (RG T (k + 1)) [2] false (.kon (.bl true)) (.new 0 [(.var 2)]) [e0, some X, none]) (os.map ownD) S = .ok (refsL S.length os.length) (WS S (os.map newLmp) [])
  | [], S => by simp [compL, refsL, WS, lampsB]
  | o :: os, S => by
    have i := lamp_init_eq L k o S
    have ih := new_lamps L k (e0 := e0) (X := X) os (LS S (newLmp o) [])
    have hl : (LS S (newLmp o) []).length = S.length + 2 := by simp [LS]
    rw [hl] at ih
    have t : turnOf (RG T (k + 1)) [2] false (.kon (.bl true)) (.new 0 [(.var 2)]) [e0, some X, none] (ownD o) S = .ok (some (.ref S.length)) (LS S (newLmp o) []) := by
      refine turn_y (env' := [e0, some X, some (ownD o)]) (S1 := S) rfl rfl ?_
      simp only [evCs, evC, evE, evEs, R.bind_ok, R.bind_exc, opt_some, tB_bl, tB_exc, of_ok, of_exc, seq_nx, seq_rt, seq_exc, turn_nx, turn_rt, turn_exc, calm_ok, Env.get, Env.put, isTys, isTy, vw_non, vw_bl, vw_int, vw_str, vw_tup, vw_lst, vw_scr, c_lt, c_le, c_gt, c_ge, c_eq, c_ne, c_in, c_nin, q_int, q_nn, q_ni, q_in, ix_lst, ix_tup, ix_scr, g0, g1, g2, g3, b_lenL, b_lenT, b_lenS, b_max2, b_min2, b_max, b_min, b_sum, b_sorted, b_int, b_bool, b_tupL, b_tupT, b_lstL, b_lstT, b_abs, add_i, sub_i, sl_lst, sl_tup, pt_nil, pt_int, nD_non, nD_int, nD_str, nD_tup, nD_lst, app_get, app_set, store, stores, putAll, decide_true, decide_false, Bool.not_true, Bool.not_false, Bool.and_true, Bool.true_and, Bool.and_false, Bool.false_and, Bool.or_true, Bool.true_or, Bool.or_false, Bool.false_or, Option.map_some, Option.map_none, Option.bind_some, if_true, if_false, ite_true, ite_false, Bool.false_eq_true, reduceIte, reduceCtorEq, List.length_cons, List.length_nil, List.nil_append, List.cons_append, List.map_cons, List.map_nil, List.append_assoc, Nat.zero_add, Nat.reduceAdd, Nat.reduceLT, Nat.reduceEqDiff, Int.reduceNeg, Int.reduceLT, Int.reduceLE, and_self, true_and, and_true, Bool.and_self, ty_beq, nc0, nc1, nc2, nc3, nc4, nc5, nc6, nc7, nc8, nc9, Int.reduceEq, Int.reduceNe, eq_self, Int.reduceSub, Int.reduceAdd, Nat.reduceLeDiff, L.i0, i]
    simp only [List.map_cons, compL, t, R.bind_ok, ih, List.length_cons, refsL]
    congr 1
    simp [WS, LS, lampsB]
end
end Y

end

section
set_option Elab.async false
set_option linter.all false
set_option maxRecDepth 100000
set_option maxHeartbeats 4000000
namespace Y
open PySem L2
/-! ### wires -/
def wireO (b n : Nat) : O := .ins 1 [(8, .lst (refsL (b + 1) n))]
/-- a store with a wire in it -/
def WR (A : Sto) (ls : List Lmp) (B : Sto) : Sto := WS (A ++ [wireO A.length ls.length]) ls B
section
variable {T : Tab} {A B : Sto} {ls : List Lmp}
theorem wr_0 : (WR A ls B)[A.length]? = some (.ins 1 [(8, .lst (refsL (A.length + 1) ls.length))]) := by simp [WR, WS, wireO]
theorem wr_8 : attr (WR A ls B) (.ref A.length) 8 = some (.lst (refsL (A.length + 1) ls.length)) := by rw [at_ wr_0]; rfl
theorem a1_len {n : Nat} : (A ++ [wireO A.length n]).length = A.length + 1 := by simp
theorem wire_init_eq (W : WT T) (k : Nat) (os : List Own) (ho : Hok os) (S : Sto) : callAt T (k + 4) 33 [.ref S.length, .lst (os.map ownD)] (S ++ [.ins 1 []]) = .ok .non (WR S (os.map newLmp) []) := by
  rw [call_eq W.h33 rfl]
  have n := need_house_eq W k os ho (S ++ [.ins 1 []])
  have c := new_lamps W.toLT (k + 2) (e0 := some (.ref S.length)) (X := .lst (os.map ownD)) os (S ++ [.ins 1 []])
  have c0 : evE (RG T (k + 3)) f33_c0 [some (.ref S.length), some (.lst (os.map ownD)), none] (S ++ [.ins 1 []]) = .ok (.lst (refsL (S.length + 1) os.length)) (WS (S ++ [.ins 1 []]) (os.map newLmp) []) := by
    have hl : (S ++ [O.ins 1 []]).length = S.length + 1 := by simp
    rw [hl] at c
    exact comp_run (ds := [.lst (os.map ownD)]) rfl rfl c
  have sa : setAttr (WS (S ++ [O.ins 1 []]) (os.map newLmp) []) (.ref S.length) 8 (.lst (refsL (S.length + 1) os.length)) = some (WR S (os.map newLmp) []) := by
    have e : WS (S ++ [O.ins 1 []]) (os.map newLmp) [] = S ++ .ins 1 [] :: (lampsB (S.length + 1) (os.map newLmp)) := by simp [WS]
    rw [e, sa_app (by decide)]
    simp [WR, WS, wireO, putA]
  simp only [f33_Wire___init]
  obtain ⟨cc, hcc⟩ : ∃ cc, cc = f33_c0 := ⟨_, rfl⟩; rw [← hcc] at c0
  simp only [← hcc]
  generalize os.map ownD = OL at *
  simp only [evCs, evC, evE, evEs, R.bind_ok, R.bind_exc, opt_some, tB_bl, tB_exc, of_ok, of_exc, seq_nx, seq_rt, seq_exc, turn_nx, turn_rt, turn_exc, calm_ok, Env.get, Env.put, isTys, isTy, vw_non, vw_bl, vw_int, vw_str, vw_tup, vw_lst, vw_scr, c_lt, c_le, c_gt, c_ge, c_eq, c_ne, c_in, c_nin, q_int, q_nn, q_ni, q_in, ix_lst, ix_tup, ix_scr, Y.g0, Y.g1, Y.g2, Y.g3, b_lenL, b_lenT, b_lenS, b_max2, b_min2, b_max, b_min, b_sum, b_sorted, b_int, b_bool, b_tupL, b_tupT, b_lstL, b_lstT, b_abs, add_i, sub_i, sl_lst, sl_tup, pt_nil, pt_int, nD_non, nD_int, nD_str, nD_tup, nD_lst, app_get, app_set, store, stores, putAll, decide_true, decide_false, Bool.not_true, Bool.not_false, Bool.and_true, Bool.true_and, Bool.and_false, Bool.false_and, Bool.or_true, Bool.true_or, Bool.or_false, Bool.false_or, Option.map_some, Option.map_none, Option.bind_some, if_true, if_false, ite_true, ite_false, Bool.false_eq_true, reduceIte, reduceCtorEq, List.length_cons, List.length_nil, List.nil_append, List.cons_append, List.map_cons, List.map_nil, List.append_assoc, Nat.zero_add, Nat.reduceAdd, Nat.reduceLT, Nat.reduceEqDiff, Int.reduceNeg, Int.reduceLT, Int.reduceLE, and_self, true_and, and_true, Bool.and_self, ty_beq, nc0, nc1, nc2, nc3, nc4, nc5, nc6, nc7, nc8, nc9, Int.reduceEq, Int.reduceNe, eq_self, Int.reduceSub, Int.reduceAdd, Nat.reduceLeDiff, n, c0, sa, fin, Nat.sub_self, List.replicate]
theorem new_wire_e {e : E} {env : Env} (W : WT T) (k : Nat) (os : List Own) (ho : Hok os) (S : Sto) (he : evE (RG T (k + 4)) e env S = .ok (.lst (os.map ownD)) S) : evE (RG T (k + 4)) (.new 1 [e]) env S = .ok (.ref S.length) (WR S (os.map newLmp) []) := by
  have i := wire_init_eq W k os ho S
  simp only [evE, evEs, he, R.bind_ok, W.i1, i]
/-! ### through all lamps -/
theorem zip_map {α : Type} {h : Lmp → α} (ls : List Lmp) : (((List.range ls.length).zip ls).map fun p => h p.2) = ls.map h := by
  have : ((List.range ls.length).zip ls).map (fun p => h p.2) = (((List.range ls.length).zip ls).map (·.2)).map h := by rw [List.map_map]; rfl
  rw [this]
  congr 1
  exact List.map_snd_zip (by simp)
theorem zip_snd (ls : List Lmp) : (((List.range ls.length).zip ls).map fun p => p.2) = ls := List.map_snd_zip (by simp)
theorem zipL_fm {h : Lmp → D} (ls : List Lmp) : (((List.range ls.length).zip ls).filterMap fun p => some (h p.2)) = ls.map h := by
  rw [← zip_map, ← List.filterMap_eq_map]
  rfl
/-- a comprehension over a wire's lamps that leaves them as they are -/
theorem comp_each {G : Rules} {v m f : Nat} {env : Env} {h : Lmp → D} (hg : ∀ (s : Lmp) (A B : Sto), s ∈ ls → G.call f [.ref A.length] (LS A s B) = .ok (h s) (LS A s B)) (hm : G.meth 0 m = some f) (h0 : env.get 0 = some (.ref A.length)) (hv : v < env.length) (hv0 : v ≠ 0) :
    evE G (.comp [v] false .seq [(.attr (.var 0) 8)] (.kon (.bl true)) (.meth m (.var v) [])) env (WR A ls B) = .ok (.lst (ls.map h)) (WR A ls B) := by
  have e1 : evEs G [.attr (.var 0) 8] env (WR A ls B) = .ok [.lst (refsL (A.length + 1) ls.length)] (WR A ls B) := by simp only [evEs, evE, h0, opt_some, R.bind_ok, wr_8]
  have c := comp_lamps (turn := turnOf G [v] false (.kon (.bl true)) (.meth m (.var v) []) env) (it := fun _ a => .ref a) (f := fun _ s => some (h s)) (g := fun _ s => s) (B := B) ls (A ++ [wireO A.length ls.length]) 0 (fun j s A' B' hj => by
      have hs := hg s A' B' (List.mem_of_getElem? hj)
      have g : Env.get ((env.wipe v).put v (.ref A'.length)) v = some (.ref A'.length) := wp_same hv
      refine turn_y (S1 := LS A' s B') rfl rfl ?_
      simp only [List.foldr, evE, evEs, R.bind_ok, g, opt_some, calm_ok, ls_i, hm, hs]) (refsL (A.length + 1) ls.length) (fun j hj => by rw [refsL_get _ _ _ hj, a1_len]) (refsL_len _ _)
  rw [zipL_fm, zip_snd] at c
  exact comp_run e1 rfl c
theorem levels_eq (W : WT T) (h55 : T.fn 55 = some f55_Wire_levels) (hs : ∀ s ∈ ls, s.ok) (k : Nat) : callAt T (k + 3) 55 [.ref A.length] (WR A ls B) = .ok (.lst (intsL (ls.map (·.lvl)))) (WR A ls B) := by
  rw [call_eq h55 rfl]
  have c := comp_each (G := RG T (k + 2)) (v := 1) (m := 9) (f := 23) (env := [some (.ref A.length), none]) (A := A) (B := B) (ls := ls) (h := fun s => .int s.lvl) (fun s A' B' hm => level_eq W.toLT (hs s hm) k) W.m9 rfl (by simp) (by decide)
  have c : evE (RG T (k + 2)) f55_c0 [some (.ref A.length), none] (WR A ls B) = _ := c
  have nr := norefs_ints (ls.map (·.lvl))
  have e : ls.map (fun s => D.int s.lvl) = intsL (ls.map (·.lvl)) := by simp [intsL, Function.comp]
  rw [e] at c
  have b : (RG T (k + 2)) = ⟨callAt T (k + 2), T.init, T.meth⟩ := rfl
  show fin true (WR A ls B) (evCs (RG T (k + 2)) [.ret f55_c0] [some (.ref A.length), none] (WR A ls B)) = _
  rw [cs_rt (ret_e c), fin_rt0, if_pos (by simp only [D.noref, nr])]
/-- the defs of Lamp.left, Lamp.tick, Lamp.state, Wire.tick, Wire.state, Wire.rest -/
structure WM (T : Tab) : Prop where
  h49 : T.fn 49 = some f49_Lamp_left
  h54 : T.fn 54 = some f54_Wire_rest
  m8 : T.meth 0 8 = some 49
theorem left_eq {s : Lmp} (h : T.fn 49 = some f49_Lamp_left) (k : Nat) : callAt T (k + 1) 49 [.ref A.length] (LS A s B) = .ok (.int s.left) (LS A s B) := by
  rw [call_eq h rfl]
  simp only [f49_Lamp_left, Lmp.left]
  simp only [evCs, evC, evE, evEs, R.bind_ok, R.bind_exc, opt_some, tB_bl, tB_exc, of_ok, of_exc, seq_nx, seq_rt, seq_exc, turn_nx, turn_rt, turn_exc, calm_ok, Env.get, Env.put, isTys, isTy, vw_non, vw_bl, vw_int, vw_str, vw_tup, vw_lst, vw_scr, c_lt, c_le, c_gt, c_ge, c_eq, c_ne, c_in, c_nin, q_int, q_nn, q_ni, q_in, ix_lst, ix_tup, ix_scr, Y.g0, Y.g1, Y.g2, Y.g3, b_lenL, b_lenT, b_lenS, b_max2, b_min2, b_max, b_min, b_sum, b_sorted, b_int, b_bool, b_tupL, b_tupT, b_lstL, b_lstT, b_abs, add_i, sub_i, sl_lst, sl_tup, pt_nil, pt_int, nD_non, nD_int, nD_str, nD_tup, nD_lst, app_get, app_set, store, stores, putAll, decide_true, decide_false, Bool.not_true, Bool.not_false, Bool.and_true, Bool.true_and, Bool.and_false, Bool.false_and, Bool.or_true, Bool.true_or, Bool.or_false, Bool.false_or, Option.map_some, Option.map_none, Option.bind_some, if_true, if_false, ite_true, ite_false, Bool.false_eq_true, reduceIte, reduceCtorEq, List.length_cons, List.length_nil, List.nil_append, List.cons_append, List.map_cons, List.map_nil, List.append_assoc, Nat.zero_add, Nat.reduceAdd, Nat.reduceLT, Nat.reduceEqDiff, Int.reduceNeg, Int.reduceLT, Int.reduceLE, and_self, true_and, and_true, Bool.and_self, ty_beq, nc0, nc1, nc2, nc3, nc4, nc5, nc6, nc7, nc8, nc9, Int.reduceEq, Int.reduceNe, eq_self, Int.reduceSub, Int.reduceAdd, Nat.reduceLeDiff, la_13, la_3, fin_rt0, nr_int, Nat.sub_self, List.replicate]
theorem rest_eq (h49 : T.fn 49 = some f49_Lamp_left) (h54 : T.fn 54 = some f54_Wire_rest) (m8 : T.meth 0 8 = some 49) (k : Nat) (hl : ls ≠ []) : ∃ r, maxI (ls.map (·.left)) = some r ∧ callAt T (k + 2) 54 [.ref A.length] (WR A ls B) = .ok (.int r) (WR A ls B) := by
  cases hm : maxI (ls.map (·.left)) with
  | none => cases ls with
    | nil => exact absurd rfl hl
    | cons a b => cases hm
  | some r =>
    refine ⟨r, rfl, ?_⟩
    rw [call_eq h54 rfl]
    have c := comp_each (G := RG T (k + 1)) (v := 1) (m := 8) (f := 49) (env := [some (.ref A.length), none]) (A := A) (B := B) (ls := ls) (h := fun s => .int s.left) (fun s A' B' hm => left_eq h49 k) m8 rfl (by simp) (by decide)
    have c : evE (RG T (k + 1)) f54_c0 [some (.ref A.length), none] (WR A ls B) = _ := c
    have e : ls.map (fun s => D.int s.left) = intsL (ls.map (·.left)) := by simp [intsL, Function.comp]
    rw [e] at c
    show fin true (WR A ls B) (evCs (RG T (k + 1)) [.ret (.bi .max [f54_c0])] [some (.ref A.length), none] (WR A ls B)) = _
    have d : evE (RG T (k + 1)) (.bi .max [f54_c0]) [some (.ref A.length), none] (WR A ls B) = .ok (.int r) (WR A ls B) := by
      simp only [evE, evEs, c, R.bind_ok, b_max, hm, Option.map_some, opt_some]
    rw [cs_rt (ret_e d), fin_rt0, if_pos (nr_int r)]
/-! ### sending -/
def hearAll (w : Wrd) (deaf : List Int) (ls : List Lmp) : List Lmp := ((List.range ls.length).zip ls).map fun p => if (p.1 : Int) ∈ deaf then p.2 else p.2.hear w
def saidAll (w : Wrd) (deaf : List Int) (ls : List Lmp) : List Int := ((List.range ls.length).zip ls).filterMap fun p => if (p.1 : Int) ∈ deaf then none else p.2.answer w
def sayD : List Int → D
  | [] => .non
  | [x] => .int x
  | _ => .str "clash"
theorem hearAll_len (w : Wrd) (deaf : List Int) (ls : List Lmp) : (hearAll w deaf ls).length = ls.length := by simp [hearAll]
theorem sayD_nr (xs : List Int) : (sayD xs).noref = true := by
  cases xs with
  | nil => rfl
  | cons x xs => cases xs <;> rfl
theorem send_c1 (W : WT T) (hs : ∀ s ∈ ls, s.ok) (k : Nat) (w : Wrd) (hw : w.ok) (deaf : List Int) (e3 e4 e5 e6 e7 : Option D) :
    evE (RG T (k + 5)) f34_c1 [some (.ref A.length), some (wordD w), some (.lst (intsL deaf)), e3, e4, e5, e6, e7] (WR A ls B) = .ok (.lst (((List.range ls.length).zip ls).filterMap fun p => if (p.1 : Int) ∈ deaf then none else some (ansD (p.2.answer w)))) (WR A (hearAll w deaf ls) B) := by
  have e1 : evEs (RG T (k + 5)) [.attr (.var 0) 8] [some (.ref A.length), some (wordD w), some (.lst (intsL deaf)), e3, e4, e5, e6, e7] (WR A ls B) = .ok [.lst (refsL (A.length + 1) ls.length)] (WR A ls B) := by simp only [evEs, evE, Env.get, opt_some, R.bind_ok, wr_8]
  have c := comp_lamps (turn := turnOf (RG T (k + 5)) [3, 5] true (.cmp .notin (.var 3) (.var 2)) (.meth 5 (.var 5) [(.var 1)]) [some (.ref A.length), some (wordD w), some (.lst (intsL deaf)), e3, e4, e5, e6, e7]) (it := fun i a => .tup [.int i, .ref a]) (f := fun i s => if (i : Int) ∈ deaf then none else some (ansD (s.answer w))) (g := fun i s => if (i : Int) ∈ deaf then s else s.hear w) (B := B) ls (A ++ [wireO A.length ls.length]) 0 (fun j s A' B' hj => by
      have hh := hear_eq (A := A') (B := B') W.toLT (hs s (List.mem_of_getElem? hj)) k w hw
      simp only [Nat.zero_add]
      by_cases hd : (j : Int) ∈ deaf
      · simp only [hd, if_true]
        refine turn_n (env' := [some (.ref A.length), some (wordD w), some (.lst (intsL deaf)), some (.int j), e4, some (.ref A'.length), e6, e7]) rfl ?_
        simp only [evCs, evC, evE, evEs, R.bind_ok, R.bind_exc, opt_some, tB_bl, tB_exc, of_ok, of_exc, seq_nx, seq_rt, seq_exc, turn_nx, turn_rt, turn_exc, calm_ok, Env.get, Env.put, isTys, isTy, vw_non, vw_bl, vw_int, vw_str, vw_tup, vw_lst, vw_scr, c_lt, c_le, c_gt, c_ge, c_eq, c_ne, c_in, c_nin, q_int, q_nn, q_ni, q_in, ix_lst, ix_tup, ix_scr, Y.g0, Y.g1, Y.g2, Y.g3, b_lenL, b_lenT, b_lenS, b_max2, b_min2, b_max, b_min, b_sum, b_sorted, b_int, b_bool, b_tupL, b_tupT, b_lstL, b_lstT, b_abs, add_i, sub_i, sl_lst, sl_tup, pt_nil, pt_int, nD_non, nD_int, nD_str, nD_tup, nD_lst, app_get, app_set, store, stores, putAll, decide_true, decide_false, Bool.not_true, Bool.not_false, Bool.and_true, Bool.true_and, Bool.and_false, Bool.false_and, Bool.or_true, Bool.true_or, Bool.or_false, Bool.false_or, Option.map_some, Option.map_none, Option.bind_some, if_true, if_false, ite_true, ite_false, Bool.false_eq_true, reduceIte, reduceCtorEq, List.length_cons, List.length_nil, List.nil_append, List.cons_append, List.map_cons, List.map_nil, List.append_assoc, Nat.zero_add, Nat.reduceAdd, Nat.reduceLT, Nat.reduceEqDiff, Int.reduceNeg, Int.reduceLT, Int.reduceLE, and_self, true_and, and_true, Bool.and_self, ty_beq, nc0, nc1, nc2, nc3, nc4, nc5, nc6, nc7, nc8, nc9, Int.reduceEq, Int.reduceNe, eq_self, Int.reduceSub, Int.reduceAdd, Nat.reduceLeDiff, in_ints, hd]
      · simp only [hd, if_false]
        refine turn_y (env' := [some (.ref A.length), some (wordD w), some (.lst (intsL deaf)), some (.int j), e4, some (.ref A'.length), e6, e7]) (S1 := LS A' s B') rfl ?_ ?_
        · simp only [evCs, evC, evE, evEs, R.bind_ok, R.bind_exc, opt_some, tB_bl, tB_exc, of_ok, of_exc, seq_nx, seq_rt, seq_exc, turn_nx, turn_rt, turn_exc, calm_ok, Env.get, Env.put, isTys, isTy, vw_non, vw_bl, vw_int, vw_str, vw_tup, vw_lst, vw_scr, c_lt, c_le, c_gt, c_ge, c_eq, c_ne, c_in, c_nin, q_int, q_nn, q_ni, q_in, ix_lst, ix_tup, ix_scr, Y.g0, Y.g1, Y.g2, Y.g3, b_lenL, b_lenT, b_lenS, b_max2, b_min2, b_max, b_min, b_sum, b_sorted, b_int, b_bool, b_tupL, b_tupT, b_lstL, b_lstT, b_abs, add_i, sub_i, sl_lst, sl_tup, pt_nil, pt_int, nD_non, nD_int, nD_str, nD_tup, nD_lst, app_get, app_set, store, stores, putAll, decide_true, decide_false, Bool.not_true, Bool.not_false, Bool.and_true, Bool.true_and, Bool.and_false, Bool.false_and, Bool.or_true, Bool.true_or, Bool.or_false, Bool.false_or, Option.map_some, Option.map_none, Option.bind_some, if_true, if_false, ite_true, ite_false, Bool.false_eq_true, reduceIte, reduceCtorEq, List.length_cons, List.length_nil, List.nil_append, List.cons_append, List.map_cons, List.map_nil, List.append_assoc, Nat.zero_add, Nat.reduceAdd, Nat.reduceLT, Nat.reduceEqDiff, Int.reduceNeg, Int.reduceLT, Int.reduceLE, and_self, true_and, and_true, Bool.and_self, ty_beq, nc0, nc1, nc2, nc3, nc4, nc5, nc6, nc7, nc8, nc9, Int.reduceEq, Int.reduceNe, eq_self, Int.reduceSub, Int.reduceAdd, Nat.reduceLeDiff, in_ints, hd]
        · simp only [evCs, evC, evE, evEs, R.bind_ok, R.bind_exc, opt_some, tB_bl, tB_exc, of_ok, of_exc, seq_nx, seq_rt, seq_exc, turn_nx, turn_rt, turn_exc, calm_ok, Env.get, Env.put, isTys, isTy, vw_non, vw_bl, vw_int, vw_str, vw_tup, vw_lst, vw_scr, c_lt, c_le, c_gt, c_ge, c_eq, c_ne, c_in, c_nin, q_int, q_nn, q_ni, q_in, ix_lst, ix_tup, ix_scr, Y.g0, Y.g1, Y.g2, Y.g3, b_lenL, b_lenT, b_lenS, b_max2, b_min2, b_max, b_min, b_sum, b_sorted, b_int, b_bool, b_tupL, b_tupT, b_lstL, b_lstT, b_abs, add_i, sub_i, sl_lst, sl_tup, pt_nil, pt_int, nD_non, nD_int, nD_str, nD_tup, nD_lst, app_get, app_set, store, stores, putAll, decide_true, decide_false, Bool.not_true, Bool.not_false, Bool.and_true, Bool.true_and, Bool.and_false, Bool.false_and, Bool.or_true, Bool.true_or, Bool.or_false, Bool.false_or, Option.map_some, Option.map_none, Option.bind_some, if_true, if_false, ite_true, ite_false, Bool.false_eq_true, reduceIte, reduceCtorEq, List.length_cons, List.length_nil, List.nil_append, List.cons_append, List.map_cons, List.map_nil, List.append_assoc, Nat.zero_add, Nat.reduceAdd, Nat.reduceLT, Nat.reduceEqDiff, Int.reduceNeg, Int.reduceLT, Int.reduceLE, and_self, true_and, and_true, Bool.and_self, ty_beq, nc0, nc1, nc2, nc3, nc4, nc5, nc6, nc7, nc8, nc9, Int.reduceEq, Int.reduceNe, eq_self, Int.reduceSub, Int.reduceAdd, Nat.reduceLeDiff, ls_i, W.m5, hh])
    ((List.range ls.length).zip (refsL (A.length + 1) ls.length) |>.map fun p => .tup [.int (p.1 : Nat), p.2]) (fun j hj => by
      rw [List.getElem?_map]
      have : ((List.range ls.length).zip (refsL (A.length + 1) ls.length))[j]? = some (j, .ref (A.length + 1 + 2 * j)) := by
        rw [List.getElem?_zip_eq_some]
        exact ⟨by simp [hj], refsL_get _ _ _ hj⟩
      rw [this, a1_len]
      simp) (by simp [refsL_len])
  have c2 := comp_run (G := RG T (k + 5)) (tg := [3, 5]) (tp := true) (k := .enum) (cond := .cmp .notin (.var 3) (.var 2)) (elt := .meth 5 (.var 5) [(.var 1)]) e1 (show items (WR A ls B) .enum [.lst (refsL (A.length + 1) ls.length)] = some _ by simp only [items, refsL_len]) c
  unfold f34_c1
  rw [c2]
  simp only [Nat.zero_add]
  unfold WR
  rw [hearAll_len]
  rfl
theorem ans_nn (a : Option Int) : nonD (ansD a) = a.isNone := by cases a <;> rfl
theorem send_c2 {G : Rules} {S : Sto} {α : Type} (l : List α) (q : α → Option (Option Int)) (e0 e1 e2 e3 e5 e6 e7 : Option D) :
    evE G f34_c2 [e0, e1, e2, e3, some (.lst (l.filterMap fun p => (q p).map ansD)), e5, e6, e7] S = .ok (.lst (intsL (l.filterMap fun p => (q p).bind id))) S := by
  unfold f34_c2
  have e : (l.filterMap fun p => (q p).map ansD) = (l.filterMap q).map ansD := by rw [List.map_filterMap]
  rw [e, comp_ok (ds := [.lst ((l.filterMap q).map ansD)]) (its := (l.filterMap q).map ansD) (p := fun d => !nonD d) (g := fun d => d) rfl rfl ?_]
  · congr 2
    have e2 : (l.filterMap fun p => (q p).bind id) = (l.filterMap q).filterMap id := by rw [List.filterMap_filterMap]
    rw [e2, List.map_id', List.filter_map]
    generalize l.filterMap q = r
    induction r with
    | nil => rfl
    | cons a r ih => cases a <;> simp_all [ansD, nonD, intsL, Function.comp]
  · intro d hd
    exact ⟨_, rfl, rfl, fun _ => rfl⟩
theorem send_eq (W : WT T) (hs : ∀ s ∈ ls, s.ok) (k : Nat) (w : Wrd) (hw : w.ok) (deaf : List Int) (hd : ∀ x ∈ deaf, 0 ≤ x ∧ x ≤ (ls.length : Int) - 1) : callAt T (k + 6) 34 [.ref A.length, wordD w, .lst (intsL deaf)] (WR A ls B) = .ok (sayD (saidAll w deaf ls)) (WR A (hearAll w deaf ls) B) := by
  rw [call_eq W.h34 rfl]
  have nw := need_word_eq W.toWdT k w hw (WR A ls B)
  have c0 : evE (RG T (k + 5)) (.bi .all [f34_c0]) [some (.ref A.length), some (wordD w), some (.lst (intsL deaf)), none, none, none, none, none] (WR A ls B) = .ok (.bl true) (WR A ls B) := by
    refine all_map_true (xs := intsL deaf) (comp_map rfl fun d hm => ?_)
    obtain ⟨x, hx, rfl⟩ := List.mem_map.mp hm
    obtain ⟨h1, h2⟩ := hd x hx
    have cn := fun S => cnt_int W.h0 (k + 4) 0 ((ls.length : Int) - 1) S x
    simp only [evCs, evC, evE, evEs, R.bind_ok, R.bind_exc, opt_some, tB_bl, tB_exc, of_ok, of_exc, seq_nx, seq_rt, seq_exc, turn_nx, turn_rt, turn_exc, calm_ok, Env.get, Env.put, isTys, isTy, vw_non, vw_bl, vw_int, vw_str, vw_tup, vw_lst, vw_scr, c_lt, c_le, c_gt, c_ge, c_eq, c_ne, c_in, c_nin, q_int, q_nn, q_ni, q_in, ix_lst, ix_tup, ix_scr, Y.g0, Y.g1, Y.g2, Y.g3, b_lenL, b_lenT, b_lenS, b_max2, b_min2, b_max, b_min, b_sum, b_sorted, b_int, b_bool, b_tupL, b_tupT, b_lstL, b_lstT, b_abs, add_i, sub_i, sl_lst, sl_tup, pt_nil, pt_int, nD_non, nD_int, nD_str, nD_tup, nD_lst, app_get, app_set, store, stores, putAll, decide_true, decide_false, Bool.not_true, Bool.not_false, Bool.and_true, Bool.true_and, Bool.and_false, Bool.false_and, Bool.or_true, Bool.true_or, Bool.or_false, Bool.false_or, Option.map_some, Option.map_none, Option.bind_some, if_true, if_false, ite_true, ite_false, Bool.false_eq_true, reduceIte, reduceCtorEq, List.length_cons, List.length_nil, List.nil_append, List.cons_append, List.map_cons, List.map_nil, List.append_assoc, Nat.zero_add, Nat.reduceAdd, Nat.reduceLT, Nat.reduceEqDiff, Int.reduceNeg, Int.reduceLT, Int.reduceLE, and_self, true_and, and_true, Bool.and_self, ty_beq, nc0, nc1, nc2, nc3, nc4, nc5, nc6, nc7, nc8, nc9, Int.reduceEq, Int.reduceNe, eq_self, Int.reduceSub, Int.reduceAdd, Nat.reduceLeDiff, Env.wipe, wr_8, refsL_len, cn, h1, h2]
  have c1 := send_c1 (A := A) (B := B) W hs k w hw deaf none none none none none
  have c2 := fun (S : Sto) e0 e1 e2 e3 e5 e6 e7 => send_c2 (G := RG T (k + 5)) (S := S) ((List.range ls.length).zip ls) (fun p => if (p.1 : Int) ∈ deaf then none else some (p.2.answer w)) e0 e1 e2 e3 e5 e6 e7
  have e1 : (((List.range ls.length).zip ls).filterMap fun p => if (p.1 : Int) ∈ deaf then none else some (ansD (p.2.answer w))) = ((List.range ls.length).zip ls).filterMap fun p => (if (p.1 : Int) ∈ deaf then none else some (p.2.answer w)).map ansD := by
    congr 1
    funext p
    split <;> rfl
  have e2 : (((List.range ls.length).zip ls).filterMap fun p => (if (p.1 : Int) ∈ deaf then none else some (p.2.answer w)).bind id) = saidAll w deaf ls := by
    unfold saidAll
    congr 1
    funext p
    split <;> rfl
  rw [e2] at c2
  rw [← e1] at c2
  generalize (((List.range ls.length).zip ls).filterMap fun p => if (p.1 : Int) ∈ deaf then none else some (ansD (p.2.answer w))) = said at *
  have ok := okd_ints 7 (saidAll w deaf ls)
  simp only [f34_Wire_send]
  obtain ⟨x0, hx0⟩ : ∃ x, x = E.bi .all [f34_c0] := ⟨_, rfl⟩
  rw [← hx0] at c0 ⊢
  obtain ⟨x1, hx1⟩ : ∃ x1, x1 = f34_c1 := ⟨_, rfl⟩; rw [← hx1] at c1 ⊢
  obtain ⟨x2, hx2⟩ : ∃ x2, x2 = f34_c2 := ⟨_, rfl⟩; rw [← hx2] at c2 ⊢
  have vd : (D.lst (intsL deaf)) = .lst (intsL deaf) := rfl
  generalize intsL deaf = DL at *
  generalize saidAll w deaf ls = sa at *
  have qe := q_le (xs := intsL sa) (by simpa only [D.okd] using ok)
  cases sa with
  | nil => simp only [evCs, evC, evE, evEs, R.bind_ok, R.bind_exc, opt_some, tB_bl, tB_exc, of_ok, of_exc, seq_nx, seq_rt, seq_exc, turn_nx, turn_rt, turn_exc, calm_ok, Env.get, Env.put, isTys, isTy, vw_non, vw_bl, vw_int, vw_str, vw_tup, vw_lst, vw_scr, c_lt, c_le, c_gt, c_ge, c_eq, c_ne, c_in, c_nin, q_int, q_nn, q_ni, q_in, ix_lst, ix_tup, ix_scr, Y.g0, Y.g1, Y.g2, Y.g3, b_lenL, b_lenT, b_lenS, b_max2, b_min2, b_max, b_min, b_sum, b_sorted, b_int, b_bool, b_tupL, b_tupT, b_lstL, b_lstT, b_abs, add_i, sub_i, sl_lst, sl_tup, pt_nil, pt_int, nD_non, nD_int, nD_str, nD_tup, nD_lst, app_get, app_set, store, stores, putAll, decide_true, decide_false, Bool.not_true, Bool.not_false, Bool.and_true, Bool.true_and, Bool.and_false, Bool.false_and, Bool.or_true, Bool.true_or, Bool.or_false, Bool.false_or, Option.map_some, Option.map_none, Option.bind_some, if_true, if_false, ite_true, ite_false, Bool.false_eq_true, reduceIte, reduceCtorEq, List.length_cons, List.length_nil, List.nil_append, List.cons_append, List.map_cons, List.map_nil, List.append_assoc, Nat.zero_add, Nat.reduceAdd, Nat.reduceLT, Nat.reduceEqDiff, Int.reduceNeg, Int.reduceLT, Int.reduceLE, and_self, true_and, and_true, Bool.and_self, ty_beq, nc0, nc1, nc2, nc3, nc4, nc5, nc6, nc7, nc8, nc9, Int.reduceEq, Int.reduceNe, eq_self, Int.reduceSub, Int.reduceAdd, Nat.reduceLeDiff, nw, c0, c1, c2, intsL, sayD, List.map_nil, show (1 : Int) < 0 ↔ False by decide, show eqD (.lst []) (.lst []) = some true from rfl, fin, Nat.sub_self, List.replicate]
  | cons a sa =>
    cases sa with
    | nil =>
      have qe : eqD (D.lst [D.int a]) (.lst []) = some false := rfl
      simp only [evCs, evC, evE, evEs, R.bind_ok, R.bind_exc, opt_some, tB_bl, tB_exc, of_ok, of_exc, seq_nx, seq_rt, seq_exc, turn_nx, turn_rt, turn_exc, calm_ok, Env.get, Env.put, isTys, isTy, vw_non, vw_bl, vw_int, vw_str, vw_tup, vw_lst, vw_scr, c_lt, c_le, c_gt, c_ge, c_eq, c_ne, c_in, c_nin, q_int, q_nn, q_ni, q_in, ix_lst, ix_tup, ix_scr, Y.g0, Y.g1, Y.g2, Y.g3, b_lenL, b_lenT, b_lenS, b_max2, b_min2, b_max, b_min, b_sum, b_sorted, b_int, b_bool, b_tupL, b_tupT, b_lstL, b_lstT, b_abs, add_i, sub_i, sl_lst, sl_tup, pt_nil, pt_int, nD_non, nD_int, nD_str, nD_tup, nD_lst, app_get, app_set, store, stores, putAll, decide_true, decide_false, Bool.not_true, Bool.not_false, Bool.and_true, Bool.true_and, Bool.and_false, Bool.false_and, Bool.or_true, Bool.true_or, Bool.or_false, Bool.false_or, Option.map_some, Option.map_none, Option.bind_some, if_true, if_false, ite_true, ite_false, Bool.false_eq_true, reduceIte, reduceCtorEq, List.length_cons, List.length_nil, List.nil_append, List.cons_append, List.map_cons, List.map_nil, List.append_assoc, Nat.zero_add, Nat.reduceAdd, Nat.reduceLT, Nat.reduceEqDiff, Int.reduceNeg, Int.reduceLT, Int.reduceLE, and_self, true_and, and_true, Bool.and_self, ty_beq, nc0, nc1, nc2, nc3, nc4, nc5, nc6, nc7, nc8, nc9, Int.reduceEq, Int.reduceNe, eq_self, Int.reduceSub, Int.reduceAdd, Nat.reduceLeDiff, nw, c0, c1, c2, intsL, sayD, List.map_nil, List.map_cons, qe, fin, Nat.sub_self, List.replicate]
    | cons b sa =>
      have hlt : (1 : Int) < (((sa.map D.int).length + 1 + 1 : Nat) : Int) := by omega
      simp only [evCs, evC, evE, evEs, R.bind_ok, R.bind_exc, opt_some, tB_bl, tB_exc, of_ok, of_exc, seq_nx, seq_rt, seq_exc, turn_nx, turn_rt, turn_exc, calm_ok, Env.get, Env.put, isTys, isTy, vw_non, vw_bl, vw_int, vw_str, vw_tup, vw_lst, vw_scr, c_lt, c_le, c_gt, c_ge, c_eq, c_ne, c_in, c_nin, q_int, q_nn, q_ni, q_in, ix_lst, ix_tup, ix_scr, Y.g0, Y.g1, Y.g2, Y.g3, b_lenL, b_lenT, b_lenS, b_max2, b_min2, b_max, b_min, b_sum, b_sorted, b_int, b_bool, b_tupL, b_tupT, b_lstL, b_lstT, b_abs, add_i, sub_i, sl_lst, sl_tup, pt_nil, pt_int, nD_non, nD_int, nD_str, nD_tup, nD_lst, app_get, app_set, store, stores, putAll, decide_true, decide_false, Bool.not_true, Bool.not_false, Bool.and_true, Bool.true_and, Bool.and_false, Bool.false_and, Bool.or_true, Bool.true_or, Bool.or_false, Bool.false_or, Option.map_some, Option.map_none, Option.bind_some, if_true, if_false, ite_true, ite_false, Bool.false_eq_true, reduceIte, reduceCtorEq, List.length_cons, List.length_nil, List.nil_append, List.cons_append, List.map_cons, List.map_nil, List.append_assoc, Nat.zero_add, Nat.reduceAdd, Nat.reduceLT, Nat.reduceEqDiff, Int.reduceNeg, Int.reduceLT, Int.reduceLE, and_self, true_and, and_true, Bool.and_self, ty_beq, nc0, nc1, nc2, nc3, nc4, nc5, nc6, nc7, nc8, nc9, Int.reduceEq, Int.reduceNe, eq_self, Int.reduceSub, Int.reduceAdd, Nat.reduceLeDiff, nw, c0, c1, c2, intsL, sayD, List.map_nil, List.map_cons, hlt, fin, Nat.sub_self, List.replicate]
end
end Y

end

section
set_option Elab.async false
set_option linter.all false
set_option maxRecDepth 100000
set_option maxHeartbeats 4000000
namespace Y
open PySem L2
section
variable {T : Tab} {A B : Sto} {ls : List Lmp}
/-! ### ticks -/
theorem ltick_eq {s : Lmp} (h : T.fn 50 = some f50_Lamp_tick) (k : Nat) (m : Int) : callAt T (k + 1) 50 [.ref A.length, .int m] (LS A s B) = .ok .non (LS A (s.tick m) B) := by
  rw [call_eq h rfl]
  simp only [f50_Lamp_tick, Lmp.tick]
  simp only [evCs, evC, evE, evEs, R.bind_ok, R.bind_exc, opt_some, tB_bl, tB_exc, of_ok, of_exc, seq_nx, seq_rt, seq_exc, turn_nx, turn_rt, turn_exc, calm_ok, Env.get, Env.put, isTys, isTy, vw_non, vw_bl, vw_int, vw_str, vw_tup, vw_lst, vw_scr, c_lt, c_le, c_gt, c_ge, c_eq, c_ne, c_in, c_nin, q_int, q_nn, q_ni, q_in, ix_lst, ix_tup, ix_scr, g0, g1, g2, g3, b_lenL, b_lenT, b_lenS, b_max2, b_min2, b_max, b_min, b_sum, b_sorted, b_int, b_bool, b_tupL, b_tupT, b_lstL, b_lstT, b_abs, add_i, sub_i, sl_lst, sl_tup, pt_nil, pt_int, nD_non, nD_int, nD_str, nD_tup, nD_lst, app_get, app_set, store, stores, putAll, decide_true, decide_false, Bool.not_true, Bool.not_false, Bool.and_true, Bool.true_and, Bool.and_false, Bool.false_and, Bool.or_true, Bool.true_or, Bool.or_false, Bool.false_or, Option.map_some, Option.map_none, Option.bind_some, if_true, if_false, ite_true, ite_false, Bool.false_eq_true, reduceIte, reduceCtorEq, List.length_cons, List.length_nil, List.nil_append, List.cons_append, List.map_cons, List.map_nil, List.append_assoc, Nat.zero_add, Nat.reduceAdd, Nat.reduceLT, Nat.reduceEqDiff, Int.reduceNeg, Int.reduceLT, Int.reduceLE, and_self, true_and, and_true, Bool.and_self, ty_beq, nc0, nc1, nc2, nc3, nc4, nc5, nc6, nc7, nc8, nc9, Int.reduceEq, Int.reduceNe, eq_self, Int.reduceSub, Int.reduceAdd, Nat.reduceLeDiff, la_13, la_3, la_6, ls_s3, ls_s6, fin, Nat.sub_self, List.replicate]
theorem wtick_eq (h0 : T.fn 0 = some f0_is_count) (h50 : T.fn 50 = some f50_Lamp_tick) (h52 : T.fn 52 = some f52_Wire_tick) (m17 : T.meth 0 17 = some 50) (k : Nat) (m : Int) (hm : 0 ≤ m) (hm2 : m ≤ 1000000) : callAt T (k + 2) 52 [.ref A.length, .int m] (WR A ls B) = .ok .non (WR A (ls.map (·.tick m)) B) := by
  rw [call_eq h52 rfl]
  have c := cnt_int h0 k 0 1000000 (WR A ls B) m
  rw [decide_eq_true hm, decide_eq_true hm2] at c
  obtain ⟨env', f⟩ := for_lamps (body := fun env S => evCs (RG T (k + 1)) f52_b0 env S) (v := 2) (g := (·.tick m)) (B := B) (fun d => [some (.ref A.length), some (.int m), some d]) ls (A ++ [wireO A.length ls.length]) [some (.ref A.length), some (.int m), none] (fun _ _ => rfl) (fun _ => rfl) (fun s A' B' _ => by
    have t := ltick_eq (A := A') (B := B') (s := s) h50 k m
    simp only [f52_b0]
    simp only [evCs, evC, evE, evEs, R.bind_ok, R.bind_exc, opt_some, tB_bl, tB_exc, of_ok, of_exc, seq_nx, seq_rt, seq_exc, turn_nx, turn_rt, turn_exc, calm_ok, Env.get, Env.put, isTys, isTy, vw_non, vw_bl, vw_int, vw_str, vw_tup, vw_lst, vw_scr, c_lt, c_le, c_gt, c_ge, c_eq, c_ne, c_in, c_nin, q_int, q_nn, q_ni, q_in, ix_lst, ix_tup, ix_scr, g0, g1, g2, g3, b_lenL, b_lenT, b_lenS, b_max2, b_min2, b_max, b_min, b_sum, b_sorted, b_int, b_bool, b_tupL, b_tupT, b_lstL, b_lstT, b_abs, add_i, sub_i, sl_lst, sl_tup, pt_nil, pt_int, nD_non, nD_int, nD_str, nD_tup, nD_lst, app_get, app_set, store, stores, putAll, decide_true, decide_false, Bool.not_true, Bool.not_false, Bool.and_true, Bool.true_and, Bool.and_false, Bool.false_and, Bool.or_true, Bool.true_or, Bool.or_false, Bool.false_or, Option.map_some, Option.map_none, Option.bind_some, if_true, if_false, ite_true, ite_false, Bool.false_eq_true, reduceIte, reduceCtorEq, List.length_cons, List.length_nil, List.nil_append, List.cons_append, List.map_cons, List.map_nil, List.append_assoc, Nat.zero_add, Nat.reduceAdd, Nat.reduceLT, Nat.reduceEqDiff, Int.reduceNeg, Int.reduceLT, Int.reduceLE, and_self, true_and, and_true, Bool.and_self, ty_beq, nc0, nc1, nc2, nc3, nc4, nc5, nc6, nc7, nc8, nc9, Int.reduceEq, Int.reduceNe, eq_self, Int.reduceSub, Int.reduceAdd, Nat.reduceLeDiff, ls_i, m17, t])
  rw [a1_len] at f
  have f2 : evC (RG T (k + 1)) f52_l0 [some (.ref A.length), some (.int m), none] (WR A ls B) = .nx env' (WR A (ls.map (·.tick m)) B) := by
    unfold f52_l0
    rw [for_seq (xs := refsL (A.length + 1) ls.length) (by simp only [evE, Env.get, opt_some, R.bind_ok, wr_8])]
    unfold WR
    rw [List.length_map]
    exact f
  simp only [f52_Wire_tick]
  obtain ⟨ll, hll⟩ : ∃ ll, ll = f52_l0 := ⟨_, rfl⟩; rw [← hll] at f2 ⊢
  simp only [evCs, evC, evE, evEs, R.bind_ok, R.bind_exc, opt_some, tB_bl, tB_exc, of_ok, of_exc, seq_nx, seq_rt, seq_exc, turn_nx, turn_rt, turn_exc, calm_ok, Env.get, Env.put, isTys, isTy, vw_non, vw_bl, vw_int, vw_str, vw_tup, vw_lst, vw_scr, c_lt, c_le, c_gt, c_ge, c_eq, c_ne, c_in, c_nin, q_int, q_nn, q_ni, q_in, ix_lst, ix_tup, ix_scr, g0, g1, g2, g3, b_lenL, b_lenT, b_lenS, b_max2, b_min2, b_max, b_min, b_sum, b_sorted, b_int, b_bool, b_tupL, b_tupT, b_lstL, b_lstT, b_abs, add_i, sub_i, sl_lst, sl_tup, pt_nil, pt_int, nD_non, nD_int, nD_str, nD_tup, nD_lst, app_get, app_set, store, stores, putAll, decide_true, decide_false, Bool.not_true, Bool.not_false, Bool.and_true, Bool.true_and, Bool.and_false, Bool.false_and, Bool.or_true, Bool.true_or, Bool.or_false, Bool.false_or, Option.map_some, Option.map_none, Option.bind_some, if_true, if_false, ite_true, ite_false, Bool.false_eq_true, reduceIte, reduceCtorEq, List.length_cons, List.length_nil, List.nil_append, List.cons_append, List.map_cons, List.map_nil, List.append_assoc, Nat.zero_add, Nat.reduceAdd, Nat.reduceLT, Nat.reduceEqDiff, Int.reduceNeg, Int.reduceLT, Int.reduceLE, and_self, true_and, and_true, Bool.and_self, ty_beq, nc0, nc1, nc2, nc3, nc4, nc5, nc6, nc7, nc8, nc9, Int.reduceEq, Int.reduceNe, eq_self, Int.reduceSub, Int.reduceAdd, Nat.reduceLeDiff, c, f2, fin, Nat.sub_self, List.replicate]
/-! ### one lamp -/
theorem wr_at {i : Nat} (h : i < ls.length) : WR A ls B = LS (A ++ [wireO A.length ls.length] ++ lampsB (A.length + 1) (ls.take i)) ls[i] (lampsB (A.length + 1 + 2 * i + 2) (ls.drop (i + 1)) ++ B) ∧ (A ++ [wireO A.length ls.length] ++ lampsB (A.length + 1) (ls.take i)).length = A.length + 1 + 2 * i := by
  have e := ws_at (A := A ++ [wireO A.length ls.length]) (B := B) h
  have l := pre_len (A := A ++ [wireO A.length ls.length]) h
  rw [a1_len] at e l
  exact ⟨e, l⟩
theorem need_lamp_eq (W : WT T) (k : Nat) (i : Nat) (h : i < ls.length) : callAt T (k + 2) 36 [.ref A.length, .int i] (WR A ls B) = .ok .non (WR A ls B) := by
  rw [call_eq W.h36 rfl]
  have c := fun S => cnt_int W.h0 k 0 ((ls.length : Int) - 1) S (i : Int)
  have h1 : (0 : Int) ≤ (i : Int) := by omega
  have h2 : (i : Int) ≤ (ls.length : Int) - 1 := by omega
  simp only [f36_Wire_need_lamp]
  generalize (i : Int) = ii at *
  simp only [evCs, evC, evE, evEs, R.bind_ok, R.bind_exc, opt_some, tB_bl, tB_exc, of_ok, of_exc, seq_nx, seq_rt, seq_exc, turn_nx, turn_rt, turn_exc, calm_ok, Env.get, Env.put, isTys, isTy, vw_non, vw_bl, vw_int, vw_str, vw_tup, vw_lst, vw_scr, c_lt, c_le, c_gt, c_ge, c_eq, c_ne, c_in, c_nin, q_int, q_nn, q_ni, q_in, ix_lst, ix_tup, ix_scr, g0, g1, g2, g3, b_lenL, b_lenT, b_lenS, b_max2, b_min2, b_max, b_min, b_sum, b_sorted, b_int, b_bool, b_tupL, b_tupT, b_lstL, b_lstT, b_abs, add_i, sub_i, sl_lst, sl_tup, pt_nil, pt_int, nD_non, nD_int, nD_str, nD_tup, nD_lst, app_get, app_set, store, stores, putAll, decide_true, decide_false, Bool.not_true, Bool.not_false, Bool.and_true, Bool.true_and, Bool.and_false, Bool.false_and, Bool.or_true, Bool.true_or, Bool.or_false, Bool.false_or, Option.map_some, Option.map_none, Option.bind_some, if_true, if_false, ite_true, ite_false, Bool.false_eq_true, reduceIte, reduceCtorEq, List.length_cons, List.length_nil, List.nil_append, List.cons_append, List.map_cons, List.map_nil, List.append_assoc, Nat.zero_add, Nat.reduceAdd, Nat.reduceLT, Nat.reduceEqDiff, Int.reduceNeg, Int.reduceLT, Int.reduceLE, and_self, true_and, and_true, Bool.and_self, ty_beq, nc0, nc1, nc2, nc3, nc4, nc5, nc6, nc7, nc8, nc9, Int.reduceEq, Int.reduceNe, eq_self, Int.reduceSub, Int.reduceAdd, Nat.reduceLeDiff, wr_8, refsL_len, c, h1, h2, fin_nx0, Nat.sub_self, List.replicate]
theorem ref_at {i n b : Nat} (h : i < n) : getI (refsL b n) (i : Int) = some (.ref (b + 2 * i)) := getI_nat (refsL_get b n i h)
theorem wlevel_eq (W : WT T) (k : Nat) (i : Nat) (h : i < ls.length) (hs : ls[i].ok) : callAt T (k + 3) 37 [.ref A.length, .int i] (WR A ls B) = .ok (.int ls[i].lvl) (WR A ls B) := by
  rw [call_eq W.h37 rfl]
  have n := need_lamp_eq (A := A) (B := B) W k i h
  have r := ref_at (b := A.length + 1) h
  have n0 : (WR A ls B)[A.length]? = _ := wr_0
  have a8 : attr (WR A ls B) (.ref A.length) 8 = _ := wr_8
  obtain ⟨e, l⟩ := wr_at (A := A) (B := B) h
  have lv : callAt T (k + 2) 23 [.ref (A.length + 1 + 2 * i)] (WR A ls B) = .ok (.int ls[i].lvl) (WR A ls B) := by
    rw [e, ← l]; exact level_eq W.toLT hs k
  have gi : (WR A ls B)[A.length + 1 + 2 * i]? = some (.ins 0 (flds (A.length + 1 + 2 * i + 1) ls[i])) := by
    rw [e, ← l]; exact ls_i
  generalize WR A ls B = WW at *
  generalize ls[i].lvl = v at *
  generalize (i : Int) = ii at *
  simp only [f37_Wire_level]
  simp only [evCs, evC, evE, evEs, R.bind_ok, R.bind_exc, opt_some, tB_bl, tB_exc, of_ok, of_exc, seq_nx, seq_rt, seq_exc, turn_nx, turn_rt, turn_exc, calm_ok, Env.get, Env.put, isTys, isTy, vw_non, vw_bl, vw_int, vw_str, vw_tup, vw_lst, vw_scr, c_lt, c_le, c_gt, c_ge, c_eq, c_ne, c_in, c_nin, q_int, q_nn, q_ni, q_in, ix_lst, ix_tup, ix_scr, g0, g1, g2, g3, b_lenL, b_lenT, b_lenS, b_max2, b_min2, b_max, b_min, b_sum, b_sorted, b_int, b_bool, b_tupL, b_tupT, b_lstL, b_lstT, b_abs, add_i, sub_i, sl_lst, sl_tup, pt_nil, pt_int, nD_non, nD_int, nD_str, nD_tup, nD_lst, app_get, app_set, store, stores, putAll, decide_true, decide_false, Bool.not_true, Bool.not_false, Bool.and_true, Bool.true_and, Bool.and_false, Bool.false_and, Bool.or_true, Bool.true_or, Bool.or_false, Bool.false_or, Option.map_some, Option.map_none, Option.bind_some, if_true, if_false, ite_true, ite_false, Bool.false_eq_true, reduceIte, reduceCtorEq, List.length_cons, List.length_nil, List.nil_append, List.cons_append, List.map_cons, List.map_nil, List.append_assoc, Nat.zero_add, Nat.reduceAdd, Nat.reduceLT, Nat.reduceEqDiff, Int.reduceNeg, Int.reduceLT, Int.reduceLE, and_self, true_and, and_true, Bool.and_self, ty_beq, nc0, nc1, nc2, nc3, nc4, nc5, nc6, nc7, nc8, nc9, Int.reduceEq, Int.reduceNe, eq_self, Int.reduceSub, Int.reduceAdd, Nat.reduceLeDiff, n0, W.w10, n, a8, r, gi, W.m9, lv, fin_rt0, nr_int, Nat.sub_self, List.replicate]
/-! ### states -/
def stScD (s : Lmp) : D := .tup ((sortI (s.scenes.map (·.1))).map fun k => .tup [.int k, .int ((getSc k s.scenes).getD 0)])
def stD (s : Lmp) : D := .tup [.int s.lvl, .int s.goal, .int s.left, .int s.time, .tup (intsL s.groups), stScD s]
theorem getSc_mem {k : Int} : ∀ {sc : List (Int × Int)}, k ∈ sc.map (·.1) → ∃ v, getSc k sc = some v
  | [], h => by cases h
  | p :: sc, h => by
    unfold getSc
    by_cases hp : p.1 = k
    · exact ⟨p.2, by simp [hp]⟩
    · have : k ∈ sc.map (·.1) := by
        simp only [List.map_cons, List.mem_cons] at h
        rcases h with h | h
        · exact absurd h.symm hp
        · exact h
      obtain ⟨v, hv⟩ := getSc_mem this
      exact ⟨v, by simp only [List.find?_cons, decide_eq_false hp]; exact hv⟩
theorem ins_mem {i : Int} {l : List Int} {x : Int} : x ∈ sortI l ↔ x ∈ l := (sortI_perm l).mem_iff
theorem sc_len {s : Lmp} (h : s.ok) : s.scenes.length ≤ 8 := by
  have := nodup_len 8 (s.scenes.map (·.1)) h.scn (fun x hx => by
    obtain ⟨p, hp, rfl⟩ := List.mem_map.mp hx
    have := h.scs p hp
    omega)
  simpa using this
theorem keys_ints (sc : List (Int × Int)) : intsD ((scD sc).map fun kv => (match kv.1 with
        | .inl i => D.int i
        | .inr x => .str x)) = some (sc.map (·.1)) := by
  have : ((scD sc).map fun kv => (match kv.1 with
        | .inl i => D.int i
        | .inr x => .str x)) = intsL (sc.map (·.1)) := by
    unfold scD intsL
    rw [List.map_map, List.map_map]
    rfl
  rw [this, ints_some]
theorem st_c0 {s : Lmp} (h : s.ok) (k : Nat) (e1 e2 : Option D) : evE (RG T k) f51_c0 [some (.ref A.length), e1, e2] (LS A s B) = .ok (.lst ((sortI (s.scenes.map (·.1))).map fun k => .tup [.int k, .int ((getSc k s.scenes).getD 0)])) (LS A s B) := by
  have hl : (scD s.scenes).length < 64 := by have := sc_len h; simp [scD]; omega
  have so : bi (LS A s B) .sorted [.ref (A.length + 1)] = some (.lst (intsL (sortI (s.scenes.map (·.1))))) := by
    have v : view (LS A s B) (.ref (A.length + 1)) = .ref (A.length + 1) := vw_scd
    have g : (LS A s B)[A.length + 1]? = some (.dic (scD s.scenes)) := ls_1
    have kk := keys_ints s.scenes
    simp only [bi, v, g, hl, if_true]
    exact congrArg (Option.map fun ns => D.lst ((sortI ns).map D.int)) kk
  unfold f51_c0
  rw [comp_map (xs := intsL (sortI (s.scenes.map (·.1)))) (g := fun d => match d with | .int k => .tup [.int k, .int ((getSc k s.scenes).getD 0)] | _ => .non)]
  · simp [intsL, Function.comp]
  · simp only [evE, evEs, Env.get, opt_some, R.bind_ok, la_11, so]
  · intro d hd
    obtain ⟨x, hx, rfl⟩ := List.mem_map.mp hd
    obtain ⟨v, hv⟩ := getSc_mem ((sortI_perm _).mem_iff.mp hx)
    simp only [evCs, evC, evE, evEs, R.bind_ok, R.bind_exc, opt_some, tB_bl, tB_exc, of_ok, of_exc, seq_nx, seq_rt, seq_exc, turn_nx, turn_rt, turn_exc, calm_ok, Env.get, Env.put, isTys, isTy, vw_non, vw_bl, vw_int, vw_str, vw_tup, vw_lst, vw_scr, c_lt, c_le, c_gt, c_ge, c_eq, c_ne, c_in, c_nin, q_int, q_nn, q_ni, q_in, ix_lst, ix_tup, ix_scr, g0, g1, g2, g3, b_lenL, b_lenT, b_lenS, b_max2, b_min2, b_max, b_min, b_sum, b_sorted, b_int, b_bool, b_tupL, b_tupT, b_lstL, b_lstT, b_abs, add_i, sub_i, sl_lst, sl_tup, pt_nil, pt_int, nD_non, nD_int, nD_str, nD_tup, nD_lst, app_get, app_set, store, stores, putAll, decide_true, decide_false, Bool.not_true, Bool.not_false, Bool.and_true, Bool.true_and, Bool.and_false, Bool.false_and, Bool.or_true, Bool.true_or, Bool.or_false, Bool.false_or, Option.map_some, Option.map_none, Option.bind_some, if_true, if_false, ite_true, ite_false, Bool.false_eq_true, reduceIte, reduceCtorEq, List.length_cons, List.length_nil, List.nil_append, List.cons_append, List.map_cons, List.map_nil, List.append_assoc, Nat.zero_add, Nat.reduceAdd, Nat.reduceLT, Nat.reduceEqDiff, Int.reduceNeg, Int.reduceLT, Int.reduceLE, and_self, true_and, and_true, Bool.and_self, ty_beq, nc0, nc1, nc2, nc3, nc4, nc5, nc6, nc7, nc8, nc9, Int.reduceEq, Int.reduceNe, eq_self, Int.reduceSub, Int.reduceAdd, Nat.reduceLeDiff, Env.wipe, la_11, ls_idx, hv, Option.getD]
theorem norefs_st (l : List Int) (f : Int → Int) : D.norefs (l.map fun k => .tup [.int k, .int (f k)]) = true := by
  induction l with
  | nil => rfl
  | cons x l ih => simp [D.norefs, D.noref, ih]
theorem lstate_eq {s : Lmp} (L : LT T) (h49 : T.fn 49 = some f49_Lamp_left) (m8 : T.meth 0 8 = some 49) (h51 : T.fn 51 = some f51_Lamp_state) (h : s.ok) (k : Nat) : callAt T (k + 3) 51 [.ref A.length] (LS A s B) = .ok (stD s) (LS A s B) := by
  rw [call_eq h51 rfl]
  have c := st_c0 (T := T) (A := A) (B := B) h (k + 2) none none
  have lv := level_eq (A := A) (B := B) L h k
  have lf := left_eq (A := A) (B := B) (s := s) h49 (k + 1)
  have nr := norefs_st (sortI (s.scenes.map (·.1))) (fun k => (getSc k s.scenes).getD 0)
  have ni := norefs_ints s.groups
  simp only [f51_Lamp_state, stD, stScD]
  obtain ⟨cc, hcc⟩ : ∃ cc, cc = f51_c0 := ⟨_, rfl⟩; rw [← hcc] at c ⊢
  generalize ((sortI (s.scenes.map (·.1))).map fun k => D.tup [.int k, .int ((getSc k s.scenes).getD 0)]) = SC at *
  simp only [evCs, evC, evE, evEs, R.bind_ok, R.bind_exc, opt_some, tB_bl, tB_exc, of_ok, of_exc, seq_nx, seq_rt, seq_exc, turn_nx, turn_rt, turn_exc, calm_ok, Env.get, Env.put, isTys, isTy, vw_non, vw_bl, vw_int, vw_str, vw_tup, vw_lst, vw_scr, c_lt, c_le, c_gt, c_ge, c_eq, c_ne, c_in, c_nin, q_int, q_nn, q_ni, q_in, ix_lst, ix_tup, ix_scr, g0, g1, g2, g3, b_lenL, b_lenT, b_lenS, b_max2, b_min2, b_max, b_min, b_sum, b_sorted, b_int, b_bool, b_tupL, b_tupT, b_lstL, b_lstT, b_abs, add_i, sub_i, sl_lst, sl_tup, pt_nil, pt_int, nD_non, nD_int, nD_str, nD_tup, nD_lst, app_get, app_set, store, stores, putAll, decide_true, decide_false, Bool.not_true, Bool.not_false, Bool.and_true, Bool.true_and, Bool.and_false, Bool.false_and, Bool.or_true, Bool.true_or, Bool.or_false, Bool.false_or, Option.map_some, Option.map_none, Option.bind_some, if_true, if_false, ite_true, ite_false, Bool.false_eq_true, reduceIte, reduceCtorEq, List.length_cons, List.length_nil, List.nil_append, List.cons_append, List.map_cons, List.map_nil, List.append_assoc, Nat.zero_add, Nat.reduceAdd, Nat.reduceLT, Nat.reduceEqDiff, Int.reduceNeg, Int.reduceLT, Int.reduceLE, and_self, true_and, and_true, Bool.and_self, ty_beq, nc0, nc1, nc2, nc3, nc4, nc5, nc6, nc7, nc8, nc9, Int.reduceEq, Int.reduceNe, eq_self, Int.reduceSub, Int.reduceAdd, Nat.reduceLeDiff, c, ls_i, L.m9, m8, lv, lf, la_2, la_0, la_4, fin_rt0, D.noref, D.norefs, nr, ni, Nat.sub_self, List.replicate]
theorem wstate_eq (W : WT T) (h49 : T.fn 49 = some f49_Lamp_left) (m8 : T.meth 0 8 = some 49) (h51 : T.fn 51 = some f51_Lamp_state) (h53 : T.fn 53 = some f53_Wire_state) (m16 : T.meth 0 16 = some 51) (k : Nat) (i : Nat) (h : i < ls.length) (hs : ls[i].ok) : callAt T (k + 4) 53 [.ref A.length, .int i] (WR A ls B) = .ok (stD ls[i]) (WR A ls B) := by
  rw [call_eq h53 rfl]
  have n := need_lamp_eq (A := A) (B := B) W (k + 1) i h
  have r := ref_at (b := A.length + 1) h
  have n0 : (WR A ls B)[A.length]? = _ := wr_0
  have a8 : attr (WR A ls B) (.ref A.length) 8 = _ := wr_8
  obtain ⟨e, l⟩ := wr_at (A := A) (B := B) h
  have lv : callAt T (k + 3) 51 [.ref (A.length + 1 + 2 * i)] (WR A ls B) = .ok (stD ls[i]) (WR A ls B) := by
    rw [e, ← l]; exact lstate_eq W.toLT h49 m8 h51 hs k
  have gi : (WR A ls B)[A.length + 1 + 2 * i]? = some (.ins 0 (flds (A.length + 1 + 2 * i + 1) ls[i])) := by
    rw [e, ← l]; exact ls_i
  have nr : (stD ls[i]).noref = true := by
    have n1 := norefs_st (sortI (ls[i].scenes.map (·.1))) (fun k => (getSc k ls[i].scenes).getD 0)
    have n2 := norefs_ints ls[i].groups
    simp only [stD, stScD, D.noref, D.norefs, n1, n2, Bool.and_self]
  generalize WR A ls B = WW at *
  generalize stD ls[i] = v at *
  generalize (i : Int) = ii at *
  simp only [f53_Wire_state]
  simp only [evCs, evC, evE, evEs, R.bind_ok, R.bind_exc, opt_some, tB_bl, tB_exc, of_ok, of_exc, seq_nx, seq_rt, seq_exc, turn_nx, turn_rt, turn_exc, calm_ok, Env.get, Env.put, isTys, isTy, vw_non, vw_bl, vw_int, vw_str, vw_tup, vw_lst, vw_scr, c_lt, c_le, c_gt, c_ge, c_eq, c_ne, c_in, c_nin, q_int, q_nn, q_ni, q_in, ix_lst, ix_tup, ix_scr, g0, g1, g2, g3, b_lenL, b_lenT, b_lenS, b_max2, b_min2, b_max, b_min, b_sum, b_sorted, b_int, b_bool, b_tupL, b_tupT, b_lstL, b_lstT, b_abs, add_i, sub_i, sl_lst, sl_tup, pt_nil, pt_int, nD_non, nD_int, nD_str, nD_tup, nD_lst, app_get, app_set, store, stores, putAll, decide_true, decide_false, Bool.not_true, Bool.not_false, Bool.and_true, Bool.true_and, Bool.and_false, Bool.false_and, Bool.or_true, Bool.true_or, Bool.or_false, Bool.false_or, Option.map_some, Option.map_none, Option.bind_some, if_true, if_false, ite_true, ite_false, Bool.false_eq_true, reduceIte, reduceCtorEq, List.length_cons, List.length_nil, List.nil_append, List.cons_append, List.map_cons, List.map_nil, List.append_assoc, Nat.zero_add, Nat.reduceAdd, Nat.reduceLT, Nat.reduceEqDiff, Int.reduceNeg, Int.reduceLT, Int.reduceLE, and_self, true_and, and_true, Bool.and_self, ty_beq, nc0, nc1, nc2, nc3, nc4, nc5, nc6, nc7, nc8, nc9, Int.reduceEq, Int.reduceNe, eq_self, Int.reduceSub, Int.reduceAdd, Nat.reduceLeDiff, n0, W.w10, n, a8, r, gi, m16, lv, fin_rt0, nr, Nat.sub_self, List.replicate]
end
end Y

end

section
set_option Elab.async false
set_option linter.all false
set_option maxRecDepth 100000
set_option maxHeartbeats 4000000
namespace Y
open PySem L2
/-! ### lamps stay right -/
theorem new_ok (o : Own) : (newLmp o).ok := ⟨by simp [newLmp], by simp [newLmp], by simp [newLmp], by simp [newLmp], by simp [newLmp], by simp [newLmp], by simp [newLmp], by simp [newLmp], by simp [newLmp], by simp [newLmp], by simp [newLmp], by simp [newLmp]⟩
theorem Lmp.ok.atOnce {s : Lmp} (h : s.ok) (v : Int) : (s.atOnce v).ok := ⟨by simp [Lmp.atOnce], by simp [Lmp.atOnce], by simp [Lmp.atOnce], h.time0, h.time, h.grp, h.grps, h.gnd, h.scs, h.scn, h.hrd, h.ago0⟩
theorem Lmp.ok.goTo {s : Lmp} (h : s.ok) (v : Int) : (s.goTo v).ok := by
  unfold Lmp.goTo
  split
  · exact h.atOnce _
  · exact ⟨by simp, h.time0, h.time, h.time0, h.time, h.grp, h.grps, h.gnd, h.scs, h.scn, h.hrd, h.ago0⟩
theorem Lmp.ok.tick {s : Lmp} (h : s.ok) {m : Int} (hm : 0 ≤ m) : (s.tick m).ok := by
  have h1 := h.gone0
  have h2 := h.goneT
  have h3 := h.ago0
  refine ⟨?_, ?_, h.ticks, h.time0, h.time, h.grp, h.grps, h.gnd, h.scs, h.scn, h.hrd, ?_⟩ <;> simp only [Lmp.tick] <;> omega
theorem putSc_keys (k v : Int) (sc : List (Int × Int)) : (putSc k v sc).map (·.1) = if k ∈ sc.map (·.1) then sc.map (·.1) else sc.map (·.1) ++ [k] := by
  unfold putSc
  have h1 : (sc.any fun p => decide (p.1 = k)) = true ↔ k ∈ sc.map (·.1) := by
    rw [List.any_eq_true]
    constructor
    · rintro ⟨p, hp, e⟩
      exact List.mem_map.mpr ⟨p, hp, by simpa using e⟩
    · intro h
      obtain ⟨p, hp, e⟩ := List.mem_map.mp h
      exact ⟨p, hp, by simpa using e⟩
  by_cases h : k ∈ sc.map (·.1)
  · rw [if_pos (h1.mpr h), if_pos h, List.map_map]
    refine List.map_congr_left fun p _ => ?_
    simp only [Function.comp]
    split <;> rfl
  · rw [if_neg (fun z => h (h1.mp z)), if_neg h]
    simp
theorem Lmp.ok.keep {s : Lmp} (h : s.ok) {nm : Nm} {n : Int} (hn : 0 ≤ n ∧ n ≤ 50) (hn7 : nm ≠ .fade → n ≤ 7) : (s.keep nm n).ok := by
  have hfil : (s.groups.filter fun g => decide (g ≠ n)).Nodup := h.gnd.filter _
  have hnot : n ∉ s.groups.filter fun g => decide (g ≠ n) := by simp
  have hsc : (delSc n s.scenes).map (·.1) = (s.scenes.map (·.1)).filter fun x => decide (x ≠ n) := by
    unfold delSc
    rw [List.filter_map]
    rfl
  have hdel : ({ s with scenes := delSc n s.scenes } : Lmp).ok := ⟨h.gone0, h.goneT, h.ticks, h.time0, h.time, h.grp, h.grps, h.gnd, fun p hp => h.scs p (List.mem_filter.mp hp).1, by
    show ((delSc n s.scenes).map (·.1)).Nodup
    rw [hsc]
    exact h.scn.filter _, h.hrd, h.ago0⟩
  cases nm
  case fade => exact ⟨h.gone0, h.goneT, h.ticks, hn.1, hn.2, h.grp, h.grps, h.gnd, h.scs, h.scn, h.hrd, h.ago0⟩
  case join =>
    have n7 := hn7 (by decide)
    have hmem : ∀ g ∈ sortI (s.groups.filter (fun g => decide (g ≠ n)) ++ [n]), 0 ≤ g ∧ g ≤ 7 := by
      intro g hg
      rw [(sortI_perm _).mem_iff] at hg
      rcases List.mem_append.mp hg with z | z
      · exact h.grps g (List.mem_filter.mp z).1
      · simp at z; subst z; exact ⟨hn.1, n7⟩
    have hnd : (sortI (s.groups.filter (fun g => decide (g ≠ n)) ++ [n])).Nodup := by
      rw [(sortI_perm _).nodup_iff]
      refine List.nodup_append.mpr ⟨hfil, by simp, fun a ha b hb => ?_⟩
      simp at hb
      subst hb
      exact fun z => hnot (z ▸ ha)
    refine ⟨h.gone0, h.goneT, h.ticks, h.time0, h.time, ?_, hmem, hnd, h.scs, h.scn, h.hrd, h.ago0⟩
    exact nodup_len 8 _ hnd fun x hx => by have := hmem x hx; omega
  case leave =>
    exact ⟨h.gone0, h.goneT, h.ticks, h.time0, h.time, Nat.le_trans (List.length_filter_le _ _) h.grp, fun g hg => h.grps g (List.mem_filter.mp hg).1, hfil, h.scs, h.scn, h.hrd, h.ago0⟩
  case store =>
    have n7 := hn7 (by decide)
    have hk := putSc_keys n s.lvl s.scenes
    refine ⟨h.gone0, h.goneT, h.ticks, h.time0, h.time, h.grp, h.grps, h.gnd, ?_, ?_, h.hrd, h.ago0⟩
    · intro p hp
      have : p.1 ∈ (putSc n s.lvl s.scenes).map (·.1) := List.mem_map.mpr ⟨p, hp, rfl⟩
      rw [hk] at this
      have hin : ∀ x ∈ s.scenes.map (·.1), 0 ≤ x ∧ x ≤ 7 := fun x hx => by
        obtain ⟨q, hq, rfl⟩ := List.mem_map.mp hx
        exact h.scs q hq
      split at this
      · exact hin _ this
      · rcases List.mem_append.mp this with z | z
        · exact hin _ z
        · simp at z; rw [z]; exact ⟨hn.1, n7⟩
    · show ((putSc n s.lvl s.scenes).map (·.1)).Nodup
      rw [hk]
      split
      · exact h.scn
      · rename_i hm
        exact List.nodup_append.mpr ⟨h.scn, by simp, fun a ha b hb => by simp at hb; subst hb; exact fun z => hm (z ▸ ha)⟩
  all_goals exact hdel
theorem Cmd.ok.num {c : Cmd} (h : c.ok) : 0 ≤ c.n ∧ c.n ≤ 100 ∧ (c.nm ≠ .level → c.n ≤ 50) ∧ (c.nm ≠ .level → c.nm ≠ .fade → c.n ≤ 7) := by
  obtain ⟨nm, n⟩ := c
  unfold Cmd.ok at h
  cases nm <;> simp only [Nm.bnd] at h <;> simp <;> omega
theorem Lmp.ok.does {s : Lmp} (h : s.ok) {c : Cmd} (hc : c.ok) : (s.does c).ok := by
  have hn := hc.num
  obtain ⟨nm, n⟩ := c
  unfold Lmp.does
  cases nm
  case askL => exact h
  case askG => exact h
  case level => exact h.goTo _
  case off => exact h.atOnce _
  case up => simp only; split <;> first | exact h.atOnce _ | exact h
  case down => simp only; split <;> first | exact h.atOnce _ | exact h
  case scene => simp only; split <;> first | exact h.goTo _ | exact h
  all_goals exact h.keep ⟨hn.1, hn.2.2.1 (by simp)⟩ (fun z => hn.2.2.2 (by simp) z)
theorem Lmp.ok.note {s : Lmp} (h : s.ok) {w : Wrd} (hw : w.ok) : (s.note w).ok := by
  refine ⟨h.gone0, h.goneT, h.ticks, h.time0, h.time, h.grp, h.grps, h.gnd, h.scs, h.scn, ?_, by simp [Lmp.note]⟩
  intro v hv
  simp only [Lmp.note] at hv
  split at hv
  · cases hv; exact hw
  · cases hv
theorem Lmp.ok.hear {s : Lmp} (h : s.ok) {w : Wrd} (hw : w.ok) : (s.hear w).ok := by
  unfold Lmp.hear
  split
  · exact (h.note hw).does hw.2
  · exact h.note hw
theorem hearAll_get {w : Wrd} {deaf : List Int} {ls : List Lmp} {i : Nat} (h : i < ls.length) (h2 : i < (hearAll w deaf ls).length) : (hearAll w deaf ls)[i] = if (i : Int) ∈ deaf then ls[i] else ls[i].hear w := by simp [hearAll]
theorem hearAll_mem {w : Wrd} {deaf : List Int} {ls : List Lmp} {s : Lmp} (h : s ∈ hearAll w deaf ls) : ∃ t ∈ ls, s = t ∨ s = t.hear w := by
  obtain ⟨p, hp, rfl⟩ := List.mem_map.mp h
  refine ⟨p.2, (List.of_mem_zip hp).2, ?_⟩
  split
  · exact .inl rfl
  · exact .inr rfl
theorem hearAll_ok {w : Wrd} {deaf : List Int} {ls : List Lmp} (hw : w.ok) (h : ∀ s ∈ ls, s.ok) : ∀ s ∈ hearAll w deaf ls, s.ok := by
  intro s hs
  obtain ⟨t, ht, e | e⟩ := hearAll_mem hs
  · rw [e]; exact h t ht
  · rw [e]; exact (h t ht).hear hw
theorem tickAll_ok {m : Int} {ls : List Lmp} (hm : 0 ≤ m) (h : ∀ s ∈ ls, s.ok) : ∀ s ∈ ls.map (·.tick m), s.ok := by
  intro s hs
  obtain ⟨t, ht, rfl⟩ := List.mem_map.mp hs
  exact (h t ht).tick hm
/-! ### levels stay within -/
def Own.fits (o : Own) (v : Int) : Prop := v = 0 ∨ (o.lo ≤ v ∧ v ≤ o.hi)
structure Lmp.fine (s : Lmp) : Prop where
  own : s.own.ok
  goal : s.own.fits s.goal
  way : s.gone < s.ticks → s.own.lo ≤ s.first ∧ s.first ≤ s.own.hi
  scs : ∀ p ∈ s.scenes, s.own.fits p.2
theorem Own.ok.letb {o : Own} (h : o.ok) (v : Int) : o.fits (o.letb v) := by
  have := h.hi0
  unfold Own.letb Own.fits
  split
  · exact .inl rfl
  · right; omega
theorem Own.fits.letb {o : Own} {v : Int} (h : o.fits v) (ho : o.ok) : o.letb v = v := by
  have := ho.lo0
  unfold Own.letb
  rcases h with rfl | h
  · simp
  · rw [if_neg (by omega)]; omega
theorem betw_bd {f l t g : Int} (hg : 0 ≤ g) : min f l ≤ betw f l t g ∧ betw f l t g ≤ max f l := by
  have ha := absI_nn (l - f)
  unfold betw
  by_cases h1 : t ≤ g
  · rw [if_pos h1]; omega
  · rw [if_neg h1]
    have m := mul_div_le (g := g) ha (show 0 < t by omega) (by omega)
    have z : 0 ≤ absI (l - f) * g / t := Int.ediv_nonneg (Int.mul_nonneg ha hg) (by omega)
    have e : absI (l - f) = max f l - min f l := by unfold absI; split <;> omega
    generalize absI (l - f) * g / t = q at *
    by_cases h2 : f ≤ l
    · rw [if_pos h2]; omega
    · rw [if_neg h2]; omega
theorem Lmp.fine.lvl {s : Lmp} (h : s.fine) (hk : s.ok) : s.own.fits s.lvl := by
  unfold Lmp.lvl
  split
  · exact h.goal
  · have w := h.way (by omega)
    have b := betw_bd (f := s.first) (l := if 0 < s.goal then s.goal else s.own.lo) (t := s.ticks) hk.gone0
    have := h.own.hi0
    have := h.own.lo0
    have g := h.goal
    unfold Own.fits at g ⊢
    right
    split at b <;> split <;> omega
theorem fits_bd {o : Own} {v : Int} (h : o.fits v) (ho : o.ok) : 0 ≤ v ∧ v ≤ 100 := by
  have := ho.lo0
  have := ho.hi1
  rcases h with rfl | h <;> omega
theorem new_fine {o : Own} (h : o.ok) : (newLmp o).fine := ⟨h, .inl rfl, fun z => by simp [newLmp] at z, by simp [newLmp]⟩
theorem Lmp.fine.atOnce {s : Lmp} (h : s.fine) {v : Int} (hv : s.own.fits v) : (s.atOnce v).fine := ⟨h.own, hv, fun z => by simp [Lmp.atOnce] at z, h.scs⟩
theorem Lmp.fine.goTo {s : Lmp} (h : s.fine) (hk : s.ok) (v : Int) : (s.goTo v).fine := by
  have l := h.lvl hk
  unfold Lmp.goTo
  split
  · exact h.atOnce (h.own.letb v)
  · refine ⟨h.own, h.own.letb v, fun _ => ?_, h.scs⟩
    have := h.own.hi0
    have := h.own.lo0
    unfold Own.fits at l
    simp only
    split <;> omega
theorem Lmp.fine.tick {s : Lmp} (h : s.fine) (m : Int) (hm : 0 ≤ m) : (s.tick m).fine := ⟨h.own, h.goal, fun z => h.way (by simp only [Lmp.tick] at z; omega), h.scs⟩
theorem getSc_in {k v : Int} {sc : List (Int × Int)} (h : getSc k sc = some v) : (k, v) ∈ sc := by
  unfold getSc at h
  obtain ⟨p, hp, rfl⟩ := Option.map_eq_some_iff.mp h
  have h1 := List.find?_some hp
  have h2 := List.mem_of_find?_eq_some hp
  have : p.1 = k := by simpa using h1
  rw [← this]
  exact h2
theorem Lmp.fine.does {s : Lmp} (h : s.fine) (hk : s.ok) (c : Cmd) : (s.does c).fine := by
  have l := h.lvl hk
  have o1 := h.own.lo0
  have o2 := h.own.hi0
  have step : ∀ v, s.own.fits (max s.own.lo (min s.own.hi v)) := fun v => .inr (by omega)
  obtain ⟨nm, n⟩ := c
  unfold Lmp.does
  cases nm
  case askL => exact h
  case askG => exact h
  case level => exact h.goTo hk _
  case off => exact h.atOnce (.inl rfl)
  case up => simp only; split <;> first | exact h.atOnce (step _) | exact h
  case down => simp only; split <;> first | exact h.atOnce (step _) | exact h
  case scene => simp only; split <;> first | exact h.goTo hk _ | exact h
  case fade => exact ⟨h.own, h.goal, h.way, h.scs⟩
  case join => exact ⟨h.own, h.goal, h.way, h.scs⟩
  case leave => exact ⟨h.own, h.goal, h.way, h.scs⟩
  case store =>
    refine ⟨h.own, h.goal, h.way, fun p hp => ?_⟩
    simp only [Lmp.keep, putSc] at hp
    split at hp
    · obtain ⟨q, hq, rfl⟩ := List.mem_map.mp hp
      show s.own.fits _
      by_cases hn : q.1 = n
      · rw [if_pos hn]; exact l
      · rw [if_neg hn]; exact h.scs q hq
    · rcases List.mem_append.mp hp with z | z
      · exact h.scs p z
      · simp at z; rw [z]; exact l
  case forget => exact ⟨h.own, h.goal, h.way, fun p hp => h.scs p (List.mem_filter.mp hp).1⟩
theorem Lmp.fine.note {s : Lmp} (h : s.fine) (w : Wrd) : (s.note w).fine := ⟨h.own, h.goal, h.way, h.scs⟩
theorem Lmp.fine.hear {s : Lmp} (h : s.fine) (hk : s.ok) {w : Wrd} (hw : w.ok) : (s.hear w).fine := by
  unfold Lmp.hear
  split
  · exact (h.note w).does (hk.note hw) _
  · exact h.note w
end Y

end

section
set_option Elab.async false
set_option linter.all false
set_option maxRecDepth 100000
set_option maxHeartbeats 4000000
namespace Y
open PySem L2
/-! ### the law's houses -/
theorem sub_len {α : Type} [DecidableEq α] : ∀ (l m : List α), l.Nodup → (∀ x ∈ l, x ∈ m) → l.length ≤ m.length
  | [], m, _, _ => by simp
  | x :: l, m, hn, h => by
    obtain ⟨h1, h2⟩ := List.nodup_cons.mp hn
    have hx := h x (by simp)
    have ih := sub_len l (m.erase x) h2 (fun y hy => (List.mem_erase_of_ne (fun e => h1 (by rw [← e]; exact hy))).mpr (h y (by simp [hy])))
    have hl := List.length_erase_of_mem hx
    have hp := List.length_pos_of_mem hx
    simp only [List.length_cons]
    omega
def freeOf (longs : List Int) : Nat → Int → Int
  | 0, own => own
  | n + 1, own => if own ∈ longs then freeOf longs n ((own + 1) % 65536) else own
theorem freeOf_bd (longs : List Int) : ∀ (n : Nat) (own : Int), 0 ≤ own ∧ own ≤ 65535 → 0 ≤ freeOf longs n own ∧ freeOf longs n own ≤ 65535
  | 0, own, h => h
  | n + 1, own, h => by
    unfold freeOf
    split
    · exact freeOf_bd longs n _ (by omega)
    · exact h
theorem freeOf_not (longs : List Int) : ∀ (n : Nat) (own : Int), (∃ j : Nat, j ≤ n ∧ (own + j) % 65536 ∉ longs) → 0 ≤ own ∧ own ≤ 65535 → freeOf longs n own ∉ longs
  | 0, own, ⟨j, hj, h⟩, hb => by
    have : j = 0 := by omega
    subst this
    have e : (own + (0 : Nat)) % 65536 = own := by omega
    rw [e] at h
    exact h
  | n + 1, own, ⟨j, hj, h⟩, hb => by
    unfold freeOf
    split
    · rename_i hm
      refine freeOf_not longs n _ ?_ (by omega)
      cases j with
      | zero =>
        have e : (own + (0 : Nat)) % 65536 = own := by omega
        rw [e] at h
        exact absurd hm h
      | succ j =>
        refine ⟨j, by omega, ?_⟩
        have e : ((own + 1) % 65536 + (j : Int)) % 65536 = (own + ((j + 1 : Nat) : Int)) % 65536 := by omega
        rw [e]
        exact h
    · rename_i hm
      exact hm
theorem free_ex (longs : List Int) (own : Int) (hl : longs.length ≤ 8) : ∃ j : Nat, j ≤ 8 ∧ (own + j) % 65536 ∉ longs := by
  refine Decidable.byContradiction fun hc => ?_
  have hall : ∀ j : Nat, j ≤ 8 → (own + j) % 65536 ∈ longs := fun j hj => Decidable.byContradiction fun z => hc ⟨j, hj, z⟩
  have hn : ((List.range 9).map fun (j : Nat) => (own + j) % 65536).Nodup := by
    refine List.pairwise_map.mpr ?_
    refine (List.nodup_range (n := 9)).imp_of_mem ?_
    intro a b ha hb hab e
    simp at ha hb
    omega
  have := sub_len _ longs hn (fun x hx => by
    obtain ⟨j, hj, rfl⟩ := List.mem_map.mp hx
    simp at hj
    exact hall j (by omega))
  simp at this
  omega
section
variable {T : Tab}
theorem while_free {k : Nat} {longs : List Int} {S : Sto} {r : Nat} (hr : S[r]? = some (.lst (intsL longs))) (e0 e1 e2 e4 e5 e7 e8 : Option D) : ∀ (n fuel : Nat) (own : Int), (∃ j : Nat, j ≤ n ∧ (own + j) % 65536 ∉ longs) → 0 ≤ own ∧ own ≤ 65535 → n < fuel →
    whileL (fun env S => evE (RG T k) (.cmp .isin (.var 6) (.var 3)) env S) (fun env S => evCs (RG T k) f6_b0 env S) fuel [e0, e1, e2, some (.ref r), e4, e5, some (.int own), e7, e8] S = .nx [e0, e1, e2, some (.ref r), e4, e5, some (.int (freeOf longs n own)), e7, e8] S := by
  have test : ∀ own : Int, evE (RG T k) (.cmp .isin (.var 6) (.var 3)) [e0, e1, e2, some (.ref r), e4, e5, some (.int own), e7, e8] S = .ok (.bl (decide (own ∈ longs))) S := by
    intro own
    simp only [evCs, evC, evE, evEs, R.bind_ok, R.bind_exc, opt_some, tB_bl, tB_exc, of_ok, of_exc, seq_nx, seq_rt, seq_exc, turn_nx, turn_rt, turn_exc, calm_ok, Env.get, Env.put, isTys, isTy, vw_non, vw_bl, vw_int, vw_str, vw_tup, vw_lst, vw_scr, c_lt, c_le, c_gt, c_ge, c_eq, c_ne, c_in, c_nin, q_int, q_nn, q_ni, q_in, ix_lst, ix_tup, ix_scr, g0, g1, g2, g3, b_lenL, b_lenT, b_lenS, b_max2, b_min2, b_max, b_min, b_sum, b_sorted, b_int, b_bool, b_tupL, b_tupT, b_lstL, b_lstT, b_abs, add_i, sub_i, sl_lst, sl_tup, pt_nil, pt_int, nD_non, nD_int, nD_str, nD_tup, nD_lst, app_get, app_set, store, stores, putAll, decide_true, decide_false, Bool.not_true, Bool.not_false, Bool.and_true, Bool.true_and, Bool.and_false, Bool.false_and, Bool.or_true, Bool.true_or, Bool.or_false, Bool.false_or, Option.map_some, Option.map_none, Option.bind_some, if_true, if_false, ite_true, ite_false, Bool.false_eq_true, reduceIte, reduceCtorEq, List.length_cons, List.length_nil, List.nil_append, List.cons_append, List.map_cons, List.map_nil, List.append_assoc, Nat.zero_add, Nat.reduceAdd, Nat.reduceLT, Nat.reduceEqDiff, Int.reduceNeg, Int.reduceLT, Int.reduceLE, and_self, true_and, and_true, Bool.and_self, ty_beq, nc0, nc1, nc2, nc3, nc4, nc5, nc6, nc7, nc8, nc9, Int.reduceEq, Int.reduceNe, eq_self, Int.reduceSub, Int.reduceAdd, Nat.reduceLeDiff, vw_ref hr, in_ints]
  intro n
  induction n with
  | zero =>
    intro fuel own ⟨j, hj, h⟩ hb hf
    obtain ⟨fuel, rfl⟩ : ∃ m, fuel = m + 1 := ⟨fuel - 1, by omega⟩
    have : j = 0 := by omega
    subst this
    have e : (own + (0 : Nat)) % 65536 = own := by omega
    rw [e] at h
    exact whileL_stop (by show evE _ _ _ _ = _; rw [test, decide_eq_false h])
  | succ n ih =>
    intro fuel own hj hb hf
    obtain ⟨fuel, rfl⟩ : ∃ m, fuel = m + 1 := ⟨fuel - 1, by omega⟩
    unfold freeOf
    by_cases hm : own ∈ longs
    · rw [if_pos hm]
      have st := whileL_step (n := fuel) (test := fun env S => evE (RG T k) (.cmp .isin (.var 6) (.var 3)) env S) (body := fun env S => evCs (RG T k) f6_b0 env S) (env2 := [e0, e1, e2, some (.ref r), e4, e5, some (.int ((own + 1) % 65536)), e7, e8]) (S2 := S) (by show evE _ _ _ _ = _; rw [test own, decide_eq_true hm]) (by
        simp only [f6_b0]
        simp only [evCs, evC, evE, evEs, R.bind_ok, R.bind_exc, opt_some, tB_bl, tB_exc, of_ok, of_exc, seq_nx, seq_rt, seq_exc, turn_nx, turn_rt, turn_exc, calm_ok, Env.get, Env.put, isTys, isTy, vw_non, vw_bl, vw_int, vw_str, vw_tup, vw_lst, vw_scr, c_lt, c_le, c_gt, c_ge, c_eq, c_ne, c_in, c_nin, q_int, q_nn, q_ni, q_in, ix_lst, ix_tup, ix_scr, g0, g1, g2, g3, b_lenL, b_lenT, b_lenS, b_max2, b_min2, b_max, b_min, b_sum, b_sorted, b_int, b_bool, b_tupL, b_tupT, b_lstL, b_lstT, b_abs, add_i, sub_i, sl_lst, sl_tup, pt_nil, pt_int, nD_non, nD_int, nD_str, nD_tup, nD_lst, app_get, app_set, store, stores, putAll, decide_true, decide_false, Bool.not_true, Bool.not_false, Bool.and_true, Bool.true_and, Bool.and_false, Bool.false_and, Bool.or_true, Bool.true_or, Bool.or_false, Bool.false_or, Option.map_some, Option.map_none, Option.bind_some, if_true, if_false, ite_true, ite_false, Bool.false_eq_true, reduceIte, reduceCtorEq, List.length_cons, List.length_nil, List.nil_append, List.cons_append, List.map_cons, List.map_nil, List.append_assoc, Nat.zero_add, Nat.reduceAdd, Nat.reduceLT, Nat.reduceEqDiff, Int.reduceNeg, Int.reduceLT, Int.reduceLE, and_self, true_and, and_true, Bool.and_self, ty_beq, nc0, nc1, nc2, nc3, nc4, nc5, nc6, nc7, nc8, nc9, Int.reduceEq, Int.reduceNe, eq_self, Int.reduceSub, Int.reduceAdd, Nat.reduceLeDiff, mod_i (show (0 : Int) < 65536 by decide)])
      rw [st]
      obtain ⟨j, hj1, hj2⟩ := hj
      refine ih fuel _ ?_ (by omega) (by omega)
      cases j with
      | zero =>
        have e : (own + (0 : Nat)) % 65536 = own := by omega
        rw [e] at hj2
        exact absurd hm hj2
      | succ j =>
        refine ⟨j, by omega, ?_⟩
        have e : ((own + 1) % 65536 + (j : Int)) % 65536 = (own + ((j + 1 : Nat) : Int)) % 65536 := by omega
        rw [e]
        exact hj2
    · rw [if_neg hm]
      exact whileL_stop (by show evE _ _ _ _ = _; rw [test, decide_eq_false hm])
def pick (xs : List Int) (i : Int) : Int := xs.getD i.toNat 0
theorem pick_eq {xs : List Int} {n : Nat} (hn : xs.length = n) (h0 : 0 < n) (h : Int) : getI (intsL xs) (h % (n : Int)) = some (.int (pick xs (h % (n : Int)))) := by
  have hp : 0 ≤ h % (n : Int) := Int.emod_nonneg _ (by omega)
  have hlt : h % (n : Int) < n := Int.emod_lt_of_pos _ (by omega)
  have e : h % (n : Int) = ((h % (n : Int)).toNat : Int) := by omega
  have hl : (h % (n : Int)).toNat < xs.length := by omega
  rw [e, ints_get hl]
  unfold pick
  rw [← e, List.getD_eq_getElem?_getD, List.getElem?_eq_getElem hl]
  rfl
theorem pick_mem {xs : List Int} {n : Nat} (hn : xs.length = n) (h0 : 0 < n) (h : Int) : pick xs (h % (n : Int)) ∈ xs := by
  have hp : 0 ≤ h % (n : Int) := Int.emod_nonneg _ (by omega)
  have hlt : h % (n : Int) < n := Int.emod_lt_of_pos _ (by omega)
  have hl : (h % (n : Int)).toNat < xs.length := by omega
  unfold pick
  rw [List.getD_eq_getElem?_getD, List.getElem?_eq_getElem hl]
  exact List.getElem_mem hl
def mkOwn (h : Int) (longs : List Int) : Own :=
  let lo := 1 + h / 1073741824 % pick [100, 20, 1] (h / 1099511627776 % (3 : Nat))
  { lg := freeOf longs 8 (h / 8 % pick [65536, 40] (h % (2 : Nat))),
    sh := if 0 < h / 4 % 4 then some (h / 1048576 % pick [16, 4] (h / 2 % (2 : Nat))) else none,
    lo := lo, hi := lo + h / 1125899906842624 % (101 - lo) }
theorem pick2 (a b h : Int) : pick [a, b] (h % (2 : Nat)) = a ∨ pick [a, b] (h % (2 : Nat)) = b := by
  have := pick_mem (xs := [a, b]) (n := 2) rfl (by decide) h
  simpa using this
theorem pick3 (a b c h : Int) : pick [a, b, c] (h % (3 : Nat)) = a ∨ pick [a, b, c] (h % (3 : Nat)) = b ∨ pick [a, b, c] (h % (3 : Nat)) = c := by
  have := pick_mem (xs := [a, b, c]) (n := 3) rfl (by decide) h
  simpa using this
theorem mkOwn_lo (h : Int) (longs : List Int) : 1 ≤ (mkOwn h longs).lo ∧ (mkOwn h longs).lo ≤ 100 := by
  unfold mkOwn
  simp only
  rcases pick3 100 20 1 (h / 1099511627776) with e | e | e <;> rw [e] <;> omega
theorem first_bd (h : Int) : 0 ≤ h / 8 % pick [65536, 40] (h % (2 : Nat)) ∧ h / 8 % pick [65536, 40] (h % (2 : Nat)) ≤ 65535 := by
  rcases pick2 65536 40 h with e | e <;> rw [e] <;> omega
theorem mkOwn_ok (h : Int) (longs : List Int) (hl : longs.length ≤ 8) : (mkOwn h longs).ok ∧ (mkOwn h longs).lg ∉ longs := by
  have hlo := mkOwn_lo h longs
  have b := freeOf_bd longs 8 _ (first_bd h)
  refine ⟨⟨b.1, b.2, ?_, hlo.1, hlo.2, ?_, ?_⟩, freeOf_not longs 8 _ (free_ex longs _ hl) (first_bd h)⟩
  · intro i hi
    simp only [mkOwn] at hi
    split at hi
    · cases hi
      rcases pick2 16 4 (h / 2) with e | e <;> rw [e] <;> omega
    · cases hi
  · have : 0 ≤ h / 1125899906842624 % (101 - (mkOwn h longs).lo) := Int.emod_nonneg _ (by omega)
    show (mkOwn h longs).lo ≤ (mkOwn h longs).lo + h / 1125899906842624 % (101 - (mkOwn h longs).lo)
    omega
  · have : h / 1125899906842624 % (101 - (mkOwn h longs).lo) < 101 - (mkOwn h longs).lo := Int.emod_lt_of_pos _ (by omega)
    show (mkOwn h longs).lo + h / 1125899906842624 % (101 - (mkOwn h longs).lo) ≤ 100
    omega
def houseOf (m : Int) : Nat → List Own
  | 0 => []
  | n + 1 => houseOf m n ++ [mkOwn (drawnOf m n) ((houseOf m n).map (·.lg))]
theorem houseOf_len (m : Int) : ∀ n, (houseOf m n).length = n
  | 0 => rfl
  | n + 1 => by simp [houseOf, houseOf_len m n]
theorem houseOf_ok (m : Int) : ∀ n, n ≤ 8 → (∀ o ∈ houseOf m n, o.ok) ∧ ((houseOf m n).map (·.lg)).Nodup
  | 0, _ => by simp [houseOf]
  | n + 1, h => by
    obtain ⟨h1, h2⟩ := houseOf_ok m n (by omega)
    obtain ⟨k1, k2⟩ := mkOwn_ok (drawnOf m n) ((houseOf m n).map (·.lg)) (by rw [List.length_map, houseOf_len]; omega)
    constructor
    · intro o ho
      rcases List.mem_append.mp ho with z | z
      · exact h1 o z
      · simp at z; rw [z]; exact k1
    · rw [houseOf, List.map_append]
      refine List.nodup_append.mpr ⟨h2, by simp, fun a ha b hb => ?_⟩
      simp only [List.map_cons, List.map_nil, List.mem_singleton] at hb
      subst hb
      exact fun z => k2 (z ▸ ha)
theorem houseOf_hok (m : Int) (n : Nat) (h1 : 1 ≤ n) (h8 : n ≤ 8) : Hok (houseOf m n) := ⟨by rw [houseOf_len]; exact h1, by rw [houseOf_len]; exact h8, (houseOf_ok m n h8).1, (houseOf_ok m n h8).2⟩
theorem house_b1 (h5 : T.fn 5 = some f5_law_drawn) (k : Nat) (m N : Int) (j : Nat) (hj : j < 8) (S : Sto) (e5 e6 e7 e8 : Option D) :
    Run (evCs (RG T (k + 1)) f6_b1 [some (.int m), some (.int N), some (.ref S.length), some (.ref (S.length + 1)), some (.int j), e5, e6, e7, e8] (S ++ [.lst ((houseOf m j).map ownD), .lst (intsL ((houseOf m j).map (·.lg)))])) fun env S' => (∃ e5' e6' e7' e8', env = [some (.int m), some (.int N), some (.ref S.length), some (.ref (S.length + 1)), some (.int j), e5', e6', e7', e8']) ∧ S' = S ++ [.lst ((houseOf m (j + 1)).map ownD), .lst (intsL ((houseOf m (j + 1)).map (·.lg)))] := by
  have hl : (houseOf m j).length = j := houseOf_len m j
  have hh : houseOf m (j + 1) = houseOf m j ++ [mkOwn (drawnOf m j) ((houseOf m j).map (·.lg))] := rfl
  rw [hh]
  generalize houseOf m j = hs at *
  have dr := law_drawn h5 k m j (S ++ [.lst (hs.map ownD), .lst (intsL (hs.map (·.lg)))])
  generalize drawnOf m j = h at *
  unfold f6_b1
  refine run_eq (env1 := [some (.int m), some (.int N), some (.ref S.length), some (.ref (S.length + 1)), some (.int j), some (.int h), e6, e7, e8]) (S1 := S ++ [.lst (hs.map ownD), .lst (intsL (hs.map (·.lg)))]) ?_ ?_
  · simp only [evCs, evC, evE, evEs, R.bind_ok, R.bind_exc, opt_some, tB_bl, tB_exc, of_ok, of_exc, seq_nx, seq_rt, seq_exc, turn_nx, turn_rt, turn_exc, calm_ok, Env.get, Env.put, isTys, isTy, vw_non, vw_bl, vw_int, vw_str, vw_tup, vw_lst, vw_scr, c_lt, c_le, c_gt, c_ge, c_eq, c_ne, c_in, c_nin, q_int, q_nn, q_ni, q_in, ix_lst, ix_tup, ix_scr, g0, g1, g2, g3, b_lenL, b_lenT, b_lenS, b_max2, b_min2, b_max, b_min, b_sum, b_sorted, b_int, b_bool, b_tupL, b_tupT, b_lstL, b_lstT, b_abs, add_i, sub_i, sl_lst, sl_tup, pt_nil, pt_int, nD_non, nD_int, nD_str, nD_tup, nD_lst, app_get, app_set, store, stores, putAll, decide_true, decide_false, Bool.not_true, Bool.not_false, Bool.and_true, Bool.true_and, Bool.and_false, Bool.false_and, Bool.or_true, Bool.true_or, Bool.or_false, Bool.false_or, Option.map_some, Option.map_none, Option.bind_some, if_true, if_false, ite_true, ite_false, Bool.false_eq_true, reduceIte, reduceCtorEq, List.length_cons, List.length_nil, List.nil_append, List.cons_append, List.map_cons, List.map_nil, List.append_assoc, Nat.zero_add, Nat.reduceAdd, Nat.reduceLT, Nat.reduceEqDiff, Int.reduceNeg, Int.reduceLT, Int.reduceLE, and_self, true_and, and_true, Bool.and_self, ty_beq, nc0, nc1, nc2, nc3, nc4, nc5, nc6, nc7, nc8, nc9, Int.reduceEq, Int.reduceNe, eq_self, Int.reduceSub, Int.reduceAdd, Nat.reduceLeDiff, dr]
  have p1 := pick_eq (xs := [65536, 40]) (n := 2) rfl (by decide) h
  have b1 := first_bd h
  have p2 := pick_eq (xs := [16, 4]) (n := 2) rfl (by decide) (h / 2)
  have p3 := pick_eq (xs := [100, 20, 1]) (n := 3) rfl (by decide) (h / 1099511627776)
  have q1 : 0 < pick [65536, 40] (h % (2 : Nat)) := by rcases pick2 65536 40 h with e | e <;> rw [e] <;> decide
  have q2 : 0 < pick [16, 4] (h / 2 % (2 : Nat)) := by rcases pick2 16 4 (h / 2) with e | e <;> rw [e] <;> decide
  have q3 : 0 < pick [100, 20, 1] (h / 1099511627776 % (3 : Nat)) := by rcases pick3 100 20 1 (h / 1099511627776) with e | e | e <;> rw [e] <;> decide
  have lo := mkOwn_lo h (hs.map (·.lg))
  have eo : mkOwn h (hs.map (·.lg)) = { lg := freeOf (hs.map (·.lg)) 8 (h / 8 % pick [65536, 40] (h % (2 : Nat))), sh := if 0 < h / 4 % 4 then some (h / 1048576 % pick [16, 4] (h / 2 % (2 : Nat))) else none, lo := 1 + h / 1073741824 % pick [100, 20, 1] (h / 1099511627776 % (3 : Nat)), hi := 1 + h / 1073741824 % pick [100, 20, 1] (h / 1099511627776 % (3 : Nat)) + h / 1125899906842624 % (101 - (1 + h / 1073741824 % pick [100, 20, 1] (h / 1099511627776 % (3 : Nat)))) } := rfl
  rw [eo] at lo ⊢
  simp only at lo
  simp only [intsL, List.map_cons, List.map_nil] at p1 p2 p3
  simp only [nc2, nc3] at p1 p2 p3 q1 q2 q3 b1 lo ⊢
  generalize hL : pick [65536, 40] (h % 2) = P1 at *
  generalize pick [16, 4] (h / 2 % 2) = P2 at *
  generalize pick [100, 20, 1] (h / 1099511627776 % 3) = P3 at *
  have f8 : ∀ i : Int, bop .fdiv (.int i) (.int 8) = some (.int (i / 8)) := fun i => fdiv_i (by decide) (by decide)
  have f4 : ∀ i : Int, bop .fdiv (.int i) (.int 4) = some (.int (i / 4)) := fun i => fdiv_i (by decide) (by decide)
  have f2 : ∀ i : Int, bop .fdiv (.int i) (.int 2) = some (.int (i / 2)) := fun i => fdiv_i (by decide) (by decide)
  have f20 : ∀ i : Int, bop .fdiv (.int i) (.int 1048576) = some (.int (i / 1048576)) := fun i => fdiv_i (by decide) (by decide)
  have f30 : ∀ i : Int, bop .fdiv (.int i) (.int 1073741824) = some (.int (i / 1073741824)) := fun i => fdiv_i (by decide) (by decide)
  have f40 : ∀ i : Int, bop .fdiv (.int i) (.int 1099511627776) = some (.int (i / 1099511627776)) := fun i => fdiv_i (by decide) (by decide)
  have f50 : ∀ i : Int, bop .fdiv (.int i) (.int 1125899906842624) = some (.int (i / 1125899906842624)) := fun i => fdiv_i (by decide) (by decide)
  have m2 : ∀ i : Int, bop .mod (.int i) (.int 2) = some (.int (i % 2)) := fun i => mod_i (by decide)
  have m3 : ∀ i : Int, bop .mod (.int i) (.int 3) = some (.int (i % 3)) := fun i => mod_i (by decide)
  have m4 : ∀ i : Int, bop .mod (.int i) (.int 4) = some (.int (i % 4)) := fun i => mod_i (by decide)
  refine run_eq (env1 := [some (.int m), some (.int N), some (.ref S.length), some (.ref (S.length + 1)), some (.int j), some (.int h), some (.int (h / 8 % P1)), e7, e8]) (S1 := S ++ [.lst (hs.map ownD), .lst (intsL (hs.map (·.lg)))]) ?_ ?_
  · simp only [evCs, evC, evE, evEs, R.bind_ok, R.bind_exc, opt_some, tB_bl, tB_exc, of_ok, of_exc, seq_nx, seq_rt, seq_exc, turn_nx, turn_rt, turn_exc, calm_ok, Env.get, Env.put, isTys, isTy, vw_non, vw_bl, vw_int, vw_str, vw_tup, vw_lst, vw_scr, c_lt, c_le, c_gt, c_ge, c_eq, c_ne, c_in, c_nin, q_int, q_nn, q_ni, q_in, ix_lst, ix_tup, ix_scr, g0, g1, g2, g3, b_lenL, b_lenT, b_lenS, b_max2, b_min2, b_max, b_min, b_sum, b_sorted, b_int, b_bool, b_tupL, b_tupT, b_lstL, b_lstT, b_abs, add_i, sub_i, sl_lst, sl_tup, pt_nil, pt_int, nD_non, nD_int, nD_str, nD_tup, nD_lst, app_get, app_set, store, stores, putAll, decide_true, decide_false, Bool.not_true, Bool.not_false, Bool.and_true, Bool.true_and, Bool.and_false, Bool.false_and, Bool.or_true, Bool.true_or, Bool.or_false, Bool.false_or, Option.map_some, Option.map_none, Option.bind_some, if_true, if_false, ite_true, ite_false, Bool.false_eq_true, reduceIte, reduceCtorEq, List.length_cons, List.length_nil, List.nil_append, List.cons_append, List.map_cons, List.map_nil, List.append_assoc, Nat.zero_add, Nat.reduceAdd, Nat.reduceLT, Nat.reduceEqDiff, Int.reduceNeg, Int.reduceLT, Int.reduceLE, and_self, true_and, and_true, Bool.and_self, ty_beq, nc0, nc1, nc2, nc3, nc4, nc5, nc6, nc7, nc8, nc9, Int.reduceEq, Int.reduceNe, eq_self, Int.reduceSub, Int.reduceAdd, Nat.reduceLeDiff, f8, m2, p1, mod_i q1]
  have gr : (S ++ [O.lst (hs.map ownD), O.lst (intsL (hs.map (·.lg)))])[S.length + 1]? = some (.lst (intsL (hs.map (·.lg)))) := by simp
  have wf := while_free (T := T) (k := k + 1) gr (some (.int m)) (some (.int N)) (some (.ref S.length)) (some (.int j)) (some (.int h)) e7 e8 8 100000 (h / 8 % P1) (free_ex _ _ (by rw [List.length_map]; omega)) b1 (by decide)
  refine run_eq (env1 := _) (S1 := _) wf ?_
  generalize freeOf (hs.map (·.lg)) 8 (h / 8 % P1) = lg
  have hc1 : (intsL (hs.map (·.lg))).length < cap := by rw [ints_len, List.length_map]; exact lt_cap (by omega)
  have hc2 : (hs.map ownD).length < cap := by rw [List.length_map]; exact lt_cap (by omega)
  have st1 : (S ++ [O.lst (hs.map ownD), O.lst (intsL (hs.map (·.lg)))]).set (S.length + 1) (.lst (intsL (hs.map (·.lg)) ++ [.int lg])) = S ++ [.lst (hs.map ownD), .lst (intsL (hs.map (·.lg)) ++ [.int lg])] := by simp
  have mm : 0 < 101 - (1 + h / 1073741824 % P3) := by omega
  have gr2 : ∀ o, (S ++ [O.lst (hs.map ownD), o])[S.length]? = some (.lst (hs.map ownD)) := fun o => by simp
  have st2 : ∀ o x, (S ++ [O.lst (hs.map ownD), o]).set S.length x = S ++ [x, o] := fun o x => by simp
  simp only [List.map_append, ints_app, List.map_cons, List.map_nil, ownD]
  simp only [intsL] at *
  generalize hs.map ownD = HO at *
  generalize (hs.map (·.lg)).map D.int = LO at *
  by_cases hz : 0 < h / 4 % 4
  · simp only [evCs, evC, evE, evEs, R.bind_ok, R.bind_exc, opt_some, tB_bl, tB_exc, of_ok, of_exc, seq_nx, seq_rt, seq_exc, turn_nx, turn_rt, turn_exc, calm_ok, Env.get, Env.put, isTys, isTy, vw_non, vw_bl, vw_int, vw_str, vw_tup, vw_lst, vw_scr, c_lt, c_le, c_gt, c_ge, c_eq, c_ne, c_in, c_nin, q_int, q_nn, q_ni, q_in, ix_lst, ix_tup, ix_scr, g0, g1, g2, g3, b_lenL, b_lenT, b_lenS, b_max2, b_min2, b_max, b_min, b_sum, b_sorted, b_int, b_bool, b_tupL, b_tupT, b_lstL, b_lstT, b_abs, add_i, sub_i, sl_lst, sl_tup, pt_nil, pt_int, nD_non, nD_int, nD_str, nD_tup, nD_lst, app_get, app_set, store, stores, putAll, decide_true, decide_false, Bool.not_true, Bool.not_false, Bool.and_true, Bool.true_and, Bool.and_false, Bool.false_and, Bool.or_true, Bool.true_or, Bool.or_false, Bool.false_or, Option.map_some, Option.map_none, Option.bind_some, if_true, if_false, ite_true, ite_false, Bool.false_eq_true, reduceIte, reduceCtorEq, List.length_cons, List.length_nil, List.nil_append, List.cons_append, List.map_cons, List.map_nil, List.append_assoc, Nat.zero_add, Nat.reduceAdd, Nat.reduceLT, Nat.reduceEqDiff, Int.reduceNeg, Int.reduceLT, Int.reduceLE, and_self, true_and, and_true, Bool.and_self, ty_beq, nc0, nc1, nc2, nc3, nc4, nc5, nc6, nc7, nc8, nc9, Int.reduceEq, Int.reduceNe, eq_self, Int.reduceSub, Int.reduceAdd, Nat.reduceLeDiff, vw_ref gr, bm_app gr hc1, st1, f4, m4, hz, p20, f20, f2, m2, p2, mod_i q2, p30, f30, p40, f40, m3, p3, mod_i q3, p50, f50, mod_i mm, vw_ref (gr2 _), bm_app (gr2 _) hc2, st2, shD, run_nx]
    exact ⟨_, _, _, _, rfl⟩
  · simp only [evCs, evC, evE, evEs, R.bind_ok, R.bind_exc, opt_some, tB_bl, tB_exc, of_ok, of_exc, seq_nx, seq_rt, seq_exc, turn_nx, turn_rt, turn_exc, calm_ok, Env.get, Env.put, isTys, isTy, vw_non, vw_bl, vw_int, vw_str, vw_tup, vw_lst, vw_scr, c_lt, c_le, c_gt, c_ge, c_eq, c_ne, c_in, c_nin, q_int, q_nn, q_ni, q_in, ix_lst, ix_tup, ix_scr, g0, g1, g2, g3, b_lenL, b_lenT, b_lenS, b_max2, b_min2, b_max, b_min, b_sum, b_sorted, b_int, b_bool, b_tupL, b_tupT, b_lstL, b_lstT, b_abs, add_i, sub_i, sl_lst, sl_tup, pt_nil, pt_int, nD_non, nD_int, nD_str, nD_tup, nD_lst, app_get, app_set, store, stores, putAll, decide_true, decide_false, Bool.not_true, Bool.not_false, Bool.and_true, Bool.true_and, Bool.and_false, Bool.false_and, Bool.or_true, Bool.true_or, Bool.or_false, Bool.false_or, Option.map_some, Option.map_none, Option.bind_some, if_true, if_false, ite_true, ite_false, Bool.false_eq_true, reduceIte, reduceCtorEq, List.length_cons, List.length_nil, List.nil_append, List.cons_append, List.map_cons, List.map_nil, List.append_assoc, Nat.zero_add, Nat.reduceAdd, Nat.reduceLT, Nat.reduceEqDiff, Int.reduceNeg, Int.reduceLT, Int.reduceLE, and_self, true_and, and_true, Bool.and_self, ty_beq, nc0, nc1, nc2, nc3, nc4, nc5, nc6, nc7, nc8, nc9, Int.reduceEq, Int.reduceNe, eq_self, Int.reduceSub, Int.reduceAdd, Nat.reduceLeDiff, vw_ref gr, bm_app gr hc1, st1, f4, m4, hz, p20, f20, f2, m2, p2, mod_i q2, p30, f30, p40, f40, m3, p3, mod_i q3, p50, f50, mod_i mm, vw_ref (gr2 _), bm_app (gr2 _) hc2, st2, shD, run_nx]
    exact ⟨_, _, _, _, rfl⟩
theorem norefs_owns (os : List Own) : D.norefs (os.map ownD) = true := by
  induction os with
  | nil => rfl
  | cons o os ih =>
    obtain ⟨a, b, c, d⟩ := o
    cases b <;> simp [D.norefs, D.noref, ownD, shD, ih]
theorem law_house_eq (h5 : T.fn 5 = some f5_law_drawn) (h6 : T.fn 6 = some f6_law_house) (k : Nat) (m : Int) (N : Nat) (hN : 0 < N) (hN8 : N ≤ 8) (S : Sto) : callAt T (k + 2) 6 [.int m, .int N] S = .ok (.lst ((houseOf m (1 + (m % N).toNat)).map ownD)) S := by
  rw [call_eq h6 rfl]
  have hp : 0 ≤ m % (N : Int) := Int.emod_nonneg _ (by omega)
  have hlt : m % (N : Int) < N := Int.emod_lt_of_pos _ (by omega)
  have ls : Run (evC (RG T (k + 1)) f6_l0 [some (.int m), some (.int N), some (.ref S.length), some (.ref (S.length + 1)), none, none, none, none, none] (S ++ [.lst [], .lst []])) fun env S' => (∃ e4 e5' e6' e7' e8', env = [some (.int m), some (.int N), some (.ref S.length), some (.ref (S.length + 1)), e4, e5', e6', e7', e8']) ∧ S' = S ++ [.lst ((houseOf m (1 + (m % N).toNat)).map ownD), .lst (intsL ((houseOf m (1 + (m % N).toNat)).map (·.lg)))] := by
    unfold f6_l0
    refine run_rng (n := 1 + (m % N).toNat) (fun i env S' => (∃ e4 e5' e6' e7' e8', env = [some (.int m), some (.int N), some (.ref S.length), some (.ref (S.length + 1)), e4, e5', e6', e7', e8']) ∧ S' = S ++ [.lst ((houseOf m i).map ownD), .lst (intsL ((houseOf m i).map (·.lg)))]) ?_ (by omega) ⟨⟨_, _, _, _, _, rfl⟩, rfl⟩ ?_
    · have q : 0 < (N : Int) := by omega
      have e : ((1 + (m % (N : Int)).toNat : Nat) : Int) = 1 + m % (N : Int) := by omega
      rw [e]
      generalize (N : Int) = NN at *
      simp only [evCs, evC, evE, evEs, R.bind_ok, R.bind_exc, opt_some, tB_bl, tB_exc, of_ok, of_exc, seq_nx, seq_rt, seq_exc, turn_nx, turn_rt, turn_exc, calm_ok, Env.get, Env.put, isTys, isTy, vw_non, vw_bl, vw_int, vw_str, vw_tup, vw_lst, vw_scr, c_lt, c_le, c_gt, c_ge, c_eq, c_ne, c_in, c_nin, q_int, q_nn, q_ni, q_in, ix_lst, ix_tup, ix_scr, g0, g1, g2, g3, b_lenL, b_lenT, b_lenS, b_max2, b_min2, b_max, b_min, b_sum, b_sorted, b_int, b_bool, b_tupL, b_tupT, b_lstL, b_lstT, b_abs, add_i, sub_i, sl_lst, sl_tup, pt_nil, pt_int, nD_non, nD_int, nD_str, nD_tup, nD_lst, app_get, app_set, store, stores, putAll, decide_true, decide_false, Bool.not_true, Bool.not_false, Bool.and_true, Bool.true_and, Bool.and_false, Bool.false_and, Bool.or_true, Bool.true_or, Bool.or_false, Bool.false_or, Option.map_some, Option.map_none, Option.bind_some, if_true, if_false, ite_true, ite_false, Bool.false_eq_true, reduceIte, reduceCtorEq, List.length_cons, List.length_nil, List.nil_append, List.cons_append, List.map_cons, List.map_nil, List.append_assoc, Nat.zero_add, Nat.reduceAdd, Nat.reduceLT, Nat.reduceEqDiff, Int.reduceNeg, Int.reduceLT, Int.reduceLE, and_self, true_and, and_true, Bool.and_self, ty_beq, nc0, nc1, nc2, nc3, nc4, nc5, nc6, nc7, nc8, nc9, Int.reduceEq, Int.reduceNe, eq_self, Int.reduceSub, Int.reduceAdd, Nat.reduceLeDiff, mod_i q]
    · rintro j env S' hj ⟨⟨e4, e5, e6, e7, e8, rfl⟩, rfl⟩
      exact (house_b1 h5 k m N j (by omega) S e5 e6 e7 e8).mono (by
        rintro env S' ⟨⟨e5', e6', e7', e8', rfl⟩, rfl⟩
        exact ⟨⟨_, _, _, _, _, rfl⟩, rfl⟩)
  obtain ⟨env2, S2, r1, ⟨e4, e5, e6, e7, e8, rfl⟩, rfl⟩ := ls
  have nr := norefs_owns (houseOf m (1 + (m % N).toNat))
  have g : ∀ o, (S ++ [O.lst ((houseOf m (1 + (m % N).toNat)).map ownD), o])[S.length]? = some (.lst ((houseOf m (1 + (m % N).toNat)).map ownD)) := fun o => by simp
  have st : ∀ o x, (S ++ [O.lst ((houseOf m (1 + (m % N).toNat)).map ownD), o]).set S.length x = S ++ [x, o] := fun o x => by simp
  have ap : S ++ [O.lst []] ++ [O.lst []] = S ++ [O.lst [], O.lst []] := by simp
  have al : (S ++ [O.lst []]).length = S.length + 1 := by simp
  simp only [f6_law_house]
  obtain ⟨ll, hll⟩ : ∃ ll, ll = f6_l0 := ⟨_, rfl⟩; rw [← hll] at r1 ⊢
  generalize (houseOf m (1 + (m % N).toNat)).map ownD = HO at *
  generalize intsL ((houseOf m (1 + (m % N).toNat)).map (·.lg)) = LO at *
  simp only [evCs, evC, evE, evEs, R.bind_ok, R.bind_exc, opt_some, tB_bl, tB_exc, of_ok, of_exc, seq_nx, seq_rt, seq_exc, turn_nx, turn_rt, turn_exc, calm_ok, Env.get, Env.put, isTys, isTy, vw_non, vw_bl, vw_int, vw_str, vw_tup, vw_lst, vw_scr, c_lt, c_le, c_gt, c_ge, c_eq, c_ne, c_in, c_nin, q_int, q_nn, q_ni, q_in, ix_lst, ix_tup, ix_scr, g0, g1, g2, g3, b_lenL, b_lenT, b_lenS, b_max2, b_min2, b_max, b_min, b_sum, b_sorted, b_int, b_bool, b_tupL, b_tupT, b_lstL, b_lstT, b_abs, add_i, sub_i, sl_lst, sl_tup, pt_nil, pt_int, nD_non, nD_int, nD_str, nD_tup, nD_lst, app_get, app_set, store, stores, putAll, decide_true, decide_false, Bool.not_true, Bool.not_false, Bool.and_true, Bool.true_and, Bool.and_false, Bool.false_and, Bool.or_true, Bool.true_or, Bool.or_false, Bool.false_or, Option.map_some, Option.map_none, Option.bind_some, if_true, if_false, ite_true, ite_false, Bool.false_eq_true, reduceIte, reduceCtorEq, List.length_cons, List.length_nil, List.nil_append, List.cons_append, List.map_cons, List.map_nil, List.append_assoc, Nat.zero_add, Nat.reduceAdd, Nat.reduceLT, Nat.reduceEqDiff, Int.reduceNeg, Int.reduceLT, Int.reduceLE, and_self, true_and, and_true, Bool.and_self, ty_beq, nc0, nc1, nc2, nc3, nc4, nc5, nc6, nc7, nc8, nc9, Int.reduceEq, Int.reduceNe, eq_self, Int.reduceSub, Int.reduceAdd, Nat.reduceLeDiff, al, r1, fz_ (g _), st, fin_rtA, D.noref, nr, Nat.reduceSub, List.replicate]
end
end Y

end

section
set_option Elab.async false
set_option linter.all false
set_option maxRecDepth 100000
set_option maxHeartbeats 4000000
namespace Y
open PySem L2
/-! ### one lamp's ways -/
theorem hear_fade2 {s : Lmp} (h : s.heard = none) (t : Int) : (s.hear ⟨⟨.all, 0⟩, ⟨.fade, t⟩⟩).hear ⟨⟨.all, 0⟩, ⟨.fade, t⟩⟩ = { s with time := t, heard := none, ago := 0 } := by
  have k1 : s.kept ⟨⟨.all, 0⟩, ⟨.fade, t⟩⟩ = true := by simp [Lmp.kept, h, Nm.twice]
  have e1 : s.hear ⟨⟨.all, 0⟩, ⟨.fade, t⟩⟩ = { s with heard := some ⟨⟨.all, 0⟩, ⟨.fade, t⟩⟩, ago := 0 } := by
    simp [Lmp.hear, Lmp.does', k1, Lmp.note]
  rw [e1]
  simp [Lmp.hear, Lmp.does', Lmp.kept, Lmp.note, Lmp.meant, Lmp.does, Lmp.keep, Nm.twice]
theorem hear_plain {s : Lmp} (c : Cmd) (hc : c.nm.twice = false) : s.hear ⟨⟨.all, 0⟩, c⟩ = ({ s with heard := none, ago := 0 } : Lmp).does c := by
  have k1 : s.kept ⟨⟨.all, 0⟩, c⟩ = false := by simp [Lmp.kept, hc]
  simp [Lmp.hear, Lmp.does', k1, Lmp.note, Lmp.meant]
theorem tick_tick {s : Lmp} (i : Nat) : (s.tick i).tick 1 = s.tick ((i + 1 : Nat) : Int) := by
  simp only [Lmp.tick]
  congr 1 <;> omega
theorem tick_0 {s : Lmp} (h : s.ok) : s.tick 0 = s := by
  have := h.goneT
  obtain ⟨a, b, c, d, e, f, g, i, j, k⟩ := s
  simp only [Lmp.tick] at *
  congr 1 <;> omega
def fstOf (s : Lmp) : Int := if 0 < s.lvl then s.lvl else s.own.lo
def lstOf (s : Lmp) (v : Int) : Int := if 0 < s.own.letb v then s.own.letb v else s.own.lo
def dueL (s : Lmp) (v : Int) : List Int := if s.lvl ≠ s.own.letb v ∧ 0 < s.time then (fadeL (fstOf s) (lstOf s v) s.time.toNat).dropLast ++ [s.own.letb v] else [s.own.letb v]
theorem due_len {s : Lmp} (h : s.ok) (v : Int) : (((dueL s v).length : Nat) : Int) - 1 = (s.goTo v).left := by
  have := h.time0
  unfold dueL Lmp.goTo
  by_cases h1 : s.lvl = s.own.letb v
  · rw [if_neg (fun z => z.1 h1), if_pos (.inl h1)]
    simp [Lmp.left, Lmp.atOnce]
  · by_cases h2 : s.time = 0
    · rw [if_neg (by omega), if_pos (.inr h2)]
      simp [Lmp.left, Lmp.atOnce]
    · rw [if_pos ⟨h1, by omega⟩, if_neg (by simp [h1, h2])]
      simp only [Lmp.left, List.length_append, List.length_dropLast, fade_len, List.length_cons, List.length_nil]
      omega
theorem goTo_own {s : Lmp} {v : Int} : (s.goTo v).own = s.own := by unfold Lmp.goTo; split <;> rfl
theorem goTo_goal {s : Lmp} {v : Int} : (s.goTo v).goal = s.own.letb v := by unfold Lmp.goTo; split <;> rfl
theorem lvl_rest {s : Lmp} (h : s.ticks ≤ s.gone) : s.lvl = s.goal := if_pos h
theorem lvl_way {s : Lmp} (h : ¬ s.ticks ≤ s.gone) : s.lvl = betw s.first (if 0 < s.goal then s.goal else s.own.lo) s.ticks s.gone := if_neg h
theorem goTo_lvl {s : Lmp} (h : s.ok) (v : Int) (i : Nat) : ((s.goTo v).tick i).lvl = (dueL s v ++ List.replicate 60 (s.own.letb v)).getD i (s.own.letb v) := by
  have ht := h.time0
  by_cases h1 : s.lvl = s.own.letb v ∨ s.time = 0
  · have n1 : ¬ (s.lvl ≠ s.own.letb v ∧ 0 < s.time) := by omega
    have eg : s.goTo v = s.atOnce (s.own.letb v) := if_pos h1
    have ed : dueL s v = [s.own.letb v] := if_neg n1
    rw [eg, ed]
    have e : [s.own.letb v] ++ List.replicate 60 (s.own.letb v) = List.replicate 61 (s.own.letb v) := by rfl
    rw [e, List.getD_eq_getElem?_getD, List.getElem?_replicate]
    have e2 : ((s.atOnce (s.own.letb v)).tick i).lvl = s.own.letb v := lvl_rest (by show (0 : Int) ≤ min 0 (0 + (i : Int)); omega)
    rw [e2]
    split <;> rfl
  · have n1 : s.lvl ≠ s.own.letb v ∧ 0 < s.time := by omega
    have eg : s.goTo v = { s with first := fstOf s, goal := s.own.letb v, ticks := s.time, gone := 0 } := if_neg h1
    have ed : dueL s v = (fadeL (fstOf s) (lstOf s v) s.time.toNat).dropLast ++ [s.own.letb v] := if_pos n1
    rw [eg, ed]
    obtain ⟨t, ht'⟩ : ∃ t : Nat, s.time = t := ⟨s.time.toNat, by omega⟩
    have hlen : (fadeL (fstOf s) (lstOf s v) s.time.toNat).dropLast.length = s.time.toNat := by rw [List.length_dropLast, fade_len]; omega
    by_cases h2 : s.time ≤ i
    · have e0 : (({ s with first := fstOf s, goal := s.own.letb v, ticks := s.time, gone := 0 } : Lmp).tick i).lvl = s.own.letb v := lvl_rest (by show s.time ≤ min s.time (0 + (i : Int)); omega)
      have e : (fadeL (fstOf s) (lstOf s v) s.time.toNat).dropLast ++ [s.own.letb v] ++ List.replicate 60 (s.own.letb v) = (fadeL (fstOf s) (lstOf s v) s.time.toNat).dropLast ++ List.replicate 61 (s.own.letb v) := by rw [List.append_assoc]; rfl
      rw [e0, e, List.getD_eq_getElem?_getD, List.getElem?_append_right (by omega), List.getElem?_replicate]
      split <;> rfl
    · have e0 : (({ s with first := fstOf s, goal := s.own.letb v, ticks := s.time, gone := 0 } : Lmp).tick i).lvl = betw (fstOf s) (lstOf s v) s.time (min s.time (0 + (i : Int))) := lvl_way (by show ¬ s.time ≤ min s.time (0 + (i : Int)); omega)
      rw [e0, List.append_assoc, List.getD_eq_getElem?_getD, List.getElem?_append_left (by omega), List.getElem?_eq_getElem (by omega), List.getElem_dropLast, fade_at]
      show _ = betw (fstOf s) (lstOf s v) _ i
      congr 1 <;> omega
theorem goTo_now {s : Lmp} (h : s.ok) (v : Int) : ∃ r, dueL s v = (s.goTo v).lvl :: r := by
  have g := goTo_lvl h v 0
  have t0 := tick_0 (h.goTo v)
  have e : ((0 : Nat) : Int) = 0 := rfl
  rw [e, t0] at g
  rw [g]
  unfold dueL
  split
  · cases hd : (fadeL (fstOf s) (lstOf s v) s.time.toNat).dropLast with
    | nil => exact ⟨[], rfl⟩
    | cons a b => exact ⟨_, rfl⟩
  · exact ⟨[], rfl⟩
theorem told_eq {s : Lmp} (h : s.ok) (v : Int) (n : Nat) (hn : n < 60) : ((List.range n).map fun (i : Nat) => ((s.goTo v).tick i).lvl) = (dueL s v ++ List.replicate 60 (s.own.letb v)).take n := by
  refine List.ext_getElem ?_ ?_
  · simp; omega
  · intro i h1 h2
    simp only [List.length_map, List.length_range] at h1
    simp only [List.getElem_map, List.getElem_range, List.getElem_take]
    rw [goTo_lvl h v i, List.getD_eq_getElem?_getD, List.getElem?_eq_getElem (by simp; omega)]
    rfl
end Y

end

section
set_option Elab.async false
set_option linter.all false
set_option maxRecDepth 100000
set_option maxHeartbeats 4000000
namespace Y
open PySem L2
/-- a whole wire's defs -/
structure FW (T : Tab) : Prop extends WT T where
  h4 : T.fn 4 = some f4_law_cell
  h5 : T.fn 5 = some f5_law_drawn
  h6 : T.fn 6 = some f6_law_house
  h49 : T.fn 49 = some f49_Lamp_left
  h50 : T.fn 50 = some f50_Lamp_tick
  h51 : T.fn 51 = some f51_Lamp_state
  h52 : T.fn 52 = some f52_Wire_tick
  h53 : T.fn 53 = some f53_Wire_state
  h54 : T.fn 54 = some f54_Wire_rest
  h55 : T.fn 55 = some f55_Wire_levels
  m8 : T.meth 0 8 = some 49
  m16 : T.meth 0 16 = some 51
  m17 : T.meth 0 17 = some 50
  v10 : T.meth 1 10 = some 55
  v14 : T.meth 1 14 = some 54
  v16 : T.meth 1 16 = some 53
  v17 : T.meth 1 17 = some 52
structure Fn32 (T : Tab) : Prop extends FW T where
  h45 : T.fn 45 = some f45_fade
  h56 : T.fn 56 = some f56_law_let
  h57 : T.fn 57 = some f57_law
section
variable {T : Tab} {A B : Sto} {s : Lmp}
theorem law_let_eq (h : T.fn 56 = some f56_law_let) (k : Nat) (o : Own) (ho : o.ok) (v : Int) (S : Sto) : callAt T (k + 1) 56 [ownD o, .int v] S = .ok (.int (o.letb v)) S := by
  rw [call_eq h rfl]
  have := ho.hi0
  simp only [f56_law_let, Own.letb]
  by_cases h1 : v = 0
  · simp only [evCs, evC, evE, evEs, R.bind_ok, R.bind_exc, opt_some, tB_bl, tB_exc, of_ok, of_exc, seq_nx, seq_rt, seq_exc, turn_nx, turn_rt, turn_exc, calm_ok, Env.get, Env.put, isTys, isTy, vw_non, vw_bl, vw_int, vw_str, vw_tup, vw_lst, vw_scr, c_lt, c_le, c_gt, c_ge, c_eq, c_ne, c_in, c_nin, q_int, q_nn, q_ni, q_in, ix_lst, ix_tup, ix_scr, g0, g1, g2, g3, b_lenL, b_lenT, b_lenS, b_max2, b_min2, b_max, b_min, b_sum, b_sorted, b_int, b_bool, b_tupL, b_tupT, b_lstL, b_lstT, b_abs, add_i, sub_i, sl_lst, sl_tup, pt_nil, pt_int, nD_non, nD_int, nD_str, nD_tup, nD_lst, app_get, app_set, store, stores, putAll, decide_true, decide_false, Bool.not_true, Bool.not_false, Bool.and_true, Bool.true_and, Bool.and_false, Bool.false_and, Bool.or_true, Bool.true_or, Bool.or_false, Bool.false_or, Option.map_some, Option.map_none, Option.bind_some, if_true, if_false, ite_true, ite_false, Bool.false_eq_true, reduceIte, reduceCtorEq, List.length_cons, List.length_nil, List.nil_append, List.cons_append, List.map_cons, List.map_nil, List.append_assoc, Nat.zero_add, Nat.reduceAdd, Nat.reduceLT, Nat.reduceEqDiff, Int.reduceNeg, Int.reduceLT, Int.reduceLE, and_self, true_and, and_true, Bool.and_self, ty_beq, nc0, nc1, nc2, nc3, nc4, nc5, nc6, nc7, nc8, nc9, Int.reduceEq, Int.reduceNe, eq_self, Int.reduceSub, Int.reduceAdd, Nat.reduceLeDiff, h1, fin_rt0, nr_int, Nat.sub_self, List.replicate]
  · by_cases h2 : v < o.lo
    · have e : max o.lo (min o.hi v) = o.lo := by omega
      simp only [evCs, evC, evE, evEs, R.bind_ok, R.bind_exc, opt_some, tB_bl, tB_exc, of_ok, of_exc, seq_nx, seq_rt, seq_exc, turn_nx, turn_rt, turn_exc, calm_ok, Env.get, Env.put, isTys, isTy, vw_non, vw_bl, vw_int, vw_str, vw_tup, vw_lst, vw_scr, c_lt, c_le, c_gt, c_ge, c_eq, c_ne, c_in, c_nin, q_int, q_nn, q_ni, q_in, ix_lst, ix_tup, ix_scr, g0, g1, g2, g3, b_lenL, b_lenT, b_lenS, b_max2, b_min2, b_max, b_min, b_sum, b_sorted, b_int, b_bool, b_tupL, b_tupT, b_lstL, b_lstT, b_abs, add_i, sub_i, sl_lst, sl_tup, pt_nil, pt_int, nD_non, nD_int, nD_str, nD_tup, nD_lst, app_get, app_set, store, stores, putAll, decide_true, decide_false, Bool.not_true, Bool.not_false, Bool.and_true, Bool.true_and, Bool.and_false, Bool.false_and, Bool.or_true, Bool.true_or, Bool.or_false, Bool.false_or, Option.map_some, Option.map_none, Option.bind_some, if_true, if_false, ite_true, ite_false, Bool.false_eq_true, reduceIte, reduceCtorEq, List.length_cons, List.length_nil, List.nil_append, List.cons_append, List.map_cons, List.map_nil, List.append_assoc, Nat.zero_add, Nat.reduceAdd, Nat.reduceLT, Nat.reduceEqDiff, Int.reduceNeg, Int.reduceLT, Int.reduceLE, and_self, true_and, and_true, Bool.and_self, ty_beq, nc0, nc1, nc2, nc3, nc4, nc5, nc6, nc7, nc8, nc9, Int.reduceEq, Int.reduceNe, eq_self, Int.reduceSub, Int.reduceAdd, Nat.reduceLeDiff, h1, h2, e, own_2, own_3, fin_rt0, nr_int, Nat.sub_self, List.replicate]
    · by_cases h3 : o.hi < v
      · have e : max o.lo (min o.hi v) = o.hi := by omega
        simp only [evCs, evC, evE, evEs, R.bind_ok, R.bind_exc, opt_some, tB_bl, tB_exc, of_ok, of_exc, seq_nx, seq_rt, seq_exc, turn_nx, turn_rt, turn_exc, calm_ok, Env.get, Env.put, isTys, isTy, vw_non, vw_bl, vw_int, vw_str, vw_tup, vw_lst, vw_scr, c_lt, c_le, c_gt, c_ge, c_eq, c_ne, c_in, c_nin, q_int, q_nn, q_ni, q_in, ix_lst, ix_tup, ix_scr, g0, g1, g2, g3, b_lenL, b_lenT, b_lenS, b_max2, b_min2, b_max, b_min, b_sum, b_sorted, b_int, b_bool, b_tupL, b_tupT, b_lstL, b_lstT, b_abs, add_i, sub_i, sl_lst, sl_tup, pt_nil, pt_int, nD_non, nD_int, nD_str, nD_tup, nD_lst, app_get, app_set, store, stores, putAll, decide_true, decide_false, Bool.not_true, Bool.not_false, Bool.and_true, Bool.true_and, Bool.and_false, Bool.false_and, Bool.or_true, Bool.true_or, Bool.or_false, Bool.false_or, Option.map_some, Option.map_none, Option.bind_some, if_true, if_false, ite_true, ite_false, Bool.false_eq_true, reduceIte, reduceCtorEq, List.length_cons, List.length_nil, List.nil_append, List.cons_append, List.map_cons, List.map_nil, List.append_assoc, Nat.zero_add, Nat.reduceAdd, Nat.reduceLT, Nat.reduceEqDiff, Int.reduceNeg, Int.reduceLT, Int.reduceLE, and_self, true_and, and_true, Bool.and_self, ty_beq, nc0, nc1, nc2, nc3, nc4, nc5, nc6, nc7, nc8, nc9, Int.reduceEq, Int.reduceNe, eq_self, Int.reduceSub, Int.reduceAdd, Nat.reduceLeDiff, h1, h2, h3, e, own_2, own_3, fin_rt0, nr_int, Nat.sub_self, List.replicate]
      · have e : max o.lo (min o.hi v) = v := by omega
        simp only [evCs, evC, evE, evEs, R.bind_ok, R.bind_exc, opt_some, tB_bl, tB_exc, of_ok, of_exc, seq_nx, seq_rt, seq_exc, turn_nx, turn_rt, turn_exc, calm_ok, Env.get, Env.put, isTys, isTy, vw_non, vw_bl, vw_int, vw_str, vw_tup, vw_lst, vw_scr, c_lt, c_le, c_gt, c_ge, c_eq, c_ne, c_in, c_nin, q_int, q_nn, q_ni, q_in, ix_lst, ix_tup, ix_scr, g0, g1, g2, g3, b_lenL, b_lenT, b_lenS, b_max2, b_min2, b_max, b_min, b_sum, b_sorted, b_int, b_bool, b_tupL, b_tupT, b_lstL, b_lstT, b_abs, add_i, sub_i, sl_lst, sl_tup, pt_nil, pt_int, nD_non, nD_int, nD_str, nD_tup, nD_lst, app_get, app_set, store, stores, putAll, decide_true, decide_false, Bool.not_true, Bool.not_false, Bool.and_true, Bool.true_and, Bool.and_false, Bool.false_and, Bool.or_true, Bool.true_or, Bool.or_false, Bool.false_or, Option.map_some, Option.map_none, Option.bind_some, if_true, if_false, ite_true, ite_false, Bool.false_eq_true, reduceIte, reduceCtorEq, List.length_cons, List.length_nil, List.nil_append, List.cons_append, List.map_cons, List.map_nil, List.append_assoc, Nat.zero_add, Nat.reduceAdd, Nat.reduceLT, Nat.reduceEqDiff, Int.reduceNeg, Int.reduceLT, Int.reduceLE, and_self, true_and, and_true, Bool.and_self, ty_beq, nc0, nc1, nc2, nc3, nc4, nc5, nc6, nc7, nc8, nc9, Int.reduceEq, Int.reduceNe, eq_self, Int.reduceSub, Int.reduceAdd, Nat.reduceLeDiff, h1, h2, h3, e, own_2, own_3, fin_rt0, nr_int, Nat.sub_self, List.replicate]
theorem send1 (W : WT T) (hs : s.ok) (k : Nat) (w : Wrd) (hw : w.ok) : callAt T (k + 6) 34 [.ref A.length, wordD w, .lst []] (WR A [s] B) = .ok (ansD (s.answer w)) (WR A [s.hear w] B) := by
  have e := send_eq (A := A) (B := B) (ls := [s]) W (by simpa using hs) k w hw [] (by simp)
  have e1 : hearAll w [] [s] = [s.hear w] := by simp [hearAll, List.range_succ]
  have e2 : sayD (saidAll w [] [s]) = ansD (s.answer w) := by
    simp only [saidAll, List.length_cons, List.length_nil, List.range_succ, List.range_zero, List.nil_append, List.zip_cons_cons, List.zip_nil_left, List.filterMap_cons, List.not_mem_nil, if_false, List.filterMap_nil]
    cases s.answer w <;> rfl
  rw [e1, e2] at e
  exact e
theorem ans_plain {w : Wrd} (h : w.c.nm ≠ .askL ∧ w.c.nm ≠ .askG) : s.answer w = none := by
  unfold Lmp.answer
  split
  · unfold Lmp.says
    obtain ⟨a, nm, n⟩ := w
    cases nm <;> simp_all
  · rfl
theorem wr_app {ls : List Lmp} {o : O} : WR A ls B ++ [o] = WR A ls (B ++ [o]) := by simp [WR, WS]
theorem wr_len {ls : List Lmp} : (WR A ls B).length = A.length + 1 + 2 * ls.length + B.length := by
  simp [WR, WS, lampsB_len]; omega
theorem wr_get {ls : List Lmp} {o : O} {C : Sto} : (WR A ls (B ++ o :: C))[A.length + 1 + 2 * ls.length + B.length]? = some o := by
  have e : WR A ls (B ++ o :: C) = (WR A ls B) ++ o :: C := by simp [WR, WS]
  rw [e, ← wr_len (B := B)]
  simp
theorem wr_set {ls : List Lmp} {o u : O} {C : Sto} : (WR A ls (B ++ o :: C)).set (A.length + 1 + 2 * ls.length + B.length) u = WR A ls (B ++ u :: C) := by
  have e : ∀ o, WR A ls (B ++ o :: C) = (WR A ls B) ++ o :: C := fun o => by simp [WR, WS]
  rw [e, e, ← wr_len (B := B)]
  simp
end
end Y

end

section
set_option Elab.async false
set_option linter.all false
set_option maxRecDepth 100000
set_option maxHeartbeats 4000000
namespace Y
open PySem L2
section
variable {T : Tab} {A : Sto}
/-- how the wire's one lamp stands between the turns -/
structure St32 (o : Own) (s : Lmp) : Prop where
  ok : s.ok
  fine : s.fine
  hrd : s.heard = none
  own : s.own = o
/-- the loop of the ticks -/
theorem k32_l0 (F : Fn32 T) {o : Own} {s2 : Lmp} {B : Sto} {m : Int} (h2 : s2.ok) (n : Nat) (hn : n < 60) (e0 e1 e6 e7 e8 e9 e10 e11 e12 e13 e14 e17 e18 e19 : Option D) :
    Run (evC (RG T 19) f57_l0 [e0, e1, some (.int m), some (ownD o), some (.ref A.length), some (.tup [.str "all"]), e6, e7, e8, e9, e10, e11, e12, e13, e14, some (.int n), some (.ref (A.length + 1 + 2 * 1 + B.length)), e17, e18, e19] (WR A [s2] (B ++ [.lst []]))) fun env S => (∃ e17', env = [e0, e1, some (.int m), some (ownD o), some (.ref A.length), some (.tup [.str "all"]), e6, e7, e8, e9, e10, e11, e12, e13, e14, some (.int n), some (.ref (A.length + 1 + 2 * 1 + B.length)), e17', e18, e19]) ∧ S = WR A [s2.tick n] (B ++ [.lst (intsL ((List.range n).map fun (i : Nat) => (s2.tick i).lvl))]) := by
  unfold f57_l0
  refine run_rng (n := n) (S := WR A [s2] (B ++ [.lst []])) (fun j env S => (∃ e17', env = [e0, e1, some (.int m), some (ownD o), some (.ref A.length), some (.tup [.str "all"]), e6, e7, e8, e9, e10, e11, e12, e13, e14, some (.int n), some (.ref (A.length + 1 + 2 * 1 + B.length)), e17', e18, e19]) ∧ S = WR A [s2.tick j] (B ++ [.lst (intsL ((List.range j).map fun (i : Nat) => (s2.tick i).lvl))])) ?_ (by omega) ⟨⟨e17, rfl⟩, ?_⟩ ?_
  · rfl
  · rw [show ((0 : Nat) : Int) = 0 from rfl, tick_0 h2]
    rfl
  rintro j env S hj ⟨⟨e17', rfl⟩, rfl⟩
  have hok : (s2.tick j).ok := h2.tick (by omega)
  have lv := fun B => wlevel_eq (A := A) (B := B) (ls := [s2.tick j]) F.toWT 16 0 (by simp) hok
  have tk := fun B => wtick_eq (A := A) (B := B) (ls := [s2.tick j]) F.h0 F.h50 F.h52 F.m17 17 1 (by decide) (by decide)
  simp only [List.getElem_cons_zero, List.map_cons, List.map_nil, tick_tick] at lv tk
  have lv' : ∀ B, callAt T 19 37 [.ref A.length, .int 0] (WR A [s2.tick j] B) = .ok (.int (s2.tick j).lvl) (WR A [s2.tick j] B) := lv
  have hc : (intsL ((List.range j).map fun (i : Nat) => (s2.tick i).lvl)).length < cap := by rw [ints_len]; simp only [List.length_map, List.length_range]; exact lt_cap (by omega)
  have g := wr_get (A := A) (B := B) (ls := [s2.tick j]) (o := .lst (intsL ((List.range j).map fun (i : Nat) => (s2.tick i).lvl))) (C := [])
  have st := fun u => wr_set (A := A) (B := B) (ls := [s2.tick j]) (o := .lst (intsL ((List.range j).map fun (i : Nat) => (s2.tick i).lvl))) (u := u) (C := [])
  have w0 : ∀ B, (WR A [s2.tick j] B)[A.length]? = some (.ins 1 [(8, .lst (refsL (A.length + 1) 1))]) := fun B => wr_0
  rw [List.range_succ, List.map_append, ints_app]
  simp only [List.length_cons, List.length_nil, Nat.zero_add] at g st
  generalize intsL ((List.range j).map fun (i : Nat) => (s2.tick i).lvl) = TL at *
  simp only [f57_b0, List.map_cons, List.map_nil, intsL]
  simp only [evCs, evC, evE, evEs, R.bind_ok, R.bind_exc, opt_some, tB_bl, tB_exc, of_ok, of_exc, seq_nx, seq_rt, seq_exc, turn_nx, turn_rt, turn_exc, calm_ok, Env.get, Env.put, isTys, isTy, vw_non, vw_bl, vw_int, vw_str, vw_tup, vw_lst, vw_scr, c_lt, c_le, c_gt, c_ge, c_eq, c_ne, c_in, c_nin, q_int, q_nn, q_ni, q_in, ix_lst, ix_tup, ix_scr, g0, g1, g2, g3, b_lenL, b_lenT, b_lenS, b_max2, b_min2, b_max, b_min, b_sum, b_sorted, b_int, b_bool, b_tupL, b_tupT, b_lstL, b_lstT, b_abs, add_i, sub_i, sl_lst, sl_tup, pt_nil, pt_int, nD_non, nD_int, nD_str, nD_tup, nD_lst, app_get, app_set, store, stores, putAll, decide_true, decide_false, Bool.not_true, Bool.not_false, Bool.and_true, Bool.true_and, Bool.and_false, Bool.false_and, Bool.or_true, Bool.true_or, Bool.or_false, Bool.false_or, Option.map_some, Option.map_none, Option.bind_some, if_true, if_false, ite_true, ite_false, Bool.false_eq_true, reduceIte, reduceCtorEq, List.length_cons, List.length_nil, List.nil_append, List.cons_append, List.map_cons, List.map_nil, List.append_assoc, Nat.zero_add, Nat.reduceAdd, Nat.reduceLT, Nat.reduceEqDiff, Int.reduceNeg, Int.reduceLT, Int.reduceLE, and_self, true_and, and_true, Bool.and_self, ty_beq, nc0, nc1, nc2, nc3, nc4, nc5, nc6, nc7, nc8, nc9, Int.reduceEq, Int.reduceNe, eq_self, Int.reduceSub, Int.reduceAdd, Nat.reduceLeDiff, w0, F.w9, F.v17, lv', vw_ref g, bm_app g hc, st, tk, run_nx]
  exact ⟨_, rfl⟩
theorem letb_fits {o : Own} (ho : o.ok) (v : Int) : 0 ≤ o.letb v ∧ o.letb v ≤ 100 := fits_bd (ho.letb v) ho
theorem cut3 {a b c d e f : D} : cutD [a, b, c, d, e, f] none (some 3) = [a, b, c] := rfl
theorem mul60 (x : D) : bop .mul (.lst [x]) (.int 60) = some (.lst (List.replicate 60 x)) := rfl
theorem cut_take {α : Type} (xs : List α) (n : Nat) (h : n ≤ xs.length) : cutD xs none (some (n : Int)) = xs.take n := by
  unfold cutD
  rw [HT.sIx_nat, HT.sIx_none, Nat.min_eq_left h]
  simp
theorem word3 {s : Lmp} (hs : 0 ≤ s.lvl) {nm : Nm} (h : nm = .up ∨ nm = .down ∨ nm = .off) : (s.does ⟨nm, 0⟩).own = s.own ∧ (s.does ⟨nm, 0⟩).heard = s.heard ∧ (s.does ⟨nm, 0⟩).time = s.time ∧ (0 < s.lvl → (s.does ⟨nm, 0⟩).left = 0) ∧
    (s.does ⟨nm, 0⟩).lvl = if nm = .off ∨ s.lvl = 0 then 0 else max s.own.lo (min s.own.hi (s.lvl + if nm = .up then 1 else -1)) := by
  have ao : ∀ v, (s.atOnce v).lvl = v := fun v => lvl_rest (by show (0 : Int) ≤ 0; decide)
  by_cases hz : 0 < s.lvl
  · have hn : ¬ s.lvl = 0 := by omega
    rcases h with rfl | rfl | rfl
    · have e : s.does ⟨.up, 0⟩ = s.atOnce (max s.own.lo (min s.own.hi (s.lvl + 1))) := if_pos hz
      rw [e, ao, if_neg (by simp [hn])]
      exact ⟨rfl, rfl, rfl, fun _ => rfl, rfl⟩
    · have e : s.does ⟨.down, 0⟩ = s.atOnce (max s.own.lo (min s.own.hi (s.lvl + -1))) := if_pos hz
      rw [e, ao, if_neg (by simp [hn])]
      exact ⟨rfl, rfl, rfl, fun _ => rfl, rfl⟩
    · have e : s.does ⟨.off, 0⟩ = s.atOnce 0 := rfl
      rw [e, ao, if_pos (.inl rfl)]
      exact ⟨rfl, rfl, rfl, fun _ => rfl, rfl⟩
  · have hn : s.lvl = 0 := by omega
    rcases h with rfl | rfl | rfl
    · have e : s.does ⟨.up, 0⟩ = s := if_neg hz
      rw [e, if_pos (.inr hn)]
      exact ⟨rfl, rfl, rfl, fun z => absurd z hz, hn⟩
    · have e : s.does ⟨.down, 0⟩ = s := if_neg hz
      rw [e, if_pos (.inr hn)]
      exact ⟨rfl, rfl, rfl, fun z => absurd z hz, hn⟩
    · have e : s.does ⟨.off, 0⟩ = s.atOnce 0 := rfl
      rw [e, ao, if_pos (.inl rfl)]
      exact ⟨rfl, rfl, rfl, fun _ => rfl, rfl⟩
theorem k32_b1 (F : Fn32 T) {o : Own} {s : Lmp} {B : Sto} {m : Int} {j : Nat} (h : St32 o s) (e0 e1 e8 e9 e10 e11 e12 e13 e14 e15 e16 e17 e18 e19 : Option D) :
    Run (evCs (RG T 19) f57_b1 [e0, e1, some (.int m), some (ownD o), some (.ref A.length), some (.tup [.str "all"]), some (.int s.time), some (.int j), e8, e9, e10, e11, e12, e13, e14, e15, e16, e17, e18, e19] (WR A [s] B)) fun env S => ∃ s' B', St32 o s' ∧ S = WR A [s'] B' ∧ env.length = 20 ∧ env.get 0 = e0 ∧ env.get 2 = some (.int m) ∧ env.get 3 = some (ownD o) ∧ env.get 4 = some (.ref A.length) ∧ env.get 5 = some (.tup [.str "all"]) ∧ env.get 6 = some (.int s'.time) := by
  have w0 : ∀ s B, (WR A [s] B)[A.length]? = some (.ins 1 [(8, .lst (refsL (A.length + 1) 1))]) := fun s B => wr_0
  unfold f57_b1
  have dr := law_drawn F.h5 18 m (30 + j) (WR A [s] B)
  refine run_eq (env1 := [e0, e1, some (.int m), some (ownD o), some (.ref A.length), some (.tup [.str "all"]), some (.int s.time), some (.int j), some (.int (drawnOf m (30 + j))), e9, e10, e11, e12, e13, e14, e15, e16, e17, e18, e19]) (S1 := WR A [s] B) ?_ ?_
  · simp only [evCs, evC, evE, evEs, R.bind_ok, R.bind_exc, opt_some, tB_bl, tB_exc, of_ok, of_exc, seq_nx, seq_rt, seq_exc, turn_nx, turn_rt, turn_exc, calm_ok, Env.get, Env.put, isTys, isTy, vw_non, vw_bl, vw_int, vw_str, vw_tup, vw_lst, vw_scr, c_lt, c_le, c_gt, c_ge, c_eq, c_ne, c_in, c_nin, q_int, q_nn, q_ni, q_in, ix_lst, ix_tup, ix_scr, g0, g1, g2, g3, b_lenL, b_lenT, b_lenS, b_max2, b_min2, b_max, b_min, b_sum, b_sorted, b_int, b_bool, b_tupL, b_tupT, b_lstL, b_lstT, b_abs, add_i, sub_i, sl_lst, sl_tup, pt_nil, pt_int, nD_non, nD_int, nD_str, nD_tup, nD_lst, app_get, app_set, store, stores, putAll, decide_true, decide_false, Bool.not_true, Bool.not_false, Bool.and_true, Bool.true_and, Bool.and_false, Bool.false_and, Bool.or_true, Bool.true_or, Bool.or_false, Bool.false_or, Option.map_some, Option.map_none, Option.bind_some, if_true, if_false, ite_true, ite_false, Bool.false_eq_true, reduceIte, reduceCtorEq, List.length_cons, List.length_nil, List.nil_append, List.cons_append, List.map_cons, List.map_nil, List.append_assoc, Nat.zero_add, Nat.reduceAdd, Nat.reduceLT, Nat.reduceEqDiff, Int.reduceNeg, Int.reduceLT, Int.reduceLE, and_self, true_and, and_true, Bool.and_self, ty_beq, nc0, nc1, nc2, nc3, nc4, nc5, nc6, nc7, nc8, nc9, Int.reduceEq, Int.reduceNe, eq_self, Int.reduceSub, Int.reduceAdd, Nat.reduceLeDiff, dr]
  clear dr
  generalize drawnOf m (30 + j) = h8
  refine run_cs (P := fun env S => ∃ s', St32 o s' ∧ env = [e0, e1, some (.int m), some (ownD o), some (.ref A.length), some (.tup [.str "all"]), some (.int s'.time), some (.int j), some (.int h8), e9, e10, e11, e12, e13, e14, e15, e16, e17, e18, e19] ∧ S = WR A [s'] B) ?_ ?_
  · by_cases hz : h8 % 4 = 0
    · have p := pick_eq (xs := [h8 / 8 % 51, h8 / 8 % 3]) (n := 2) rfl (by decide) (h8 / 1152921504606846976)
      have pm := pick2 (h8 / 8 % 51) (h8 / 8 % 3) (h8 / 1152921504606846976)
      have tb : 0 ≤ pick [h8 / 8 % 51, h8 / 8 % 3] (h8 / 1152921504606846976 % (2 : Nat)) ∧ pick [h8 / 8 % 51, h8 / 8 % 3] (h8 / 1152921504606846976 % (2 : Nat)) ≤ 50 := by rcases pm with e | e <;> rw [e] <;> omega
      clear pm
      simp only [intsL, List.map_cons, List.map_nil, nc2] at p tb
      generalize pick [h8 / 8 % 51, h8 / 8 % 3] (h8 / 1152921504606846976 % 2) = t at *
      have hw : Wrd.ok ⟨⟨.all, 0⟩, ⟨.fade, t⟩⟩ := ⟨rfl, tb⟩
      have q1 := send1 (A := A) (B := B) F.toWT h.ok 13 _ hw
      have q2 := send1 (A := A) (B := B) F.toWT (h.ok.hear hw) 13 _ hw
      rw [ans_plain ⟨by simp, by simp⟩] at q1 q2
      rw [hear_fade2 h.hrd] at q2
      have q1 : callAt T 19 34 [.ref A.length, .tup [.tup [.str "all"], .tup [.str "fade", .int t]], .lst []] (WR A [s] B) = _ := q1
      have q2 : callAt T 19 34 [.ref A.length, .tup [.tup [.str "all"], .tup [.str "fade", .int t]], .lst []] (WR A [s.hear ⟨⟨.all, 0⟩, ⟨.fade, t⟩⟩] B) = _ := q2
      simp only [evCs, evC, evE, evEs, R.bind_ok, R.bind_exc, opt_some, tB_bl, tB_exc, of_ok, of_exc, seq_nx, seq_rt, seq_exc, turn_nx, turn_rt, turn_exc, calm_ok, Env.get, Env.put, isTys, isTy, vw_non, vw_bl, vw_int, vw_str, vw_tup, vw_lst, vw_scr, c_lt, c_le, c_gt, c_ge, c_eq, c_ne, c_in, c_nin, q_int, q_nn, q_ni, q_in, ix_lst, ix_tup, ix_scr, g0, g1, g2, g3, b_lenL, b_lenT, b_lenS, b_max2, b_min2, b_max, b_min, b_sum, b_sorted, b_int, b_bool, b_tupL, b_tupT, b_lstL, b_lstT, b_abs, add_i, sub_i, sl_lst, sl_tup, pt_nil, pt_int, nD_non, nD_int, nD_str, nD_tup, nD_lst, app_get, app_set, store, stores, putAll, decide_true, decide_false, Bool.not_true, Bool.not_false, Bool.and_true, Bool.true_and, Bool.and_false, Bool.false_and, Bool.or_true, Bool.true_or, Bool.or_false, Bool.false_or, Option.map_some, Option.map_none, Option.bind_some, if_true, if_false, ite_true, ite_false, Bool.false_eq_true, reduceIte, reduceCtorEq, List.length_cons, List.length_nil, List.nil_append, List.cons_append, List.map_cons, List.map_nil, List.append_assoc, Nat.zero_add, Nat.reduceAdd, Nat.reduceLT, Nat.reduceEqDiff, Int.reduceNeg, Int.reduceLT, Int.reduceLE, and_self, true_and, and_true, Bool.and_self, ty_beq, nc0, nc1, nc2, nc3, nc4, nc5, nc6, nc7, nc8, nc9, Int.reduceEq, Int.reduceNe, eq_self, Int.reduceSub, Int.reduceAdd, Nat.reduceLeDiff, mod_i (show (0 : Int) < 4 by decide), hz, fdiv_i (show (0 : Int) < 8 by decide) (by decide), mod_i (show (0 : Int) < 51 by decide), mod_i (show (0 : Int) < 3 by decide), p60, fdiv_i (show (0 : Int) < 1152921504606846976 by decide) (by decide), mod_i (show (0 : Int) < 2 by decide), p, w0, F.w15, q1, q2, run_nx]
      refine ⟨{ s with time := t, heard := none, ago := 0 }, ⟨⟨h.ok.gone0, h.ok.goneT, h.ok.ticks, tb.1, tb.2, h.ok.grp, h.ok.grps, h.ok.gnd, h.ok.scs, h.ok.scn, (fun v z => by cases z), by show (0 : Int) ≤ 0; decide⟩, ⟨h.fine.own, h.fine.goal, h.fine.way, h.fine.scs⟩, rfl, h.own⟩, rfl, rfl⟩
    · simp only [evCs, evC, evE, evEs, R.bind_ok, R.bind_exc, opt_some, tB_bl, tB_exc, of_ok, of_exc, seq_nx, seq_rt, seq_exc, turn_nx, turn_rt, turn_exc, calm_ok, Env.get, Env.put, isTys, isTy, vw_non, vw_bl, vw_int, vw_str, vw_tup, vw_lst, vw_scr, c_lt, c_le, c_gt, c_ge, c_eq, c_ne, c_in, c_nin, q_int, q_nn, q_ni, q_in, ix_lst, ix_tup, ix_scr, g0, g1, g2, g3, b_lenL, b_lenT, b_lenS, b_max2, b_min2, b_max, b_min, b_sum, b_sorted, b_int, b_bool, b_tupL, b_tupT, b_lstL, b_lstT, b_abs, add_i, sub_i, sl_lst, sl_tup, pt_nil, pt_int, nD_non, nD_int, nD_str, nD_tup, nD_lst, app_get, app_set, store, stores, putAll, decide_true, decide_false, Bool.not_true, Bool.not_false, Bool.and_true, Bool.true_and, Bool.and_false, Bool.false_and, Bool.or_true, Bool.true_or, Bool.or_false, Bool.false_or, Option.map_some, Option.map_none, Option.bind_some, if_true, if_false, ite_true, ite_false, Bool.false_eq_true, reduceIte, reduceCtorEq, List.length_cons, List.length_nil, List.nil_append, List.cons_append, List.map_cons, List.map_nil, List.append_assoc, Nat.zero_add, Nat.reduceAdd, Nat.reduceLT, Nat.reduceEqDiff, Int.reduceNeg, Int.reduceLT, Int.reduceLE, and_self, true_and, and_true, Bool.and_self, ty_beq, nc0, nc1, nc2, nc3, nc4, nc5, nc6, nc7, nc8, nc9, Int.reduceEq, Int.reduceNe, eq_self, Int.reduceSub, Int.reduceAdd, Nat.reduceLeDiff, mod_i (show (0 : Int) < 4 by decide), hz, run_nx]
      exact ⟨s, h, rfl, rfl⟩
  rintro env S ⟨s1, h1, rfl, rfl⟩
  clear h
  have ho : o.ok := h1.own ▸ h1.fine.own
  -- now, level
  have lv := wlevel_eq (A := A) (B := B) (ls := [s1]) F.toWT 16 0 (by simp) h1.ok
  have lv : callAt T 19 37 [.ref A.length, .int 0] (WR A [s1] B) = .ok (.int s1.lvl) (WR A [s1] B) := lv
  have p := pick_eq (xs := [0, h8 / 64 % 101, 1, h8 / 64 % 101]) (n := 4) rfl (by decide) (h8 / 4)
  have pm := pick_mem (xs := [0, h8 / 64 % 101, 1, h8 / 64 % 101]) (n := 4) rfl (by decide) (h8 / 4)
  have vb : 0 ≤ pick [0, h8 / 64 % 101, 1, h8 / 64 % 101] (h8 / 4 % (4 : Nat)) ∧ pick [0, h8 / 64 % 101, 1, h8 / 64 % 101] (h8 / 4 % (4 : Nat)) ≤ 100 := by
    simp only [List.mem_cons, List.not_mem_nil, or_false] at pm
    rcases pm with e | e | e | e <;> rw [e] <;> omega
  clear pm
  simp only [intsL, List.map_cons, List.map_nil, nc4] at p vb
  generalize pick [0, h8 / 64 % 101, 1, h8 / 64 % 101] (h8 / 4 % 4) = v at *
  refine run_eq (env1 := [e0, e1, some (.int m), some (ownD o), some (.ref A.length), some (.tup [.str "all"]), some (.int s1.time), some (.int j), some (.int h8), some (.int s1.lvl), some (.int v), e11, e12, e13, e14, e15, e16, e17, e18, e19]) (S1 := WR A [s1] B) ?_ ?_
  · simp only [evCs, evC, evE, evEs, R.bind_ok, R.bind_exc, opt_some, tB_bl, tB_exc, of_ok, of_exc, seq_nx, seq_rt, seq_exc, turn_nx, turn_rt, turn_exc, calm_ok, Env.get, Env.put, isTys, isTy, vw_non, vw_bl, vw_int, vw_str, vw_tup, vw_lst, vw_scr, c_lt, c_le, c_gt, c_ge, c_eq, c_ne, c_in, c_nin, q_int, q_nn, q_ni, q_in, ix_lst, ix_tup, ix_scr, g0, g1, g2, g3, b_lenL, b_lenT, b_lenS, b_max2, b_min2, b_max, b_min, b_sum, b_sorted, b_int, b_bool, b_tupL, b_tupT, b_lstL, b_lstT, b_abs, add_i, sub_i, sl_lst, sl_tup, pt_nil, pt_int, nD_non, nD_int, nD_str, nD_tup, nD_lst, app_get, app_set, store, stores, putAll, decide_true, decide_false, Bool.not_true, Bool.not_false, Bool.and_true, Bool.true_and, Bool.and_false, Bool.false_and, Bool.or_true, Bool.true_or, Bool.or_false, Bool.false_or, Option.map_some, Option.map_none, Option.bind_some, if_true, if_false, ite_true, ite_false, Bool.false_eq_true, reduceIte, reduceCtorEq, List.length_cons, List.length_nil, List.nil_append, List.cons_append, List.map_cons, List.map_nil, List.append_assoc, Nat.zero_add, Nat.reduceAdd, Nat.reduceLT, Nat.reduceEqDiff, Int.reduceNeg, Int.reduceLT, Int.reduceLE, and_self, true_and, and_true, Bool.and_self, ty_beq, nc0, nc1, nc2, nc3, nc4, nc5, nc6, nc7, nc8, nc9, Int.reduceEq, Int.reduceNe, eq_self, Int.reduceSub, Int.reduceAdd, Nat.reduceLeDiff, w0, F.w9, lv, fdiv_i (show (0 : Int) < 64 by decide) (by decide), mod_i (show (0 : Int) < 101 by decide), fdiv_i (show (0 : Int) < 4 by decide) (by decide), mod_i (show (0 : Int) < 4 by decide), p]
  have le := law_let_eq F.h56 18 o ho v (WR A [s1] B)
  refine run_eq (env1 := [e0, e1, some (.int m), some (ownD o), some (.ref A.length), some (.tup [.str "all"]), some (.int s1.time), some (.int j), some (.int h8), some (.int s1.lvl), some (.int v), some (.int (o.letb v)), e12, e13, e14, e15, e16, e17, e18, e19]) (S1 := WR A [s1] B) ?_ ?_
  · simp only [evCs, evC, evE, evEs, R.bind_ok, R.bind_exc, opt_some, tB_bl, tB_exc, of_ok, of_exc, seq_nx, seq_rt, seq_exc, turn_nx, turn_rt, turn_exc, calm_ok, Env.get, Env.put, isTys, isTy, vw_non, vw_bl, vw_int, vw_str, vw_tup, vw_lst, vw_scr, c_lt, c_le, c_gt, c_ge, c_eq, c_ne, c_in, c_nin, q_int, q_nn, q_ni, q_in, ix_lst, ix_tup, ix_scr, g0, g1, g2, g3, b_lenL, b_lenT, b_lenS, b_max2, b_min2, b_max, b_min, b_sum, b_sorted, b_int, b_bool, b_tupL, b_tupT, b_lstL, b_lstT, b_abs, add_i, sub_i, sl_lst, sl_tup, pt_nil, pt_int, nD_non, nD_int, nD_str, nD_tup, nD_lst, app_get, app_set, store, stores, putAll, decide_true, decide_false, Bool.not_true, Bool.not_false, Bool.and_true, Bool.true_and, Bool.and_false, Bool.false_and, Bool.or_true, Bool.true_or, Bool.or_false, Bool.false_or, Option.map_some, Option.map_none, Option.bind_some, if_true, if_false, ite_true, ite_false, Bool.false_eq_true, reduceIte, reduceCtorEq, List.length_cons, List.length_nil, List.nil_append, List.cons_append, List.map_cons, List.map_nil, List.append_assoc, Nat.zero_add, Nat.reduceAdd, Nat.reduceLT, Nat.reduceEqDiff, Int.reduceNeg, Int.reduceLT, Int.reduceLE, and_self, true_and, and_true, Bool.and_self, ty_beq, nc0, nc1, nc2, nc3, nc4, nc5, nc6, nc7, nc8, nc9, Int.reduceEq, Int.reduceNe, eq_self, Int.reduceSub, Int.reduceAdd, Nat.reduceLeDiff, le]
  have hw : Wrd.ok ⟨⟨.all, 0⟩, ⟨.level, v⟩⟩ := ⟨rfl, vb⟩
  have q1 := send1 (A := A) (B := B) F.toWT h1.ok 13 _ hw
  rw [ans_plain ⟨by simp, by simp⟩, hear_plain _ rfl] at q1
  have q1 : callAt T 19 34 [.ref A.length, .tup [.tup [.str "all"], .tup [.str "level", .int v]], .lst []] (WR A [s1] B) = .ok .non (WR A [({ s1 with heard := none, ago := 0 } : Lmp).goTo v] B) := q1
  have h1' : ({ s1 with heard := none, ago := 0 } : Lmp).ok := ⟨h1.ok.gone0, h1.ok.goneT, h1.ok.ticks, h1.ok.time0, h1.ok.time, h1.ok.grp, h1.ok.grps, h1.ok.gnd, h1.ok.scs, h1.ok.scn, (fun v z => by cases z), by show (0 : Int) ≤ 0; decide⟩
  have f1' : ({ s1 with heard := none, ago := 0 } : Lmp).fine := ⟨h1.fine.own, h1.fine.goal, h1.fine.way, h1.fine.scs⟩
  have el : s1.lvl = ({ s1 with heard := none, ago := 0 } : Lmp).lvl := rfl
  have et : s1.time = ({ s1 with heard := none, ago := 0 } : Lmp).time := rfl
  have eo : o = ({ s1 with heard := none, ago := 0 } : Lmp).own := h1.own.symm
  have eh : ({ s1 with heard := none, ago := 0 } : Lmp).heard = none := rfl
  refine run_eq (env1 := [e0, e1, some (.int m), some (ownD o), some (.ref A.length), some (.tup [.str "all"]), some (.int s1.time), some (.int j), some (.int h8), some (.int s1.lvl), some (.int v), some (.int (o.letb v)), e12, e13, e14, e15, e16, e17, e18, e19]) (S1 := WR A [({ s1 with heard := none, ago := 0 } : Lmp).goTo v] B) ?_ ?_
  · simp only [evCs, evC, evE, evEs, R.bind_ok, R.bind_exc, opt_some, tB_bl, tB_exc, of_ok, of_exc, seq_nx, seq_rt, seq_exc, turn_nx, turn_rt, turn_exc, calm_ok, Env.get, Env.put, isTys, isTy, vw_non, vw_bl, vw_int, vw_str, vw_tup, vw_lst, vw_scr, c_lt, c_le, c_gt, c_ge, c_eq, c_ne, c_in, c_nin, q_int, q_nn, q_ni, q_in, ix_lst, ix_tup, ix_scr, g0, g1, g2, g3, b_lenL, b_lenT, b_lenS, b_max2, b_min2, b_max, b_min, b_sum, b_sorted, b_int, b_bool, b_tupL, b_tupT, b_lstL, b_lstT, b_abs, add_i, sub_i, sl_lst, sl_tup, pt_nil, pt_int, nD_non, nD_int, nD_str, nD_tup, nD_lst, app_get, app_set, store, stores, putAll, decide_true, decide_false, Bool.not_true, Bool.not_false, Bool.and_true, Bool.true_and, Bool.and_false, Bool.false_and, Bool.or_true, Bool.true_or, Bool.or_false, Bool.false_or, Option.map_some, Option.map_none, Option.bind_some, if_true, if_false, ite_true, ite_false, Bool.false_eq_true, reduceIte, reduceCtorEq, List.length_cons, List.length_nil, List.nil_append, List.cons_append, List.map_cons, List.map_nil, List.append_assoc, Nat.zero_add, Nat.reduceAdd, Nat.reduceLT, Nat.reduceEqDiff, Int.reduceNeg, Int.reduceLT, Int.reduceLE, and_self, true_and, and_true, Bool.and_self, ty_beq, nc0, nc1, nc2, nc3, nc4, nc5, nc6, nc7, nc8, nc9, Int.reduceEq, Int.reduceNe, eq_self, Int.reduceSub, Int.reduceAdd, Nat.reduceLeDiff, w0, F.w15, q1]
  rw [el, et]
  generalize ({ s1 with heard := none, ago := 0 } : Lmp) = s2 at *
  clear q1 lv le h1 el et
  refine run_eq (env1 := [e0, e1, some (.int m), some (ownD o), some (.ref A.length), some (.tup [.str "all"]), some (.int s2.time), some (.int j), some (.int h8), some (.int s2.lvl), some (.int v), some (.int (o.letb v)), some (.int (fstOf s2)), e13, e14, e15, e16, e17, e18, e19]) (S1 := WR A [s2.goTo v] B) ?_ ?_
  · by_cases hz : 0 < s2.lvl
    · simp only [evCs, evC, evE, evEs, R.bind_ok, R.bind_exc, opt_some, tB_bl, tB_exc, of_ok, of_exc, seq_nx, seq_rt, seq_exc, turn_nx, turn_rt, turn_exc, calm_ok, Env.get, Env.put, isTys, isTy, vw_non, vw_bl, vw_int, vw_str, vw_tup, vw_lst, vw_scr, c_lt, c_le, c_gt, c_ge, c_eq, c_ne, c_in, c_nin, q_int, q_nn, q_ni, q_in, ix_lst, ix_tup, ix_scr, g0, g1, g2, g3, b_lenL, b_lenT, b_lenS, b_max2, b_min2, b_max, b_min, b_sum, b_sorted, b_int, b_bool, b_tupL, b_tupT, b_lstL, b_lstT, b_abs, add_i, sub_i, sl_lst, sl_tup, pt_nil, pt_int, nD_non, nD_int, nD_str, nD_tup, nD_lst, app_get, app_set, store, stores, putAll, decide_true, decide_false, Bool.not_true, Bool.not_false, Bool.and_true, Bool.true_and, Bool.and_false, Bool.false_and, Bool.or_true, Bool.true_or, Bool.or_false, Bool.false_or, Option.map_some, Option.map_none, Option.bind_some, if_true, if_false, ite_true, ite_false, Bool.false_eq_true, reduceIte, reduceCtorEq, List.length_cons, List.length_nil, List.nil_append, List.cons_append, List.map_cons, List.map_nil, List.append_assoc, Nat.zero_add, Nat.reduceAdd, Nat.reduceLT, Nat.reduceEqDiff, Int.reduceNeg, Int.reduceLT, Int.reduceLE, and_self, true_and, and_true, Bool.and_self, ty_beq, nc0, nc1, nc2, nc3, nc4, nc5, nc6, nc7, nc8, nc9, Int.reduceEq, Int.reduceNe, eq_self, Int.reduceSub, Int.reduceAdd, Nat.reduceLeDiff, hz, own_2, fstOf]
    · simp only [evCs, evC, evE, evEs, R.bind_ok, R.bind_exc, opt_some, tB_bl, tB_exc, of_ok, of_exc, seq_nx, seq_rt, seq_exc, turn_nx, turn_rt, turn_exc, calm_ok, Env.get, Env.put, isTys, isTy, vw_non, vw_bl, vw_int, vw_str, vw_tup, vw_lst, vw_scr, c_lt, c_le, c_gt, c_ge, c_eq, c_ne, c_in, c_nin, q_int, q_nn, q_ni, q_in, ix_lst, ix_tup, ix_scr, g0, g1, g2, g3, b_lenL, b_lenT, b_lenS, b_max2, b_min2, b_max, b_min, b_sum, b_sorted, b_int, b_bool, b_tupL, b_tupT, b_lstL, b_lstT, b_abs, add_i, sub_i, sl_lst, sl_tup, pt_nil, pt_int, nD_non, nD_int, nD_str, nD_tup, nD_lst, app_get, app_set, store, stores, putAll, decide_true, decide_false, Bool.not_true, Bool.not_false, Bool.and_true, Bool.true_and, Bool.and_false, Bool.false_and, Bool.or_true, Bool.true_or, Bool.or_false, Bool.false_or, Option.map_some, Option.map_none, Option.bind_some, if_true, if_false, ite_true, ite_false, Bool.false_eq_true, reduceIte, reduceCtorEq, List.length_cons, List.length_nil, List.nil_append, List.cons_append, List.map_cons, List.map_nil, List.append_assoc, Nat.zero_add, Nat.reduceAdd, Nat.reduceLT, Nat.reduceEqDiff, Int.reduceNeg, Int.reduceLT, Int.reduceLE, and_self, true_and, and_true, Bool.and_self, ty_beq, nc0, nc1, nc2, nc3, nc4, nc5, nc6, nc7, nc8, nc9, Int.reduceEq, Int.reduceNe, eq_self, Int.reduceSub, Int.reduceAdd, Nat.reduceLeDiff, hz, own_2, fstOf, ← eo]
  refine run_eq (env1 := [e0, e1, some (.int m), some (ownD o), some (.ref A.length), some (.tup [.str "all"]), some (.int s2.time), some (.int j), some (.int h8), some (.int s2.lvl), some (.int v), some (.int (o.letb v)), some (.int (fstOf s2)), some (.int (lstOf s2 v)), e14, e15, e16, e17, e18, e19]) (S1 := WR A [s2.goTo v] B) ?_ ?_
  · by_cases hz : 0 < o.letb v
    · simp only [evCs, evC, evE, evEs, R.bind_ok, R.bind_exc, opt_some, tB_bl, tB_exc, of_ok, of_exc, seq_nx, seq_rt, seq_exc, turn_nx, turn_rt, turn_exc, calm_ok, Env.get, Env.put, isTys, isTy, vw_non, vw_bl, vw_int, vw_str, vw_tup, vw_lst, vw_scr, c_lt, c_le, c_gt, c_ge, c_eq, c_ne, c_in, c_nin, q_int, q_nn, q_ni, q_in, ix_lst, ix_tup, ix_scr, g0, g1, g2, g3, b_lenL, b_lenT, b_lenS, b_max2, b_min2, b_max, b_min, b_sum, b_sorted, b_int, b_bool, b_tupL, b_tupT, b_lstL, b_lstT, b_abs, add_i, sub_i, sl_lst, sl_tup, pt_nil, pt_int, nD_non, nD_int, nD_str, nD_tup, nD_lst, app_get, app_set, store, stores, putAll, decide_true, decide_false, Bool.not_true, Bool.not_false, Bool.and_true, Bool.true_and, Bool.and_false, Bool.false_and, Bool.or_true, Bool.true_or, Bool.or_false, Bool.false_or, Option.map_some, Option.map_none, Option.bind_some, if_true, if_false, ite_true, ite_false, Bool.false_eq_true, reduceIte, reduceCtorEq, List.length_cons, List.length_nil, List.nil_append, List.cons_append, List.map_cons, List.map_nil, List.append_assoc, Nat.zero_add, Nat.reduceAdd, Nat.reduceLT, Nat.reduceEqDiff, Int.reduceNeg, Int.reduceLT, Int.reduceLE, and_self, true_and, and_true, Bool.and_self, ty_beq, nc0, nc1, nc2, nc3, nc4, nc5, nc6, nc7, nc8, nc9, Int.reduceEq, Int.reduceNe, eq_self, Int.reduceSub, Int.reduceAdd, Nat.reduceLeDiff, hz, own_2, lstOf, ← eo]
    · simp only [evCs, evC, evE, evEs, R.bind_ok, R.bind_exc, opt_some, tB_bl, tB_exc, of_ok, of_exc, seq_nx, seq_rt, seq_exc, turn_nx, turn_rt, turn_exc, calm_ok, Env.get, Env.put, isTys, isTy, vw_non, vw_bl, vw_int, vw_str, vw_tup, vw_lst, vw_scr, c_lt, c_le, c_gt, c_ge, c_eq, c_ne, c_in, c_nin, q_int, q_nn, q_ni, q_in, ix_lst, ix_tup, ix_scr, g0, g1, g2, g3, b_lenL, b_lenT, b_lenS, b_max2, b_min2, b_max, b_min, b_sum, b_sorted, b_int, b_bool, b_tupL, b_tupT, b_lstL, b_lstT, b_abs, add_i, sub_i, sl_lst, sl_tup, pt_nil, pt_int, nD_non, nD_int, nD_str, nD_tup, nD_lst, app_get, app_set, store, stores, putAll, decide_true, decide_false, Bool.not_true, Bool.not_false, Bool.and_true, Bool.true_and, Bool.and_false, Bool.false_and, Bool.or_true, Bool.true_or, Bool.or_false, Bool.false_or, Option.map_some, Option.map_none, Option.bind_some, if_true, if_false, ite_true, ite_false, Bool.false_eq_true, reduceIte, reduceCtorEq, List.length_cons, List.length_nil, List.nil_append, List.cons_append, List.map_cons, List.map_nil, List.append_assoc, Nat.zero_add, Nat.reduceAdd, Nat.reduceLT, Nat.reduceEqDiff, Int.reduceNeg, Int.reduceLT, Int.reduceLE, and_self, true_and, and_true, Bool.and_self, ty_beq, nc0, nc1, nc2, nc3, nc4, nc5, nc6, nc7, nc8, nc9, Int.reduceEq, Int.reduceNe, eq_self, Int.reduceSub, Int.reduceAdd, Nat.reduceLeDiff, hz, own_2, lstOf, ← eo]
  have hf : 0 ≤ fstOf s2 ∧ fstOf s2 ≤ 100 := by
    have := fits_bd (f1'.lvl h1') f1'.own
    have := f1'.own.lo0
    have := f1'.own.lo1
    unfold fstOf; split <;> omega
  have hl : 0 ≤ lstOf s2 v ∧ lstOf s2 v ≤ 100 := by
    have := letb_fits f1'.own v
    have := f1'.own.lo0
    have := f1'.own.lo1
    unfold lstOf; split <;> omega
  have t0 := h1'.time0
  have t1 := h1'.time
  have fe := fade_eq F.h0 F.h21 F.h45 17 (fstOf s2) (lstOf s2 v) s2.time.toNat hf hl (by omega) (WR A [s2.goTo v] B)
  rw [show ((s2.time.toNat : Nat) : Int) = s2.time by omega] at fe
  refine run_eq (env1 := [e0, e1, some (.int m), some (ownD o), some (.ref A.length), some (.tup [.str "all"]), some (.int s2.time), some (.int j), some (.int h8), some (.int s2.lvl), some (.int v), some (.int (o.letb v)), some (.int (fstOf s2)), some (.int (lstOf s2 v)), some (.lst (intsL (dueL s2 v))), e15, e16, e17, e18, e19]) (S1 := WR A [s2.goTo v] B) ?_ ?_
  · unfold dueL
    rw [← eo]
    by_cases c1 : s2.lvl = o.letb v
    · simp only [evCs, evC, evE, evEs, R.bind_ok, R.bind_exc, opt_some, tB_bl, tB_exc, of_ok, of_exc, seq_nx, seq_rt, seq_exc, turn_nx, turn_rt, turn_exc, calm_ok, Env.get, Env.put, isTys, isTy, vw_non, vw_bl, vw_int, vw_str, vw_tup, vw_lst, vw_scr, c_lt, c_le, c_gt, c_ge, c_eq, c_ne, c_in, c_nin, q_int, q_nn, q_ni, q_in, ix_lst, ix_tup, ix_scr, g0, g1, g2, g3, b_lenL, b_lenT, b_lenS, b_max2, b_min2, b_max, b_min, b_sum, b_sorted, b_int, b_bool, b_tupL, b_tupT, b_lstL, b_lstT, b_abs, add_i, sub_i, sl_lst, sl_tup, pt_nil, pt_int, nD_non, nD_int, nD_str, nD_tup, nD_lst, app_get, app_set, store, stores, putAll, decide_true, decide_false, Bool.not_true, Bool.not_false, Bool.and_true, Bool.true_and, Bool.and_false, Bool.false_and, Bool.or_true, Bool.true_or, Bool.or_false, Bool.false_or, Option.map_some, Option.map_none, Option.bind_some, if_true, if_false, ite_true, ite_false, Bool.false_eq_true, reduceIte, reduceCtorEq, List.length_cons, List.length_nil, List.nil_append, List.cons_append, List.map_cons, List.map_nil, List.append_assoc, Nat.zero_add, Nat.reduceAdd, Nat.reduceLT, Nat.reduceEqDiff, Int.reduceNeg, Int.reduceLT, Int.reduceLE, and_self, true_and, and_true, Bool.and_self, ty_beq, nc0, nc1, nc2, nc3, nc4, nc5, nc6, nc7, nc8, nc9, Int.reduceEq, Int.reduceNe, eq_self, Int.reduceSub, Int.reduceAdd, Nat.reduceLeDiff, c1, ne_eq, not_true_eq_false, false_and, intsL]
    · by_cases c2 : 0 < s2.time
      · have cl : cutD (intsL (fadeL (fstOf s2) (lstOf s2 v) s2.time.toNat)) none (some (-1)) = intsL (fadeL (fstOf s2) (lstOf s2 v) s2.time.toNat).dropLast := by rw [cut_last]; simp [intsL, List.map_dropLast]
        have ap := list_app (xs := (fadeL (fstOf s2) (lstOf s2 v) s2.time.toNat).dropLast) (ys := [o.letb v]) (by rw [List.length_dropLast, fade_len]; simp; omega)
        have ap : bop .add (.lst (intsL (fadeL (fstOf s2) (lstOf s2 v) s2.time.toNat).dropLast)) (.lst [.int (o.letb v)]) = _ := ap
        rw [if_pos ⟨c1, c2⟩]
        generalize intsL (fadeL (fstOf s2) (lstOf s2 v) s2.time.toNat) = FL at *
        simp only [evCs, evC, evE, evEs, R.bind_ok, R.bind_exc, opt_some, tB_bl, tB_exc, of_ok, of_exc, seq_nx, seq_rt, seq_exc, turn_nx, turn_rt, turn_exc, calm_ok, Env.get, Env.put, isTys, isTy, vw_non, vw_bl, vw_int, vw_str, vw_tup, vw_lst, vw_scr, c_lt, c_le, c_gt, c_ge, c_eq, c_ne, c_in, c_nin, q_int, q_nn, q_ni, q_in, ix_lst, ix_tup, ix_scr, g0, g1, g2, g3, b_lenL, b_lenT, b_lenS, b_max2, b_min2, b_max, b_min, b_sum, b_sorted, b_int, b_bool, b_tupL, b_tupT, b_lstL, b_lstT, b_abs, add_i, sub_i, sl_lst, sl_tup, pt_nil, pt_int, nD_non, nD_int, nD_str, nD_tup, nD_lst, app_get, app_set, store, stores, putAll, decide_true, decide_false, Bool.not_true, Bool.not_false, Bool.and_true, Bool.true_and, Bool.and_false, Bool.false_and, Bool.or_true, Bool.true_or, Bool.or_false, Bool.false_or, Option.map_some, Option.map_none, Option.bind_some, if_true, if_false, ite_true, ite_false, Bool.false_eq_true, reduceIte, reduceCtorEq, List.length_cons, List.length_nil, List.nil_append, List.cons_append, List.map_cons, List.map_nil, List.append_assoc, Nat.zero_add, Nat.reduceAdd, Nat.reduceLT, Nat.reduceEqDiff, Int.reduceNeg, Int.reduceLT, Int.reduceLE, and_self, true_and, and_true, Bool.and_self, ty_beq, nc0, nc1, nc2, nc3, nc4, nc5, nc6, nc7, nc8, nc9, Int.reduceEq, Int.reduceNe, eq_self, Int.reduceSub, Int.reduceAdd, Nat.reduceLeDiff, c1, c2, fe, cl, ap]
      · rw [if_neg (by omega)]
        simp only [evCs, evC, evE, evEs, R.bind_ok, R.bind_exc, opt_some, tB_bl, tB_exc, of_ok, of_exc, seq_nx, seq_rt, seq_exc, turn_nx, turn_rt, turn_exc, calm_ok, Env.get, Env.put, isTys, isTy, vw_non, vw_bl, vw_int, vw_str, vw_tup, vw_lst, vw_scr, c_lt, c_le, c_gt, c_ge, c_eq, c_ne, c_in, c_nin, q_int, q_nn, q_ni, q_in, ix_lst, ix_tup, ix_scr, g0, g1, g2, g3, b_lenL, b_lenT, b_lenS, b_max2, b_min2, b_max, b_min, b_sum, b_sorted, b_int, b_bool, b_tupL, b_tupT, b_lstL, b_lstT, b_abs, add_i, sub_i, sl_lst, sl_tup, pt_nil, pt_int, nD_non, nD_int, nD_str, nD_tup, nD_lst, app_get, app_set, store, stores, putAll, decide_true, decide_false, Bool.not_true, Bool.not_false, Bool.and_true, Bool.true_and, Bool.and_false, Bool.false_and, Bool.or_true, Bool.true_or, Bool.or_false, Bool.false_or, Option.map_some, Option.map_none, Option.bind_some, if_true, if_false, ite_true, ite_false, Bool.false_eq_true, reduceIte, reduceCtorEq, List.length_cons, List.length_nil, List.nil_append, List.cons_append, List.map_cons, List.map_nil, List.append_assoc, Nat.zero_add, Nat.reduceAdd, Nat.reduceLT, Nat.reduceEqDiff, Int.reduceNeg, Int.reduceLT, Int.reduceLE, and_self, true_and, and_true, Bool.and_self, ty_beq, nc0, nc1, nc2, nc3, nc4, nc5, nc6, nc7, nc8, nc9, Int.reduceEq, Int.reduceNe, eq_self, Int.reduceSub, Int.reduceAdd, Nat.reduceLeDiff, c1, c2, intsL]
  clear fe
  have h3 : (s2.goTo v).ok := h1'.goTo v
  have f3 : (s2.goTo v).fine := f1'.goTo h1' v
  have hd3 : (s2.goTo v).heard = none := by unfold Lmp.goTo Lmp.atOnce; split <;> exact eh
  have tm3 : (s2.goTo v).time = s2.time := by unfold Lmp.goTo Lmp.atOnce; split <;> rfl
  have n1 : (((intsL (dueL s2 v)).length : Nat) : Int) - 1 = (s2.goTo v).left := by rw [ints_len]; exact due_len h1' v
  have ow3 : (s2.goTo v).own = o := by rw [goTo_own, eo]
  have gl3 : (s2.goTo v).goal = o.letb v := by rw [goTo_goal, eo]
  obtain ⟨dr, hdr⟩ := goTo_now h1' v
  have g0' : getI (intsL (dueL s2 v)) 0 = some (.int (s2.goTo v).lvl) := by rw [hdr]; exact ints_get0
  have tl := told_eq h1' v
  rw [← eo] at tl
  have dlen : (dueL s2 v).length ≤ 60 := by
    have := due_len h1' v
    have h4 := h3.ticks
    have h5 := h3.gone0
    unfold Lmp.left at this
    omega
  generalize hD : dueL s2 v = DL at *
  generalize hS3 : s2.goTo v = s3 at *
  rw [← tm3]
  obtain ⟨r, hr1, hr2⟩ := rest_eq (A := A) (B := B) (ls := [s3]) F.h49 F.h54 F.m8 17 (by simp)
  have hr : s3.left = r := by
    simp only [List.map_cons, List.map_nil, maxI, List.foldl_nil, Option.some.injEq] at hr1
    exact hr1
  subst hr
  have hst := wstate_eq (A := A) (B := B) (ls := [s3]) F.toWT F.h49 F.m8 F.h51 F.h53 F.m16 15 0 (by simp) h3
  have hst : callAt T 19 53 [.ref A.length, .int 0] (WR A [s3] B) = .ok (stD s3) (WR A [s3] B) := hst
  have stc : slice (WR A [s3] B) (stD s3) none (some 3) = some (.tup [.int s3.lvl, .int s3.goal, .int s3.left]) := rfl
  rw [gl3] at stc
  refine run_eq (env1 := [e0, e1, some (.int m), some (ownD o), some (.ref A.length), some (.tup [.str "all"]), some (.int s3.time), some (.int j), some (.int h8), some (.int s2.lvl), some (.int v), some (.int (o.letb v)), some (.int (fstOf s2)), some (.int (lstOf s2 v)), some (.lst (intsL DL)), e15, e16, e17, e18, e19]) (S1 := WR A [s3] B) ?_ ?_
  · refine if_no (or_n (S1 := WR A [s3] B) (ne_same (d := .int s3.left) (S1 := WR A [s3] B) ?_ ?_ rfl) (ne_same (d := .tup [.int s3.lvl, .int (o.letb v), .int s3.left]) (S1 := WR A [s3] B) ?_ ?_ rfl))
    · generalize intsL DL = dl at *
      simp only [evCs, evC, evE, evEs, R.bind_ok, R.bind_exc, opt_some, tB_bl, tB_exc, of_ok, of_exc, seq_nx, seq_rt, seq_exc, turn_nx, turn_rt, turn_exc, calm_ok, Env.get, Env.put, isTys, isTy, vw_non, vw_bl, vw_int, vw_str, vw_tup, vw_lst, vw_scr, c_lt, c_le, c_gt, c_ge, c_eq, c_ne, c_in, c_nin, q_int, q_nn, q_ni, q_in, ix_lst, ix_tup, ix_scr, g0, g1, g2, g3, b_lenL, b_lenT, b_lenS, b_max2, b_min2, b_max, b_min, b_sum, b_sorted, b_int, b_bool, b_tupL, b_tupT, b_lstL, b_lstT, b_abs, add_i, sub_i, sl_lst, sl_tup, pt_nil, pt_int, nD_non, nD_int, nD_str, nD_tup, nD_lst, app_get, app_set, store, stores, putAll, decide_true, decide_false, Bool.not_true, Bool.not_false, Bool.and_true, Bool.true_and, Bool.and_false, Bool.false_and, Bool.or_true, Bool.true_or, Bool.or_false, Bool.false_or, Option.map_some, Option.map_none, Option.bind_some, if_true, if_false, ite_true, ite_false, Bool.false_eq_true, reduceIte, reduceCtorEq, List.length_cons, List.length_nil, List.nil_append, List.cons_append, List.map_cons, List.map_nil, List.append_assoc, Nat.zero_add, Nat.reduceAdd, Nat.reduceLT, Nat.reduceEqDiff, Int.reduceNeg, Int.reduceLT, Int.reduceLE, and_self, true_and, and_true, Bool.and_self, ty_beq, nc0, nc1, nc2, nc3, nc4, nc5, nc6, nc7, nc8, nc9, Int.reduceEq, Int.reduceNe, eq_self, Int.reduceSub, Int.reduceAdd, Nat.reduceLeDiff, w0, F.v14, hr2]
    · generalize intsL DL = dl at *
      simp only [evCs, evC, evE, evEs, R.bind_ok, R.bind_exc, opt_some, tB_bl, tB_exc, of_ok, of_exc, seq_nx, seq_rt, seq_exc, turn_nx, turn_rt, turn_exc, calm_ok, Env.get, Env.put, isTys, isTy, vw_non, vw_bl, vw_int, vw_str, vw_tup, vw_lst, vw_scr, c_lt, c_le, c_gt, c_ge, c_eq, c_ne, c_in, c_nin, q_int, q_nn, q_ni, q_in, ix_lst, ix_tup, ix_scr, g0, g1, g2, g3, b_lenL, b_lenT, b_lenS, b_max2, b_min2, b_max, b_min, b_sum, b_sorted, b_int, b_bool, b_tupL, b_tupT, b_lstL, b_lstT, b_abs, add_i, sub_i, sl_lst, sl_tup, pt_nil, pt_int, nD_non, nD_int, nD_str, nD_tup, nD_lst, app_get, app_set, store, stores, putAll, decide_true, decide_false, Bool.not_true, Bool.not_false, Bool.and_true, Bool.true_and, Bool.and_false, Bool.false_and, Bool.or_true, Bool.true_or, Bool.or_false, Bool.false_or, Option.map_some, Option.map_none, Option.bind_some, if_true, if_false, ite_true, ite_false, Bool.false_eq_true, reduceIte, reduceCtorEq, List.length_cons, List.length_nil, List.nil_append, List.cons_append, List.map_cons, List.map_nil, List.append_assoc, Nat.zero_add, Nat.reduceAdd, Nat.reduceLT, Nat.reduceEqDiff, Int.reduceNeg, Int.reduceLT, Int.reduceLE, and_self, true_and, and_true, Bool.and_self, ty_beq, nc0, nc1, nc2, nc3, nc4, nc5, nc6, nc7, nc8, nc9, Int.reduceEq, Int.reduceNe, eq_self, Int.reduceSub, Int.reduceAdd, Nat.reduceLeDiff, n1]
    · generalize intsL DL = dl at *
      simp only [evCs, evC, evE, evEs, R.bind_ok, R.bind_exc, opt_some, tB_bl, tB_exc, of_ok, of_exc, seq_nx, seq_rt, seq_exc, turn_nx, turn_rt, turn_exc, calm_ok, Env.get, Env.put, isTys, isTy, vw_non, vw_bl, vw_int, vw_str, vw_tup, vw_lst, vw_scr, c_lt, c_le, c_gt, c_ge, c_eq, c_ne, c_in, c_nin, q_int, q_nn, q_ni, q_in, ix_lst, ix_tup, ix_scr, g0, g1, g2, g3, b_lenL, b_lenT, b_lenS, b_max2, b_min2, b_max, b_min, b_sum, b_sorted, b_int, b_bool, b_tupL, b_tupT, b_lstL, b_lstT, b_abs, add_i, sub_i, sl_lst, sl_tup, pt_nil, pt_int, nD_non, nD_int, nD_str, nD_tup, nD_lst, app_get, app_set, store, stores, putAll, decide_true, decide_false, Bool.not_true, Bool.not_false, Bool.and_true, Bool.true_and, Bool.and_false, Bool.false_and, Bool.or_true, Bool.true_or, Bool.or_false, Bool.false_or, Option.map_some, Option.map_none, Option.bind_some, if_true, if_false, ite_true, ite_false, Bool.false_eq_true, reduceIte, reduceCtorEq, List.length_cons, List.length_nil, List.nil_append, List.cons_append, List.map_cons, List.map_nil, List.append_assoc, Nat.zero_add, Nat.reduceAdd, Nat.reduceLT, Nat.reduceEqDiff, Int.reduceNeg, Int.reduceLT, Int.reduceLE, and_self, true_and, and_true, Bool.and_self, ty_beq, nc0, nc1, nc2, nc3, nc4, nc5, nc6, nc7, nc8, nc9, Int.reduceEq, Int.reduceNe, eq_self, Int.reduceSub, Int.reduceAdd, Nat.reduceLeDiff, w0, F.v16, hst, stc]
    · generalize intsL DL = dl at *
      simp only [evCs, evC, evE, evEs, R.bind_ok, R.bind_exc, opt_some, tB_bl, tB_exc, of_ok, of_exc, seq_nx, seq_rt, seq_exc, turn_nx, turn_rt, turn_exc, calm_ok, Env.get, Env.put, isTys, isTy, vw_non, vw_bl, vw_int, vw_str, vw_tup, vw_lst, vw_scr, c_lt, c_le, c_gt, c_ge, c_eq, c_ne, c_in, c_nin, q_int, q_nn, q_ni, q_in, ix_lst, ix_tup, ix_scr, g0, g1, g2, g3, b_lenL, b_lenT, b_lenS, b_max2, b_min2, b_max, b_min, b_sum, b_sorted, b_int, b_bool, b_tupL, b_tupT, b_lstL, b_lstT, b_abs, add_i, sub_i, sl_lst, sl_tup, pt_nil, pt_int, nD_non, nD_int, nD_str, nD_tup, nD_lst, app_get, app_set, store, stores, putAll, decide_true, decide_false, Bool.not_true, Bool.not_false, Bool.and_true, Bool.true_and, Bool.and_false, Bool.false_and, Bool.or_true, Bool.true_or, Bool.or_false, Bool.false_or, Option.map_some, Option.map_none, Option.bind_some, if_true, if_false, ite_true, ite_false, Bool.false_eq_true, reduceIte, reduceCtorEq, List.length_cons, List.length_nil, List.nil_append, List.cons_append, List.map_cons, List.map_nil, List.append_assoc, Nat.zero_add, Nat.reduceAdd, Nat.reduceLT, Nat.reduceEqDiff, Int.reduceNeg, Int.reduceLT, Int.reduceLE, and_self, true_and, and_true, Bool.and_self, ty_beq, nc0, nc1, nc2, nc3, nc4, nc5, nc6, nc7, nc8, nc9, Int.reduceEq, Int.reduceNe, eq_self, Int.reduceSub, Int.reduceAdd, Nat.reduceLeDiff, n1, g0']
  obtain ⟨n, hn, hn60⟩ : ∃ n : Nat, h8 / 1048576 % 60 = n ∧ n < 60 := ⟨(h8 / 1048576 % 60).toNat, by omega, by omega⟩
  refine run_eq (env1 := [e0, e1, some (.int m), some (ownD o), some (.ref A.length), some (.tup [.str "all"]), some (.int s3.time), some (.int j), some (.int h8), some (.int s2.lvl), some (.int v), some (.int (o.letb v)), some (.int (fstOf s2)), some (.int (lstOf s2 v)), some (.lst (intsL DL)), some (.int n), e16, e17, e18, e19]) (S1 := WR A [s3] B) ?_ ?_
  · generalize intsL DL = dl at *
    simp only [evCs, evC, evE, evEs, R.bind_ok, R.bind_exc, opt_some, tB_bl, tB_exc, of_ok, of_exc, seq_nx, seq_rt, seq_exc, turn_nx, turn_rt, turn_exc, calm_ok, Env.get, Env.put, isTys, isTy, vw_non, vw_bl, vw_int, vw_str, vw_tup, vw_lst, vw_scr, c_lt, c_le, c_gt, c_ge, c_eq, c_ne, c_in, c_nin, q_int, q_nn, q_ni, q_in, ix_lst, ix_tup, ix_scr, g0, g1, g2, g3, b_lenL, b_lenT, b_lenS, b_max2, b_min2, b_max, b_min, b_sum, b_sorted, b_int, b_bool, b_tupL, b_tupT, b_lstL, b_lstT, b_abs, add_i, sub_i, sl_lst, sl_tup, pt_nil, pt_int, nD_non, nD_int, nD_str, nD_tup, nD_lst, app_get, app_set, store, stores, putAll, decide_true, decide_false, Bool.not_true, Bool.not_false, Bool.and_true, Bool.true_and, Bool.and_false, Bool.false_and, Bool.or_true, Bool.true_or, Bool.or_false, Bool.false_or, Option.map_some, Option.map_none, Option.bind_some, if_true, if_false, ite_true, ite_false, Bool.false_eq_true, reduceIte, reduceCtorEq, List.length_cons, List.length_nil, List.nil_append, List.cons_append, List.map_cons, List.map_nil, List.append_assoc, Nat.zero_add, Nat.reduceAdd, Nat.reduceLT, Nat.reduceEqDiff, Int.reduceNeg, Int.reduceLT, Int.reduceLE, and_self, true_and, and_true, Bool.and_self, ty_beq, nc0, nc1, nc2, nc3, nc4, nc5, nc6, nc7, nc8, nc9, Int.reduceEq, Int.reduceNe, eq_self, Int.reduceSub, Int.reduceAdd, Nat.reduceLeDiff, p20, fdiv_i (show (0 : Int) < 1048576 by decide) (by decide), mod_i (show (0 : Int) < 60 by decide), hn]
  refine run_eq (env1 := [e0, e1, some (.int m), some (ownD o), some (.ref A.length), some (.tup [.str "all"]), some (.int s3.time), some (.int j), some (.int h8), some (.int s2.lvl), some (.int v), some (.int (o.letb v)), some (.int (fstOf s2)), some (.int (lstOf s2 v)), some (.lst (intsL DL)), some (.int n), some (.ref (A.length + 1 + 2 * 1 + B.length)), e17, e18, e19]) (S1 := WR A [s3] (B ++ [.lst []])) ?_ ?_
  · have wl : (WR A [s3] B).length = A.length + 1 + 2 * 1 + B.length := wr_len
    generalize intsL DL = dl at *
    simp only [evCs, evC, evE, evEs, R.bind_ok, R.bind_exc, opt_some, tB_bl, tB_exc, of_ok, of_exc, seq_nx, seq_rt, seq_exc, turn_nx, turn_rt, turn_exc, calm_ok, Env.get, Env.put, isTys, isTy, vw_non, vw_bl, vw_int, vw_str, vw_tup, vw_lst, vw_scr, c_lt, c_le, c_gt, c_ge, c_eq, c_ne, c_in, c_nin, q_int, q_nn, q_ni, q_in, ix_lst, ix_tup, ix_scr, g0, g1, g2, g3, b_lenL, b_lenT, b_lenS, b_max2, b_min2, b_max, b_min, b_sum, b_sorted, b_int, b_bool, b_tupL, b_tupT, b_lstL, b_lstT, b_abs, add_i, sub_i, sl_lst, sl_tup, pt_nil, pt_int, nD_non, nD_int, nD_str, nD_tup, nD_lst, app_get, app_set, store, stores, putAll, decide_true, decide_false, Bool.not_true, Bool.not_false, Bool.and_true, Bool.true_and, Bool.and_false, Bool.false_and, Bool.or_true, Bool.true_or, Bool.or_false, Bool.false_or, Option.map_some, Option.map_none, Option.bind_some, if_true, if_false, ite_true, ite_false, Bool.false_eq_true, reduceIte, reduceCtorEq, List.length_cons, List.length_nil, List.nil_append, List.cons_append, List.map_cons, List.map_nil, List.append_assoc, Nat.zero_add, Nat.reduceAdd, Nat.reduceLT, Nat.reduceEqDiff, Int.reduceNeg, Int.reduceLT, Int.reduceLE, and_self, true_and, and_true, Bool.and_self, ty_beq, nc0, nc1, nc2, nc3, nc4, nc5, nc6, nc7, nc8, nc9, Int.reduceEq, Int.reduceNe, eq_self, Int.reduceSub, Int.reduceAdd, Nat.reduceLeDiff, wr_app, wl]
  refine run_cs (k32_l0 F h3 n hn60 e0 e1 (some (.int s3.time)) (some (.int j)) (some (.int h8)) (some (.int s2.lvl)) (some (.int v)) (some (.int (o.letb v))) (some (.int (fstOf s2))) (some (.int (lstOf s2 v))) (some (.lst (intsL DL))) e17 e18 e19) ?_
  rintro env S ⟨⟨e17', rfl⟩, rfl⟩
  have tl := tl n hn60
  rw [tl]
  have g16 := wr_get (A := A) (B := B) (ls := [s3.tick n]) (o := .lst (intsL ((DL ++ List.replicate 60 (o.letb v)).take n))) (C := [])
  have st16 := fun u => wr_set (A := A) (B := B) (ls := [s3.tick n]) (o := .lst (intsL ((DL ++ List.replicate 60 (o.letb v)).take n))) (u := u) (C := [])
  simp only [List.length_cons, List.length_nil, Nat.zero_add] at g16 st16
  refine run_eq (env1 := [e0, e1, some (.int m), some (ownD o), some (.ref A.length), some (.tup [.str "all"]), some (.int s3.time), some (.int j), some (.int h8), some (.int s2.lvl), some (.int v), some (.int (o.letb v)), some (.int (fstOf s2)), some (.int (lstOf s2 v)), some (.lst (intsL DL)), some (.int n), some (.lst (intsL ((DL ++ List.replicate 60 (o.letb v)).take n))), e17', e18, e19]) (S1 := WR A [s3.tick n] (B ++ [.dead])) ?_ ?_
  · generalize intsL ((DL ++ List.replicate 60 (o.letb v)).take n) = tl at *
    generalize intsL DL = dl at *
    simp only [evCs, evC, evE, evEs, R.bind_ok, R.bind_exc, opt_some, tB_bl, tB_exc, of_ok, of_exc, seq_nx, seq_rt, seq_exc, turn_nx, turn_rt, turn_exc, calm_ok, Env.get, Env.put, isTys, isTy, vw_non, vw_bl, vw_int, vw_str, vw_tup, vw_lst, vw_scr, c_lt, c_le, c_gt, c_ge, c_eq, c_ne, c_in, c_nin, q_int, q_nn, q_ni, q_in, ix_lst, ix_tup, ix_scr, g0, g1, g2, g3, b_lenL, b_lenT, b_lenS, b_max2, b_min2, b_max, b_min, b_sum, b_sorted, b_int, b_bool, b_tupL, b_tupT, b_lstL, b_lstT, b_abs, add_i, sub_i, sl_lst, sl_tup, pt_nil, pt_int, nD_non, nD_int, nD_str, nD_tup, nD_lst, app_get, app_set, store, stores, putAll, decide_true, decide_false, Bool.not_true, Bool.not_false, Bool.and_true, Bool.true_and, Bool.and_false, Bool.false_and, Bool.or_true, Bool.true_or, Bool.or_false, Bool.false_or, Option.map_some, Option.map_none, Option.bind_some, if_true, if_false, ite_true, ite_false, Bool.false_eq_true, reduceIte, reduceCtorEq, List.length_cons, List.length_nil, List.nil_append, List.cons_append, List.map_cons, List.map_nil, List.append_assoc, Nat.zero_add, Nat.reduceAdd, Nat.reduceLT, Nat.reduceEqDiff, Int.reduceNeg, Int.reduceLT, Int.reduceLE, and_self, true_and, and_true, Bool.and_self, ty_beq, nc0, nc1, nc2, nc3, nc4, nc5, nc6, nc7, nc8, nc9, Int.reduceEq, Int.reduceNe, eq_self, Int.reduceSub, Int.reduceAdd, Nat.reduceLeDiff, fz_ g16, st16]
  refine run_eq (env1 := [e0, e1, some (.int m), some (ownD o), some (.ref A.length), some (.tup [.str "all"]), some (.int s3.time), some (.int j), some (.int h8), some (.int s2.lvl), some (.int v), some (.int (o.letb v)), some (.int (fstOf s2)), some (.int (lstOf s2 v)), some (.lst (intsL DL)), some (.int n), some (.lst (intsL ((DL ++ List.replicate 60 (o.letb v)).take n))), e17', e18, e19]) (S1 := WR A [s3.tick n] (B ++ [.dead])) ?_ ?_
  · refine if_no (ne_same (d := .lst (intsL ((DL ++ List.replicate 60 (o.letb v)).take n))) (S1 := WR A [s3.tick n] (B ++ [.dead])) rfl ?_ (okd_il 7 _))
    have ap := list_app (xs := DL) (ys := List.replicate 60 (o.letb v)) (by rw [List.length_replicate]; omega)
    have m60 := mul60 (.int (o.letb v))
    have er : List.replicate 60 (D.int (o.letb v)) = intsL (List.replicate 60 (o.letb v)) := by simp [intsL]
    rw [er] at m60
    have ct : cutD (intsL (DL ++ List.replicate 60 (o.letb v))) none (some (n : Int)) = intsL ((DL ++ List.replicate 60 (o.letb v)).take n) := by
      rw [cut_take _ _ (by rw [ints_len]; simp; omega)]
      simp [intsL, List.map_take]
    generalize intsL ((DL ++ List.replicate 60 (o.letb v)).take n) = tl at *
    generalize intsL DL = dl at *
    generalize intsL (List.replicate 60 (o.letb v)) = rl at *
    generalize intsL (DL ++ List.replicate 60 (o.letb v)) = al at *
    generalize (n : Int) = nn at *
    simp only [evCs, evC, evE, evEs, R.bind_ok, R.bind_exc, opt_some, tB_bl, tB_exc, of_ok, of_exc, seq_nx, seq_rt, seq_exc, turn_nx, turn_rt, turn_exc, calm_ok, Env.get, Env.put, isTys, isTy, vw_non, vw_bl, vw_int, vw_str, vw_tup, vw_lst, vw_scr, c_lt, c_le, c_gt, c_ge, c_eq, c_ne, c_in, c_nin, q_int, q_nn, q_ni, q_in, ix_lst, ix_tup, ix_scr, g0, g1, g2, g3, b_lenL, b_lenT, b_lenS, b_max2, b_min2, b_max, b_min, b_sum, b_sorted, b_int, b_bool, b_tupL, b_tupT, b_lstL, b_lstT, b_abs, add_i, sub_i, sl_lst, sl_tup, pt_nil, pt_int, nD_non, nD_int, nD_str, nD_tup, nD_lst, app_get, app_set, store, stores, putAll, decide_true, decide_false, Bool.not_true, Bool.not_false, Bool.and_true, Bool.true_and, Bool.and_false, Bool.false_and, Bool.or_true, Bool.true_or, Bool.or_false, Bool.false_or, Option.map_some, Option.map_none, Option.bind_some, if_true, if_false, ite_true, ite_false, Bool.false_eq_true, reduceIte, reduceCtorEq, List.length_cons, List.length_nil, List.nil_append, List.cons_append, List.map_cons, List.map_nil, List.append_assoc, Nat.zero_add, Nat.reduceAdd, Nat.reduceLT, Nat.reduceEqDiff, Int.reduceNeg, Int.reduceLT, Int.reduceLE, and_self, true_and, and_true, Bool.and_self, ty_beq, nc0, nc1, nc2, nc3, nc4, nc5, nc6, nc7, nc8, nc9, Int.reduceEq, Int.reduceNe, eq_self, Int.reduceSub, Int.reduceAdd, Nat.reduceLeDiff, m60, ap, ct]
  have h4 : (s3.tick n).ok := h3.tick (by omega)
  have f4 : (s3.tick n).fine := f3.tick n (by omega)
  have hd4 : (s3.tick n).heard = none := hd3
  have ow4 : (s3.tick n).own = o := ow3
  have tm4 : s3.time = (s3.tick n).time := rfl
  rw [tm4]
  generalize s3.tick n = s4 at *
  generalize B ++ [O.dead] = B4 at *
  generalize intsL ((DL ++ List.replicate 60 (o.letb v)).take n) = d16 at *
  generalize intsL DL = d14 at *
  clear tl g16 st16 hst stc hr2 hr1
  by_cases hz : h8 / 1099511627776 % 5 = 0
  rotate_left
  · simp only [evCs, evC, evE, evEs, R.bind_ok, R.bind_exc, opt_some, tB_bl, tB_exc, of_ok, of_exc, seq_nx, seq_rt, seq_exc, turn_nx, turn_rt, turn_exc, calm_ok, Env.get, Env.put, isTys, isTy, vw_non, vw_bl, vw_int, vw_str, vw_tup, vw_lst, vw_scr, c_lt, c_le, c_gt, c_ge, c_eq, c_ne, c_in, c_nin, q_int, q_nn, q_ni, q_in, ix_lst, ix_tup, ix_scr, g0, g1, g2, g3, b_lenL, b_lenT, b_lenS, b_max2, b_min2, b_max, b_min, b_sum, b_sorted, b_int, b_bool, b_tupL, b_tupT, b_lstL, b_lstT, b_abs, add_i, sub_i, sl_lst, sl_tup, pt_nil, pt_int, nD_non, nD_int, nD_str, nD_tup, nD_lst, app_get, app_set, store, stores, putAll, decide_true, decide_false, Bool.not_true, Bool.not_false, Bool.and_true, Bool.true_and, Bool.and_false, Bool.false_and, Bool.or_true, Bool.true_or, Bool.or_false, Bool.false_or, Option.map_some, Option.map_none, Option.bind_some, if_true, if_false, ite_true, ite_false, Bool.false_eq_true, reduceIte, reduceCtorEq, List.length_cons, List.length_nil, List.nil_append, List.cons_append, List.map_cons, List.map_nil, List.append_assoc, Nat.zero_add, Nat.reduceAdd, Nat.reduceLT, Nat.reduceEqDiff, Int.reduceNeg, Int.reduceLT, Int.reduceLE, and_self, true_and, and_true, Bool.and_self, ty_beq, nc0, nc1, nc2, nc3, nc4, nc5, nc6, nc7, nc8, nc9, Int.reduceEq, Int.reduceNe, eq_self, Int.reduceSub, Int.reduceAdd, Nat.reduceLeDiff, p40, fdiv_i (show (0 : Int) < 1099511627776 by decide) (by decide), mod_i (show (0 : Int) < 5 by decide), hz, run_nx]
    exact ⟨s4, B4, ⟨h4, f4, hd4, ow4⟩, rfl, rfl⟩
  have lv4 := wlevel_eq (A := A) (B := B4) (ls := [s4]) F.toWT 16 0 (by simp) h4
  have lv4 : callAt T 19 37 [.ref A.length, .int 0] (WR A [s4] B4) = .ok (.int s4.lvl) (WR A [s4] B4) := lv4
  have h4' : ({ s4 with heard := none, ago := 0 } : Lmp).ok := ⟨h4.gone0, h4.goneT, h4.ticks, h4.time0, h4.time, h4.grp, h4.grps, h4.gnd, h4.scs, h4.scn, (fun v z => by cases z), by show (0 : Int) ≤ 0; decide⟩
  have f4' : ({ s4 with heard := none, ago := 0 } : Lmp).fine := ⟨f4.own, f4.goal, f4.way, f4.scs⟩
  have bd4 := fits_bd (f4.lvl h4) f4.own
  have e4 : ({ s4 with heard := none, ago := 0 } : Lmp).lvl = s4.lvl := rfl
  obtain ⟨d, hd, hm⟩ := sel (xs := [D.str "up", .str "down", .str "off"]) (n := 3) rfl (by decide) (h8 / 1125899906842624)
  simp only [nc3] at hd
  have go : ∀ (nm : Nm), (nm = .up ∨ nm = .down ∨ nm = .off) → d = .str (nmS nm) → Run (evCs (RG T 19) [.ifs (.cmp .eq (.bin .mod (.bin .fdiv (.var 8) (.bin .pow (.kon (.int 2)) (.kon (.int 40)))) (.kon (.int 5))) (.kon (.int 0))) [.asg (.nm 9) (.meth 9 (.var 4) [(.kon (.int 0))]),
    .asg (.nm 18) (.idx (.lst [(.kon (.str "up")), (.kon (.str "down")), (.kon (.str "off"))]) (.bin .mod (.bin .fdiv (.var 8) (.bin .pow (.kon (.int 2)) (.kon (.int 50)))) (.kon (.int 3)))),
    .expr (.meth 15 (.var 4) [(.tup [(.var 5), (.tup [(.var 18)])]), (.lst [])]),
    .asg (.nm 19) (.ite (.cmp .eq (.var 18) (.kon (.str "up"))) (.kon (.int 1)) (.neg (.kon (.int 1)))),
    .asg (.nm 11) (.ite (.or (.cmp .eq (.var 18) (.kon (.str "off"))) (.cmp .eq (.var 9) (.kon (.int 0)))) (.kon (.int 0)) (.bi .max [(.idx (.var 3) (.kon (.int 2))), (.bi .min [(.idx (.var 3) (.kon (.int 3))), (.bin .add (.var 9) (.var 19))])])),
    .ifs (.or (.cmp .ne (.meth 10 (.var 4) []) (.lst [(.var 11)])) (.and (.cmp .ne (.meth 14 (.var 4) []) (.kon (.int 0))) (.cmp .gt (.var 9) (.kon (.int 0))))) [.ret (.kon (.bl false))] []] []] [e0, e1, some (.int m), some (ownD o), some (.ref A.length), some (.tup [.str "all"]), some (.int s4.time), some (.int j), some (.int h8), some (.int s2.lvl), some (.int v), some (.int (o.letb v)), some (.int (fstOf s2)), some (.int (lstOf s2 v)), some (.lst d14), some (.int n), some (.lst d16), e17', e18, e19] (WR A [s4] B4)) fun env S => ∃ s' B', St32 o s' ∧ S = WR A [s'] B' ∧ env.length = 20 ∧ env.get 0 = e0 ∧ env.get 2 = some (.int m) ∧ env.get 3 = some (ownD o) ∧ env.get 4 = some (.ref A.length) ∧ env.get 5 = some (.tup [.str "all"]) ∧ env.get 6 = some (.int s'.time) := by
    intro nm hnm hdn
    subst hdn
    have hb : nm.bnd = none := by rcases hnm with rfl | rfl | rfl <;> rfl
    have htw : nm.twice = false := by rcases hnm with rfl | rfl | rfl <;> rfl
    have hw : Wrd.ok ⟨⟨.all, 0⟩, ⟨nm, 0⟩⟩ := ⟨rfl, by unfold Cmd.ok; simp only [hb]⟩
    have q1 := send1 (A := A) (B := B4) F.toWT h4 13 _ hw
    rw [ans_plain (by rcases hnm with rfl | rfl | rfl <;> exact ⟨by simp, by simp⟩), hear_plain _ htw] at q1
    have we : wordD ⟨⟨.all, 0⟩, ⟨nm, 0⟩⟩ = .tup [.tup [.str "all"], .tup [.str (nmS nm)]] := by simp only [wordD, cmdD, hb]; rfl
    rw [we] at q1
    obtain ⟨p1, p2, p3, p4, p5⟩ := word3 (s := { s4 with heard := none, ago := 0 }) bd4.1 hnm
    have h5 := h4'.does hw.2
    have f5 := f4'.does h4' ⟨nm, 0⟩
    generalize ({ s4 with heard := none, ago := 0 } : Lmp).does ⟨nm, 0⟩ = s5 at *
    have p1 : s5.own = s4.own := p1
    have p3 : s5.time = s4.time := p3
    have p4 : 0 < s4.lvl → s5.left = 0 := p4
    have p5 : s5.lvl = if nm = .off ∨ s4.lvl = 0 then 0 else max s4.own.lo (min s4.own.hi (s4.lvl + if nm = .up then 1 else -1)) := p5
    rw [ow4] at p1 p5
    have lvs := levels_eq (A := A) (B := B4) (ls := [s5]) F.toWT F.h55 (by simpa using h5) 16
    obtain ⟨r, hr1, hr2⟩ := rest_eq (A := A) (B := B4) (ls := [s5]) F.h49 F.h54 F.m8 17 (by simp)
    have hr : s5.left = r := by
      simp only [List.map_cons, List.map_nil, maxI, List.foldl_nil, Option.some.injEq] at hr1
      exact hr1
    subst hr
    simp only [List.map_cons, List.map_nil, intsL, ansD] at lvs q1
    have b5 : s4.lvl = 0 ∨ 0 < s4.lvl := by omega
    have ql : ∀ x : Int, eqD (.lst [.int x]) (.lst [.int x]) = some true := fun x => eqD_self rfl
    rcases b5 with b5 | b5
    · have b6 : ¬ 0 < s4.lvl := by omega
      have e5 : s5.lvl = 0 := by rw [p5, if_pos (.inr b5)]
      rw [e5] at lvs
      by_cases rz : s5.left = 0
      · rcases hnm with rfl | rfl | rfl <;> simp only [evCs, evC, evE, evEs, R.bind_ok, R.bind_exc, opt_some, tB_bl, tB_exc, of_ok, of_exc, seq_nx, seq_rt, seq_exc, turn_nx, turn_rt, turn_exc, calm_ok, Env.get, Env.put, isTys, isTy, vw_non, vw_bl, vw_int, vw_str, vw_tup, vw_lst, vw_scr, c_lt, c_le, c_gt, c_ge, c_eq, c_ne, c_in, c_nin, q_int, q_nn, q_ni, q_in, ix_lst, ix_tup, ix_scr, g0, g1, g2, g3, b_lenL, b_lenT, b_lenS, b_max2, b_min2, b_max, b_min, b_sum, b_sorted, b_int, b_bool, b_tupL, b_tupT, b_lstL, b_lstT, b_abs, add_i, sub_i, sl_lst, sl_tup, pt_nil, pt_int, nD_non, nD_int, nD_str, nD_tup, nD_lst, app_get, app_set, store, stores, putAll, decide_true, decide_false, Bool.not_true, Bool.not_false, Bool.and_true, Bool.true_and, Bool.and_false, Bool.false_and, Bool.or_true, Bool.true_or, Bool.or_false, Bool.false_or, Option.map_some, Option.map_none, Option.bind_some, if_true, if_false, ite_true, ite_false, Bool.false_eq_true, reduceIte, reduceCtorEq, List.length_cons, List.length_nil, List.nil_append, List.cons_append, List.map_cons, List.map_nil, List.append_assoc, Nat.zero_add, Nat.reduceAdd, Nat.reduceLT, Nat.reduceEqDiff, Int.reduceNeg, Int.reduceLT, Int.reduceLE, and_self, true_and, and_true, Bool.and_self, ty_beq, nc0, nc1, nc2, nc3, nc4, nc5, nc6, nc7, nc8, nc9, Int.reduceEq, Int.reduceNe, eq_self, Int.reduceSub, Int.reduceAdd, Nat.reduceLeDiff, p40, fdiv_i (show (0 : Int) < 1099511627776 by decide) (by decide), mod_i (show (0 : Int) < 5 by decide), hz, w0, F.w9, lv4, p50, fdiv_i (show (0 : Int) < 1125899906842624 by decide) (by decide), mod_i (show (0 : Int) < 3 by decide), hd, F.w15, q1, nm_up, nm_off, b5, F.v10, F.v14, lvs, hr2, ql, rz, run_nx] <;> exact ⟨s5, B4, ⟨h5, f5, p2, p1⟩, rfl, by rw [p3]⟩
      · rcases hnm with rfl | rfl | rfl <;> simp only [evCs, evC, evE, evEs, R.bind_ok, R.bind_exc, opt_some, tB_bl, tB_exc, of_ok, of_exc, seq_nx, seq_rt, seq_exc, turn_nx, turn_rt, turn_exc, calm_ok, Env.get, Env.put, isTys, isTy, vw_non, vw_bl, vw_int, vw_str, vw_tup, vw_lst, vw_scr, c_lt, c_le, c_gt, c_ge, c_eq, c_ne, c_in, c_nin, q_int, q_nn, q_ni, q_in, ix_lst, ix_tup, ix_scr, g0, g1, g2, g3, b_lenL, b_lenT, b_lenS, b_max2, b_min2, b_max, b_min, b_sum, b_sorted, b_int, b_bool, b_tupL, b_tupT, b_lstL, b_lstT, b_abs, add_i, sub_i, sl_lst, sl_tup, pt_nil, pt_int, nD_non, nD_int, nD_str, nD_tup, nD_lst, app_get, app_set, store, stores, putAll, decide_true, decide_false, Bool.not_true, Bool.not_false, Bool.and_true, Bool.true_and, Bool.and_false, Bool.false_and, Bool.or_true, Bool.true_or, Bool.or_false, Bool.false_or, Option.map_some, Option.map_none, Option.bind_some, if_true, if_false, ite_true, ite_false, Bool.false_eq_true, reduceIte, reduceCtorEq, List.length_cons, List.length_nil, List.nil_append, List.cons_append, List.map_cons, List.map_nil, List.append_assoc, Nat.zero_add, Nat.reduceAdd, Nat.reduceLT, Nat.reduceEqDiff, Int.reduceNeg, Int.reduceLT, Int.reduceLE, and_self, true_and, and_true, Bool.and_self, ty_beq, nc0, nc1, nc2, nc3, nc4, nc5, nc6, nc7, nc8, nc9, Int.reduceEq, Int.reduceNe, eq_self, Int.reduceSub, Int.reduceAdd, Nat.reduceLeDiff, p40, fdiv_i (show (0 : Int) < 1099511627776 by decide) (by decide), mod_i (show (0 : Int) < 5 by decide), hz, w0, F.w9, lv4, p50, fdiv_i (show (0 : Int) < 1125899906842624 by decide) (by decide), mod_i (show (0 : Int) < 3 by decide), hd, F.w15, q1, nm_up, nm_off, b5, F.v10, F.v14, lvs, hr2, ql, rz, run_nx, show ¬ (0 : Int) < 0 by decide] <;> exact ⟨s5, B4, ⟨h5, f5, p2, p1⟩, rfl, by rw [p3]⟩
    · have rz := p4 b5
      have b6 : ¬ s4.lvl = 0 := by omega
      rcases hnm with rfl | rfl | rfl
      · have e5 : s5.lvl = max o.lo (min o.hi (s4.lvl + 1)) := by rw [p5, if_neg (by simp [b6])]; rfl
        rw [e5] at lvs
        simp only [evCs, evC, evE, evEs, R.bind_ok, R.bind_exc, opt_some, tB_bl, tB_exc, of_ok, of_exc, seq_nx, seq_rt, seq_exc, turn_nx, turn_rt, turn_exc, calm_ok, Env.get, Env.put, isTys, isTy, vw_non, vw_bl, vw_int, vw_str, vw_tup, vw_lst, vw_scr, c_lt, c_le, c_gt, c_ge, c_eq, c_ne, c_in, c_nin, q_int, q_nn, q_ni, q_in, ix_lst, ix_tup, ix_scr, g0, g1, g2, g3, b_lenL, b_lenT, b_lenS, b_max2, b_min2, b_max, b_min, b_sum, b_sorted, b_int, b_bool, b_tupL, b_tupT, b_lstL, b_lstT, b_abs, add_i, sub_i, sl_lst, sl_tup, pt_nil, pt_int, nD_non, nD_int, nD_str, nD_tup, nD_lst, app_get, app_set, store, stores, putAll, decide_true, decide_false, Bool.not_true, Bool.not_false, Bool.and_true, Bool.true_and, Bool.and_false, Bool.false_and, Bool.or_true, Bool.true_or, Bool.or_false, Bool.false_or, Option.map_some, Option.map_none, Option.bind_some, if_true, if_false, ite_true, ite_false, Bool.false_eq_true, reduceIte, reduceCtorEq, List.length_cons, List.length_nil, List.nil_append, List.cons_append, List.map_cons, List.map_nil, List.append_assoc, Nat.zero_add, Nat.reduceAdd, Nat.reduceLT, Nat.reduceEqDiff, Int.reduceNeg, Int.reduceLT, Int.reduceLE, and_self, true_and, and_true, Bool.and_self, ty_beq, nc0, nc1, nc2, nc3, nc4, nc5, nc6, nc7, nc8, nc9, Int.reduceEq, Int.reduceNe, eq_self, Int.reduceSub, Int.reduceAdd, Nat.reduceLeDiff, p40, fdiv_i (show (0 : Int) < 1099511627776 by decide) (by decide), mod_i (show (0 : Int) < 5 by decide), hz, w0, F.w9, lv4, p50, fdiv_i (show (0 : Int) < 1125899906842624 by decide) (by decide), mod_i (show (0 : Int) < 3 by decide), hd, F.w15, q1, nm_up, nm_off, b6, own_2, own_3, F.v10, F.v14, lvs, hr2, ql, rz, run_nx]
        exact ⟨s5, B4, ⟨h5, f5, p2, p1⟩, rfl, by rw [p3]⟩
      · have e5 : s5.lvl = max o.lo (min o.hi (s4.lvl + -1)) := by rw [p5, if_neg (by simp [b6])]; rfl
        rw [e5] at lvs
        simp only [evCs, evC, evE, evEs, R.bind_ok, R.bind_exc, opt_some, tB_bl, tB_exc, of_ok, of_exc, seq_nx, seq_rt, seq_exc, turn_nx, turn_rt, turn_exc, calm_ok, Env.get, Env.put, isTys, isTy, vw_non, vw_bl, vw_int, vw_str, vw_tup, vw_lst, vw_scr, c_lt, c_le, c_gt, c_ge, c_eq, c_ne, c_in, c_nin, q_int, q_nn, q_ni, q_in, ix_lst, ix_tup, ix_scr, g0, g1, g2, g3, b_lenL, b_lenT, b_lenS, b_max2, b_min2, b_max, b_min, b_sum, b_sorted, b_int, b_bool, b_tupL, b_tupT, b_lstL, b_lstT, b_abs, add_i, sub_i, sl_lst, sl_tup, pt_nil, pt_int, nD_non, nD_int, nD_str, nD_tup, nD_lst, app_get, app_set, store, stores, putAll, decide_true, decide_false, Bool.not_true, Bool.not_false, Bool.and_true, Bool.true_and, Bool.and_false, Bool.false_and, Bool.or_true, Bool.true_or, Bool.or_false, Bool.false_or, Option.map_some, Option.map_none, Option.bind_some, if_true, if_false, ite_true, ite_false, Bool.false_eq_true, reduceIte, reduceCtorEq, List.length_cons, List.length_nil, List.nil_append, List.cons_append, List.map_cons, List.map_nil, List.append_assoc, Nat.zero_add, Nat.reduceAdd, Nat.reduceLT, Nat.reduceEqDiff, Int.reduceNeg, Int.reduceLT, Int.reduceLE, and_self, true_and, and_true, Bool.and_self, ty_beq, nc0, nc1, nc2, nc3, nc4, nc5, nc6, nc7, nc8, nc9, Int.reduceEq, Int.reduceNe, eq_self, Int.reduceSub, Int.reduceAdd, Nat.reduceLeDiff, p40, fdiv_i (show (0 : Int) < 1099511627776 by decide) (by decide), mod_i (show (0 : Int) < 5 by decide), hz, w0, F.w9, lv4, p50, fdiv_i (show (0 : Int) < 1125899906842624 by decide) (by decide), mod_i (show (0 : Int) < 3 by decide), hd, F.w15, q1, nm_up, nm_off, b6, own_2, own_3, F.v10, F.v14, lvs, hr2, ql, rz, run_nx]
        exact ⟨s5, B4, ⟨h5, f5, p2, p1⟩, rfl, by rw [p3]⟩
      · have e5 : s5.lvl = 0 := by rw [p5, if_pos (.inl rfl)]
        rw [e5] at lvs
        simp only [evCs, evC, evE, evEs, R.bind_ok, R.bind_exc, opt_some, tB_bl, tB_exc, of_ok, of_exc, seq_nx, seq_rt, seq_exc, turn_nx, turn_rt, turn_exc, calm_ok, Env.get, Env.put, isTys, isTy, vw_non, vw_bl, vw_int, vw_str, vw_tup, vw_lst, vw_scr, c_lt, c_le, c_gt, c_ge, c_eq, c_ne, c_in, c_nin, q_int, q_nn, q_ni, q_in, ix_lst, ix_tup, ix_scr, g0, g1, g2, g3, b_lenL, b_lenT, b_lenS, b_max2, b_min2, b_max, b_min, b_sum, b_sorted, b_int, b_bool, b_tupL, b_tupT, b_lstL, b_lstT, b_abs, add_i, sub_i, sl_lst, sl_tup, pt_nil, pt_int, nD_non, nD_int, nD_str, nD_tup, nD_lst, app_get, app_set, store, stores, putAll, decide_true, decide_false, Bool.not_true, Bool.not_false, Bool.and_true, Bool.true_and, Bool.and_false, Bool.false_and, Bool.or_true, Bool.true_or, Bool.or_false, Bool.false_or, Option.map_some, Option.map_none, Option.bind_some, if_true, if_false, ite_true, ite_false, Bool.false_eq_true, reduceIte, reduceCtorEq, List.length_cons, List.length_nil, List.nil_append, List.cons_append, List.map_cons, List.map_nil, List.append_assoc, Nat.zero_add, Nat.reduceAdd, Nat.reduceLT, Nat.reduceEqDiff, Int.reduceNeg, Int.reduceLT, Int.reduceLE, and_self, true_and, and_true, Bool.and_self, ty_beq, nc0, nc1, nc2, nc3, nc4, nc5, nc6, nc7, nc8, nc9, Int.reduceEq, Int.reduceNe, eq_self, Int.reduceSub, Int.reduceAdd, Nat.reduceLeDiff, p40, fdiv_i (show (0 : Int) < 1099511627776 by decide) (by decide), mod_i (show (0 : Int) < 5 by decide), hz, w0, F.w9, lv4, p50, fdiv_i (show (0 : Int) < 1125899906842624 by decide) (by decide), mod_i (show (0 : Int) < 3 by decide), hd, F.w15, q1, nm_up, nm_off, b6, own_2, own_3, F.v10, F.v14, lvs, hr2, ql, rz, run_nx]
        exact ⟨s5, B4, ⟨h5, f5, p2, p1⟩, rfl, by rw [p3]⟩
  simp only [List.mem_cons, List.not_mem_nil, or_false] at hm
  rcases hm with rfl | rfl | rfl
  · exact go .up (.inl rfl) rfl
  · exact go .down (.inr (.inl rfl)) rfl
  · exact go .off (.inr (.inr rfl)) rfl
end
end Y

end

section
set_option Elab.async false
set_option linter.all false
set_option maxRecDepth 100000
set_option maxHeartbeats 4000000
namespace Y
open PySem L2
theorem plain32 {T : Tab} (F : Fn32 T) (ns : List Int) (hlen : ns.length ≤ 63) : ∃ S', callAt T 20 57 [.scr ns] [] = .ok (.bl true) S' := by
  refine law_outer (K := 18) (sl := 20) (N := 3) F.h4 F.h5 ns hlen (by decide) (by decide) (by decide) F.h57 ?_
  intro k m env S hk hm hl g0 g1 g2
  obtain ⟨e0, env_1, rfl, hl_1⟩ := len_cons hl; obtain ⟨e1, env_2, rfl, hl_2⟩ := len_cons hl_1; obtain ⟨e2, env_3, rfl, hl_3⟩ := len_cons hl_2; obtain ⟨e3, env_4, rfl, hl_4⟩ := len_cons hl_3; obtain ⟨e4, env_5, rfl, hl_5⟩ := len_cons hl_4; obtain ⟨e5, env_6, rfl, hl_6⟩ := len_cons hl_5; obtain ⟨e6, env_7, rfl, hl_7⟩ := len_cons hl_6; obtain ⟨e7, env_8, rfl, hl_8⟩ := len_cons hl_7; obtain ⟨e8, env_9, rfl, hl_9⟩ := len_cons hl_8; obtain ⟨e9, env_10, rfl, hl_10⟩ := len_cons hl_9; obtain ⟨e10, env_11, rfl, hl_11⟩ := len_cons hl_10; obtain ⟨e11, env_12, rfl, hl_12⟩ := len_cons hl_11; obtain ⟨e12, env_13, rfl, hl_13⟩ := len_cons hl_12; obtain ⟨e13, env_14, rfl, hl_14⟩ := len_cons hl_13; obtain ⟨e14, env_15, rfl, hl_15⟩ := len_cons hl_14; obtain ⟨e15, env_16, rfl, hl_16⟩ := len_cons hl_15; obtain ⟨e16, env_17, rfl, hl_17⟩ := len_cons hl_16; obtain ⟨e17, env_18, rfl, hl_18⟩ := len_cons hl_17; obtain ⟨e18, env_19, rfl, hl_19⟩ := len_cons hl_18; obtain ⟨e19, env_20, rfl, hl_20⟩ := len_cons hl_19; obtain rfl := len_nil hl_20; clear hl hl_1 hl_2 hl_3 hl_4 hl_5 hl_6 hl_7 hl_8 hl_9 hl_10 hl_11 hl_12 hl_13 hl_14 hl_15 hl_16 hl_17 hl_18 hl_19 hl_20
  have g0 : e0 = _ := g0
  have g2 : e2 = _ := g2
  subst g0 g2
  have d1 := law_drawn F.h5 18 m 1 S
  have hh := law_house_eq F.h5 F.h6 17 (drawnOf m 1) 1 (by decide) (by decide) S
  have e1' : 1 + (drawnOf m 1 % ((1 : Nat) : Int)).toNat = 1 := by omega
  rw [e1'] at hh
  have hk1 := houseOf_hok (drawnOf m 1) 1 (by decide) (by decide)
  generalize drawnOf m 1 = h1 at *
  obtain ⟨o, ho⟩ : ∃ o, houseOf h1 1 = [o] := ⟨_, rfl⟩
  rw [ho] at hh hk1
  have hh : callAt T 19 6 [.int h1, .int 1] S = .ok (.lst [ownD o]) S := hh
  refine run_eq (env1 := [some (.scr ns), e1, some (.int m), some (ownD o), e4, e5, e6, e7, e8, e9, e10, e11, e12, e13, e14, e15, e16, e17, e18, e19]) (S1 := S) ?_ ?_
  · simp only [evCs, evC, evE, evEs, R.bind_ok, R.bind_exc, opt_some, tB_bl, tB_exc, of_ok, of_exc, seq_nx, seq_rt, seq_exc, turn_nx, turn_rt, turn_exc, calm_ok, Env.get, Env.put, isTys, isTy, vw_non, vw_bl, vw_int, vw_str, vw_tup, vw_lst, vw_scr, c_lt, c_le, c_gt, c_ge, c_eq, c_ne, c_in, c_nin, q_int, q_nn, q_ni, q_in, ix_lst, ix_tup, ix_scr, Y.g0, Y.g1, Y.g2, Y.g3, b_lenL, b_lenT, b_lenS, b_max2, b_min2, b_max, b_min, b_sum, b_sorted, b_int, b_bool, b_tupL, b_tupT, b_lstL, b_lstT, b_abs, add_i, sub_i, sl_lst, sl_tup, pt_nil, pt_int, nD_non, nD_int, nD_str, nD_tup, nD_lst, app_get, app_set, store, stores, putAll, decide_true, decide_false, Bool.not_true, Bool.not_false, Bool.and_true, Bool.true_and, Bool.and_false, Bool.false_and, Bool.or_true, Bool.true_or, Bool.or_false, Bool.false_or, Option.map_some, Option.map_none, Option.bind_some, if_true, if_false, ite_true, ite_false, Bool.false_eq_true, reduceIte, reduceCtorEq, List.length_cons, List.length_nil, List.nil_append, List.cons_append, List.map_cons, List.map_nil, List.append_assoc, Nat.zero_add, Nat.reduceAdd, Nat.reduceLT, Nat.reduceEqDiff, Int.reduceNeg, Int.reduceLT, Int.reduceLE, and_self, true_and, and_true, Bool.and_self, ty_beq, nc0, nc1, nc2, nc3, nc4, nc5, nc6, nc7, nc8, nc9, Int.reduceEq, Int.reduceNe, eq_self, Int.reduceSub, Int.reduceAdd, Nat.reduceLeDiff, d1, hh]
  have nw := new_wire_e (T := T) (e := .lst [.var 3]) (env := [some (.scr ns), e1, some (.int m), some (ownD o), e4, e5, e6, e7, e8, e9, e10, e11, e12, e13, e14, e15, e16, e17, e18, e19]) F.toWT 15 [o] hk1 S (by simp only [evCs, evC, evE, evEs, R.bind_ok, R.bind_exc, opt_some, tB_bl, tB_exc, of_ok, of_exc, seq_nx, seq_rt, seq_exc, turn_nx, turn_rt, turn_exc, calm_ok, Env.get, Env.put, isTys, isTy, vw_non, vw_bl, vw_int, vw_str, vw_tup, vw_lst, vw_scr, c_lt, c_le, c_gt, c_ge, c_eq, c_ne, c_in, c_nin, q_int, q_nn, q_ni, q_in, ix_lst, ix_tup, ix_scr, Y.g0, Y.g1, Y.g2, Y.g3, b_lenL, b_lenT, b_lenS, b_max2, b_min2, b_max, b_min, b_sum, b_sorted, b_int, b_bool, b_tupL, b_tupT, b_lstL, b_lstT, b_abs, add_i, sub_i, sl_lst, sl_tup, pt_nil, pt_int, nD_non, nD_int, nD_str, nD_tup, nD_lst, app_get, app_set, store, stores, putAll, decide_true, decide_false, Bool.not_true, Bool.not_false, Bool.and_true, Bool.true_and, Bool.and_false, Bool.false_and, Bool.or_true, Bool.true_or, Bool.or_false, Bool.false_or, Option.map_some, Option.map_none, Option.bind_some, if_true, if_false, ite_true, ite_false, Bool.false_eq_true, reduceIte, reduceCtorEq, List.length_cons, List.length_nil, List.nil_append, List.cons_append, List.map_cons, List.map_nil, List.append_assoc, Nat.zero_add, Nat.reduceAdd, Nat.reduceLT, Nat.reduceEqDiff, Int.reduceNeg, Int.reduceLT, Int.reduceLE, and_self, true_and, and_true, Bool.and_self, ty_beq, nc0, nc1, nc2, nc3, nc4, nc5, nc6, nc7, nc8, nc9, Int.reduceEq, Int.reduceNe, eq_self, Int.reduceSub, Int.reduceAdd, Nat.reduceLeDiff])
  refine run_eq (env1 := [some (.scr ns), e1, some (.int m), some (ownD o), some (.ref S.length), some (.tup [.str "all"]), some (.int 0), e7, e8, e9, e10, e11, e12, e13, e14, e15, e16, e17, e18, e19]) (S1 := WR S [newLmp o] []) ?_ ?_
  · simp only [List.map_cons, List.map_nil] at nw
    obtain ⟨x, hx⟩ : ∃ x, x = E.new 1 [E.lst [E.var 3]] := ⟨_, rfl⟩
    rw [← hx] at nw ⊢
    simp only [evCs, evC, evE, evEs, R.bind_ok, R.bind_exc, opt_some, tB_bl, tB_exc, of_ok, of_exc, seq_nx, seq_rt, seq_exc, turn_nx, turn_rt, turn_exc, calm_ok, Env.get, Env.put, isTys, isTy, vw_non, vw_bl, vw_int, vw_str, vw_tup, vw_lst, vw_scr, c_lt, c_le, c_gt, c_ge, c_eq, c_ne, c_in, c_nin, q_int, q_nn, q_ni, q_in, ix_lst, ix_tup, ix_scr, Y.g0, Y.g1, Y.g2, Y.g3, b_lenL, b_lenT, b_lenS, b_max2, b_min2, b_max, b_min, b_sum, b_sorted, b_int, b_bool, b_tupL, b_tupT, b_lstL, b_lstT, b_abs, add_i, sub_i, sl_lst, sl_tup, pt_nil, pt_int, nD_non, nD_int, nD_str, nD_tup, nD_lst, app_get, app_set, store, stores, putAll, decide_true, decide_false, Bool.not_true, Bool.not_false, Bool.and_true, Bool.true_and, Bool.and_false, Bool.false_and, Bool.or_true, Bool.true_or, Bool.or_false, Bool.false_or, Option.map_some, Option.map_none, Option.bind_some, if_true, if_false, ite_true, ite_false, Bool.false_eq_true, reduceIte, reduceCtorEq, List.length_cons, List.length_nil, List.nil_append, List.cons_append, List.map_cons, List.map_nil, List.append_assoc, Nat.zero_add, Nat.reduceAdd, Nat.reduceLT, Nat.reduceEqDiff, Int.reduceNeg, Int.reduceLT, Int.reduceLE, and_self, true_and, and_true, Bool.and_self, ty_beq, nc0, nc1, nc2, nc3, nc4, nc5, nc6, nc7, nc8, nc9, Int.reduceEq, Int.reduceNe, eq_self, Int.reduceSub, Int.reduceAdd, Nat.reduceLeDiff, nw]
  have oo : o.ok := hk1.all o (by simp)
  refine run_cs (P := fun env _ => env.length = 20 ∧ env.get 0 = some (.scr ns)) ?_ ?_
  · unfold f57_l1
    obtain ⟨n, hn, hn15⟩ : ∃ n : Nat, m / 8 % 15 = n ∧ n < 15 := ⟨(m / 8 % 15).toNat, by omega, by omega⟩
    refine (run_rng (n := n) (S := WR S [newLmp o] []) (fun _ env S' => ∃ s' B', St32 o s' ∧ S' = WR S [s'] B' ∧ env.length = 20 ∧ env.get 0 = some (.scr ns) ∧ env.get 2 = some (.int m) ∧ env.get 3 = some (ownD o) ∧ env.get 4 = some (.ref S.length) ∧ env.get 5 = some (.tup [.str "all"]) ∧ env.get 6 = some (.int s'.time)) ?_ (by omega) ⟨newLmp o, [], ⟨new_ok o, new_fine oo, rfl, rfl⟩, rfl, rfl, rfl, rfl, rfl, rfl, rfl, rfl⟩ ?_).mono ?_
    · simp only [evCs, evC, evE, evEs, R.bind_ok, R.bind_exc, opt_some, tB_bl, tB_exc, of_ok, of_exc, seq_nx, seq_rt, seq_exc, turn_nx, turn_rt, turn_exc, calm_ok, Env.get, Env.put, isTys, isTy, vw_non, vw_bl, vw_int, vw_str, vw_tup, vw_lst, vw_scr, c_lt, c_le, c_gt, c_ge, c_eq, c_ne, c_in, c_nin, q_int, q_nn, q_ni, q_in, ix_lst, ix_tup, ix_scr, Y.g0, Y.g1, Y.g2, Y.g3, b_lenL, b_lenT, b_lenS, b_max2, b_min2, b_max, b_min, b_sum, b_sorted, b_int, b_bool, b_tupL, b_tupT, b_lstL, b_lstT, b_abs, add_i, sub_i, sl_lst, sl_tup, pt_nil, pt_int, nD_non, nD_int, nD_str, nD_tup, nD_lst, app_get, app_set, store, stores, putAll, decide_true, decide_false, Bool.not_true, Bool.not_false, Bool.and_true, Bool.true_and, Bool.and_false, Bool.false_and, Bool.or_true, Bool.true_or, Bool.or_false, Bool.false_or, Option.map_some, Option.map_none, Option.bind_some, if_true, if_false, ite_true, ite_false, Bool.false_eq_true, reduceIte, reduceCtorEq, List.length_cons, List.length_nil, List.nil_append, List.cons_append, List.map_cons, List.map_nil, List.append_assoc, Nat.zero_add, Nat.reduceAdd, Nat.reduceLT, Nat.reduceEqDiff, Int.reduceNeg, Int.reduceLT, Int.reduceLE, and_self, true_and, and_true, Bool.and_self, ty_beq, nc0, nc1, nc2, nc3, nc4, nc5, nc6, nc7, nc8, nc9, Int.reduceEq, Int.reduceNe, eq_self, Int.reduceSub, Int.reduceAdd, Nat.reduceLeDiff, fdiv_i (show (0 : Int) < 8 by decide) (by decide), mod_i (show (0 : Int) < 15 by decide), hn]
    · rintro j env S' hj ⟨s', B', hs, rfl, hl, q0, q2, q3, q4, q5, q6⟩
      clear nw hh d1
      obtain ⟨e0, env_1, rfl, hl_1⟩ := len_cons hl; obtain ⟨e1, env_2, rfl, hl_2⟩ := len_cons hl_1; obtain ⟨e2, env_3, rfl, hl_3⟩ := len_cons hl_2; obtain ⟨e3, env_4, rfl, hl_4⟩ := len_cons hl_3; obtain ⟨e4, env_5, rfl, hl_5⟩ := len_cons hl_4; obtain ⟨e5, env_6, rfl, hl_6⟩ := len_cons hl_5; obtain ⟨e6, env_7, rfl, hl_7⟩ := len_cons hl_6; obtain ⟨e7, env_8, rfl, hl_8⟩ := len_cons hl_7; obtain ⟨e8, env_9, rfl, hl_9⟩ := len_cons hl_8; obtain ⟨e9, env_10, rfl, hl_10⟩ := len_cons hl_9; obtain ⟨e10, env_11, rfl, hl_11⟩ := len_cons hl_10; obtain ⟨e11, env_12, rfl, hl_12⟩ := len_cons hl_11; obtain ⟨e12, env_13, rfl, hl_13⟩ := len_cons hl_12; obtain ⟨e13, env_14, rfl, hl_14⟩ := len_cons hl_13; obtain ⟨e14, env_15, rfl, hl_15⟩ := len_cons hl_14; obtain ⟨e15, env_16, rfl, hl_16⟩ := len_cons hl_15; obtain ⟨e16, env_17, rfl, hl_17⟩ := len_cons hl_16; obtain ⟨e17, env_18, rfl, hl_18⟩ := len_cons hl_17; obtain ⟨e18, env_19, rfl, hl_19⟩ := len_cons hl_18; obtain ⟨e19, env_20, rfl, hl_20⟩ := len_cons hl_19; obtain rfl := len_nil hl_20; clear hl hl_1 hl_2 hl_3 hl_4 hl_5 hl_6 hl_7 hl_8 hl_9 hl_10 hl_11 hl_12 hl_13 hl_14 hl_15 hl_16 hl_17 hl_18 hl_19 hl_20
      have q0 : e0 = _ := q0
      have q2 : e2 = _ := q2
      have q3 : e3 = _ := q3
      have q4 : e4 = _ := q4
      have q5 : e5 = _ := q5
      have q6 : e6 = _ := q6
      subst q0 q2 q3 q4 q5 q6
      exact k32_b1 (A := S) (B := B') (m := m) (j := j) F hs (some (.scr ns)) e1 e8 e9 e10 e11 e12 e13 e14 e15 e16 e17 e18 e19
    · rintro env S' ⟨s', B', hs, rfl, hl, q0, _⟩
      exact ⟨hl, q0⟩
  · intro env S h
    exact run_nil h
end Y

end

section
set_option Elab.async false
set_option linter.all false
set_option maxRecDepth 100000
set_option maxHeartbeats 0
namespace Y.K32
open PySem L2
def top (i : Nat) : Stmt := PySem.Challenge.pw_wirelamps_k32_whole_ways_begun_anew.main.body.getD i (.Pass ⟨0, 0, 0, 0⟩)
def sub (i j : Nat) : Stmt := (clsBody (top i)).getD j (.Pass ⟨0, 0, 0, 0⟩)
def d0 : LD := ⟨0, f0_is_count, "", "is_count", top 10, ["thing", "low", "high"], false⟩
def d1 : LD := ⟨1, f1_is_lamp, "", "is_lamp", top 11, ["thing"], false⟩
def d2 : LD := ⟨2, f2_need_house, "", "need_house", top 12, ["house", "lamp"], false⟩
def d9 : LD := ⟨9, f9_let_by, "", "let_by", top 13, ["lamp", "level"], false⟩
def d10 : LD := ⟨10, f10_is_pair, "", "is_pair", top 22, ["thing", "names"], false⟩
def d11 : LD := ⟨11, f11_is_address, "", "is_address", top 23, ["thing"], false⟩
def d12 : LD := ⟨12, f12_is_command, "", "is_command", top 24, ["thing"], false⟩
def d13 : LD := ⟨13, f13_is_ask_group, "", "is_ask_group", top 25, ["thing"], false⟩
def d14 : LD := ⟨14, f14_is_word, "", "is_word", top 26, ["thing"], false⟩
def d15 : LD := ⟨15, f15_need_word, "", "need_word", top 27, ["word"], false⟩
def d21 : LD := ⟨21, f21_between, "", "between", top 29, ["first", "last", "ticks", "gone", "far"], false⟩
def d45 : LD := ⟨45, f45_fade, "", "fade", top 30, ["first", "last", "ticks", "gone"], false⟩
def d22 : LD := ⟨22, f22_Lamp___init, "Lamp", "__init__", sub 33 0, ["self", "own"], false⟩
def d23 : LD := ⟨23, f23_Lamp_level, "Lamp", "level", sub 33 1, ["self"], false⟩
def d49 : LD := ⟨49, f49_Lamp_left, "Lamp", "left", sub 33 2, ["self"], false⟩
def d25 : LD := ⟨25, f25_Lamp_at_once, "Lamp", "at_once", sub 33 3, ["self", "level"], false⟩
def d26 : LD := ⟨26, f26_Lamp_go_to, "Lamp", "go_to", sub 33 4, ["self", "level", "now", "goal"], false⟩
def d50 : LD := ⟨50, f50_Lamp_tick, "Lamp", "tick", sub 33 5, ["self", "many"], false⟩
def d28 : LD := ⟨28, f28_Lamp_is_meant, "Lamp", "is_meant", sub 33 6, ["self", "address"], false⟩
def d29 : LD := ⟨29, f29_Lamp_hear, "Lamp", "hear", sub 33 7, ["self", "word", "address", "command", "is_again", "is_kept"], false⟩
def d30 : LD := ⟨30, f30_Lamp_do, "Lamp", "do", sub 33 8, ["self", "command", "name"], false⟩
def d31 : LD := ⟨31, f31_Lamp_keep, "Lamp", "keep", sub 33 9, ["self", "name", "number", "one"], false⟩
def d51 : LD := ⟨51, f51_Lamp_state, "Lamp", "state", sub 33 10, ["self", "scenes", "number"], false⟩
def d33 : LD := ⟨33, f33_Wire___init, "Wire", "__init__", sub 37 0, ["self", "house", "own"], false⟩
def d34 : LD := ⟨34, f34_Wire_send, "Wire", "send", sub 37 1, ["self", "word", "deaf", "number", "said", "lamp", "some", "one"], false⟩
def d52 : LD := ⟨52, f52_Wire_tick, "Wire", "tick", sub 37 2, ["self", "many", "lamp"], false⟩
def d36 : LD := ⟨36, f36_Wire_need_lamp, "Wire", "need_lamp", sub 37 3, ["self", "number"], false⟩
def d37 : LD := ⟨37, f37_Wire_level, "Wire", "level", sub 37 4, ["self", "number"], false⟩
def d53 : LD := ⟨53, f53_Wire_state, "Wire", "state", sub 37 5, ["self", "number"], false⟩
def d54 : LD := ⟨54, f54_Wire_rest, "Wire", "rest", sub 37 6, ["self", "lamp"], false⟩
def d55 : LD := ⟨55, f55_Wire_levels, "Wire", "levels", sub 37 7, ["self", "lamp"], false⟩
def d4 : LD := ⟨4, f4_law_cell, "", "_law_cell", top 39, ["script", "k"], false⟩
def d5 : LD := ⟨5, f5_law_drawn, "", "_law_drawn", top 40, ["cell", "k", "more"], false⟩
def d6 : LD := ⟨6, f6_law_house, "", "_law_house", top 41, ["more", "most", "found", "longs", "j", "here", "own", "short", "least"], false⟩
def d56 : LD := ⟨56, f56_law_let, "", "_law_let", top 42, ["lamp", "level"], false⟩
def d57 : LD := ⟨57, f57_law, "", "law", top 43, ["script", "k", "more", "lamp", "wire", "every", "time", "j", "here", "now", "level", "goal", "first", "last", "due", "many", "told", "turn", "word", "step"], false⟩
def lw : Lw where
  defs := [d0, d1, d2, d9, d10, d11, d12, d13, d14, d15, d21, d45, d22, d23, d49, d25, d26, d50, d28, d29, d30, d31, d51, d33, d34, d52, d36, d37, d53, d54, d55, d4, d5, d6, d56, d57]
  told := none
  cls := [⟨0, "Lamp", 22, [(9, 23), (8, 49), (1, 25), (4, 26), (17, 50), (6, 28), (5, 29), (2, 30), (7, 31), (16, 51)]⟩, ⟨1, "Wire", 33, [(15, 34), (17, 52), (12, 36), (9, 37), (16, 53), (14, 54), (10, 55)]⟩]
  nexc := 0
  exl := [0, 1, 2]
  gints := [("MOST_LONG", 65535), ("MOST_SHORT", 15), ("MOST_LEVEL", 100), ("MOST_LAMPS", 8), ("MOST_GROUP", 7), ("MOST_SCENE", 7), ("MOST_FADE", 50), ("LATEST", 5), ("MOST_TICKS", 1000000)]
  gstrs := [("CLASH", "clash")]
  gtups := [("PLAIN", ["off", "up", "down", "level?", "group?"]), ("TWICE", ["fade", "join", "leave", "store", "forget"]), ("TOLD", ["level", "scene", "fade", "join", "leave", "store", "forget"])]
  bnd := true
theorem plain : ∀ ns : List Int, ns.length ≤ 63 → (∀ z ∈ ns, Builtin.Int.intBits z ≤ 1048576) → ∃ S', callAt lw.meta.tab 20 57 [.scr ns] [] = .ok (.bl true) S' := fun ns h _ => plain32 { h9 := rfl, h21 := rfl, h22 := rfl, h23 := rfl, h25 := rfl, h26 := rfl, h28 := rfl, h29 := rfl, h30 := rfl, h31 := rfl, i0 := rfl, m1 := rfl, m2 := rfl, m4 := rfl, m5 := rfl, m6 := rfl, m7 := rfl, m9 := rfl, h0 := rfl, h10 := rfl, h11 := rfl, h12 := rfl, h13 := rfl, h14 := rfl, h15 := rfl, h1 := rfl, h2 := rfl, h33 := rfl, h34 := rfl, h36 := rfl, h37 := rfl, i1 := rfl, w10 := rfl, w9 := rfl, w15 := rfl, h4 := rfl, h5 := rfl, h6 := rfl, h49 := rfl, h50 := rfl, h51 := rfl, h52 := rfl, h53 := rfl, h54 := rfl, h55 := rfl, m8 := rfl, m16 := rfl, m17 := rfl, v10 := rfl, v14 := rfl, v16 := rfl, v17 := rfl, h45 := rfl, h56 := rfl, h57 := rfl } ns h
def nm0 : List Str := ["LampError", "BadHouse", "BadWord", "BadNumber", "MOST_LONG", "MOST_SHORT", "MOST_LEVEL", "MOST_LAMPS", "is_count", "is_lamp", "need_house", "let_by", "MOST_GROUP", "MOST_SCENE", "MOST_FADE", "BOUNDS", "PLAIN", "TWICE", "TOLD", "is_pair", "is_address", "is_command", "is_ask_group", "is_word", "need_word", "between", "fade", "LATEST", "Lamp", "MOST_TICKS"]
def nm1 : List Str := ["CLASH", "Wire", "_law_cell", "_law_drawn", "_law_house", "_law_let"]
abbrev loose : List Str := nm0 ++ nm1
theorem chk : lw.chk = true := by decide +kernel
abbrev RR : PySem.W.OpenRow := PySem.W.OpenLaw.row PySem.Challenge.rw_wirelamps_k32_whole_ways_begun_anew
abbrev hk : PySem.W.Hook := hookY lw 5
def ob (s : PySem.W.SharedT) : AlY := obsY lw 5 (HandSHeadRun.getT s)
theorem ob_eq (s : PySem.W.SharedT) : ob s = hk.obs s.abs := obsY_eq (HandSHeadRun.getT_eq s)
theorem run (w : World) : HandSHeadRun.RunEq RR (PySem.W.view RR.prog [43]) hk ob 20000 loose w := by
  refine PySem.W.byRow2 "special-get-raises" (P := fun w => HandSHeadRun.RunEq RR (PySem.W.view RR.prog [43]) hk ob 20000 loose w) ?_ ?_ w
  · intro w os
    kernel_rfl
  · intro w os
    kernel_rfl
end Y.K32
open PySem PySem.W PySem.Calls PyProof.Rows
theorem PySem.Challenge.cw_wirelamps_k32_whole_ways_begun_anew_holds : PySem.Challenge.rw_wirelamps_k32_whole_ways_begun_anew.Holds := by
  w_on; o_law
  refine HandSHeadRun.head_any (r := OpenLaw.row PySem.Challenge.rw_wirelamps_k32_whole_ways_begun_anew) (q := view (OpenLaw.row PySem.Challenge.rw_wirelamps_k32_whole_ways_begun_anew).prog [43]) (H := Y.K32.hk) (ob := Y.K32.ob) (M := 20000) (loose := Y.K32.loose) (d := HandSHeadRun.topDef (OpenLaw.row PySem.Challenge.rw_wirelamps_k32_whole_ways_begun_anew).prog 43) (kwd := []) Y.K32.ob_eq (by kernel_rfl) (fun s => by kernel_rfl) Y.K32.run (by kernel_rfl) (by kernel_rfl) (by kernel_rfl) (by rfl) (by first | assumption | decide +kernel) (by decide +kernel) ⟨rfl, rfl, rfl, rfl, rfl, by decide +kernel⟩ ?hw ?hc
  case hw => w_witness2
  case hc =>
    refine LamX.walk_ofTsE (l := PySem.Challenge.rw_wirelamps_k32_whole_ways_begun_anew) (n := 63) (k := 4 * 20) (x := "script") (CX := fun w => L2N.CX (PySem.Challenge.rw_wirelamps_k32_whole_ways_begun_anew).prog w) rfl (by decide) (by kernel_rfl) ⟨rfl, by decide, by decide⟩ ?F (fun _ _ _ _ _ z => Y.cx_never z)
    intro w mg fa h Z G hmg0
    obtain ⟨K1, X1, e⟩ := Z
    have hmg : mg ("law" : PySem.Str) = some (.ref fa) := by
      have e : (HandSHeadRun.topDef (OpenLaw.row PySem.Challenge.rw_wirelamps_k32_whole_ways_begun_anew).prog 43).name = ("law" : PySem.Str) := by kernel_rfl
      rw [← e]; exact hmg0
    exact Y.law_at (lid := 57) (kk := 20) (d := Y.K32.d57) X1 G e Y.K32.chk (by kernel_rfl) (by decide +kernel) (by decide +kernel) (by decide +kernel) hmg Y.K32.plain

end
