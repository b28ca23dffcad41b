import PyProof.Rows.All
import Wide.All
import OpenK.AllK
import Wide.FinOn
import HandS.ForMost
import HandS.ForExc
import HandS.Flow
import HandS.Style
import HandS.Wide
import HandS.TupAny
import HandS.ExcCtx
import HandS.Hot
import HandS.HotCalls
import HandS.IsInst
import HandS.FStr
import HandS.Deep
import PyProof.ReprReads
import HandS.More
import HandS.StrMore
import HandS.TryOnly
import HandS.ExcInit
import HandS.ExcField
import HandS.ExcIs
import HandS.Defaults
import HandS.MakeKwOnly
import HandS.Ends
import HandS.EndBits
import HandS.Codes
import PySem.Challenge.RW_streamrows_k57_stores_and_sealed_lines
set_option Elab.async false
set_option linter.all false
set_option maxRecDepth 100000
set_option maxHeartbeats 4000000
/-! L3Ev: a small interpreter of the Python that the laws use: its values, cells, terms, what they come to -/
namespace M3
open PySem L2

/-- values: tuples, frozen lists and dicts by what they hold; ref n: the n-th cell -/
inductive D where
  | non | bl (b : Bool) | int (i : Int) | str (s : Str)
  | tup (xs : List D) | lst (xs : List D) | dct (ks : List Key) (ds : List D)
  | ref (n : Nat)
inductive Cell where
  | lst (xs : List D) | dct (ks : List Key) (ds : List D) | ins (c : Nat) (fs : List (Str × D))
abbrev G := List Cell
abbrev Env := List (Option D)
/-- what an expression comes to -/
inductive R (α : Type) where
  | ok (a : α) (g : G) | exc (c : Nat) (fs : List (Str × D)) (g : G) | bad
def R.bind {α β : Type} (r : R α) (f : α → G → R β) : R β :=
  match r with
  | .ok a g => f a g
  | .exc c fs g => .exc c fs g
  | .bad => .bad
@[simp] theorem R.bind_ok {α β : Type} (a : α) (g : G) (f : α → G → R β) : (R.ok a g).bind f = f a g := rfl
@[simp] theorem R.bind_exc {α β : Type} (c : Nat) (fs : List (Str × D)) (g : G) (f : α → G → R β) : (R.exc c fs g : R α).bind f = .exc c fs g := rfl
@[simp] theorem R.bind_bad {α β : Type} (f : α → G → R β) : (R.bad : R α).bind f = .bad := rfl

def lstOf (g : G) : D → Option (List D)
  | .lst xs => some xs
  | .ref n => match g[n]? with | some (.lst xs) => some xs | _ => none
  | _ => none
def dctOf (g : G) : D → Option (List Key × List D)
  | .dct ks ds => some (ks, ds)
  | .ref n => match g[n]? with | some (.dct ks ds) => some (ks, ds) | _ => none
  | _ => none
/-- a new list: a cell, or frozen -/
def newL (t : Bool) (xs : List D) (g : G) : R D := if t then .ok (.ref g.length) (g ++ [.lst xs]) else .ok (.lst xs) g
def newD (t : Bool) (ks : List Key) (ds : List D) (g : G) : R D := if t then .ok (.ref g.length) (g ++ [.dct ks ds]) else .ok (.dct ks ds) g
/-- the data that stands within one another, k deep -/
def py (g : G) : Nat → D → Option PyData
  | 0, _ => none
  | _ + 1, .non => some .none
  | _ + 1, .bl b => some (.bool b)
  | _ + 1, .int i => some (.int i)
  | _ + 1, .str s => some (.str s)
  | k + 1, .tup xs => (xs.mapM (py g k)).map .tuple
  | k + 1, .lst xs => (xs.mapM (py g k)).map .list
  | k + 1, .dct ks ds => (ds.mapM (py g k)).map fun vs => .dict ((ks.map fun | .inl i => PyData.int i | .inr s => PyData.str s).zip vs)
  | k + 1, .ref n => match g[n]? with
    | some (.lst xs) => (xs.mapM (py g k)).map .list
    | some (.dct ks ds) => (ds.mapM (py g k)).map fun vs => .dict ((ks.map fun | .inl i => PyData.int i | .inr s => PyData.str s).zip vs)
    | _ => none

inductive Ty where
  | int | str | bool | list | tuple | dict | listTuple
  deriving DecidableEq
def isM (g : G) (t : Ty) : D → Option Bool
  | .non => some false
  | .bl _ => some (t == .int || t == .bool)
  | .int _ => some (t == .int)
  | .str _ => some (t == .str)
  | .tup _ => some (t == .tuple || t == .listTuple)
  | .lst _ => some (t == .list || t == .listTuple)
  | .dct _ _ => some (t == .dict)
  | .ref n => match g[n]? with
    | some (.lst _) => some (t == .list || t == .listTuple)
    | some (.dct _ _) => some (t == .dict)
    | _ => none
def truM (g : G) : D → Option Bool
  | .non => some false
  | .bl b => some b
  | .int i => some (i != 0)
  | .str s => if s.length ≤ sizeLine then some (s.length != 0) else none
  | .tup xs => some (!xs.isEmpty)
  | .lst xs => some (!xs.isEmpty)
  | .dct ks _ => some (!ks.isEmpty)
  | .ref n => match g[n]? with
    | some (.lst xs) => some (!xs.isEmpty)
    | some (.dct ks _) => some (!ks.isEmpty)
    | _ => none

inductive Op where
  | len | abs | int | str | repr | neg | isT (t : Ty) | all | any | sum | list (t : Bool) | tuple | isNone | notNone | isTrue | upper
  | add (t : Bool) | sub | mul | fdiv | mod | pow | eq | ne | lt | le | gt | ge | isin | notin | ix | max | min
  | join | sindex | partition | append | insert | fs
  deriving DecidableEq

def ok1 (d : D) (g : G) : R D := .ok d g
/-- flat: no list, tuple, dict -/
def flatD : D → Bool
  | .non | .bl _ | .int _ | .str _ => true
  | _ => false
def eqF : D → D → Bool
  | .non, .non => true
  | .bl a, .bl b => a == b
  | .bl a, .int b => (if a then 1 else 0) == b
  | .int a, .bl b => a == (if b then 1 else 0)
  | .int a, .int b => a == b
  | .str a, .str b => a == b
  | _, _ => false
def PYDEEP : Nat := 40
mutual
/-- a list stands within -/
def hasL : PyData → Bool
  | .list _ => true
  | .tuple xs => hasLs xs
  | .dict kvs => hasLk kvs
  | _ => false
def hasLs : List PyData → Bool
  | [] => false
  | x :: xs => hasL x || hasLs xs
def hasLk : List (PyData × PyData) → Bool
  | [] => false
  | (_, v) :: r => hasL v || hasLk r
end
/-- == of two flat values, but of a bool and an int -/
def eqS : D → D → Option Bool
  | .non, .non => some true
  | .bl a, .bl b => some (a == b)
  | .int a, .int b => some (a == b)
  | .str a, .str b => some (a == b)
  | .non, .int _ | .int _, .non | .non, .bl _ | .bl _, .non | .non, .str _ | .str _, .non => some false
  | .int _, .str _ | .str _, .int _ | .bl _, .str _ | .str _, .bl _ => some false
  | _, _ => none
def eqM (g : G) (a b : D) : Option Bool :=
  match eqS a b with
  | some e => some e
  | none =>
    match py g PYDEEP a, py g PYDEEP b with
    | some x, some y => if SeqAt.shaped x && SeqAt.shaped y then some (PyData.eqv x y) else none
    | _, _ => none
def inM (g : G) (x y : D) : Option Bool :=
  match y with
  | .str s => match x with
    | .str z => some (!(Builtin.Str.occurrences s z 0 s.length 1).isEmpty)
    | _ => none
  | .tup xs => if flatD x && xs.all flatD then some (xs.any fun z => eqF z x) else none
  | y => match lstOf g y with
    | some xs => if flatD x && xs.all flatD then some (xs.any fun z => eqF z x) else none
    | none => none
def ixM (g : G) (x : D) (i : Int) : Option D :=
  match x with
  | .tup xs => atI xs i
  | .str s => if s.length ≤ sizeLine then (atI s.cps.toList i).map fun c => .str ⟨#[c]⟩ else none
  | x => match lstOf g x with
    | some xs => atI xs i
    | none => none
def intsOf : List D → Option (List Int)
  | [] => some []
  | .int i :: r => (intsOf r).map (i :: ·)
  | _ :: _ => none
def blsOf : List D → Option (List Bool)
  | [] => some []
  | .bl i :: r => (blsOf r).map (i :: ·)
  | _ :: _ => none
def strsOf : List D → Option (List Str)
  | [] => some []
  | .str i :: r => (strsOf r).map (i :: ·)
  | _ :: _ => none
def seqOf (g : G) : D → Option (List D)
  | .tup xs => some xs
  | d => lstOf g d
def opt (o : Option D) (g : G) : R D := match o with | some d => .ok d g | none => .bad
@[simp] theorem opt_some (d : D) (g : G) : opt (some d) g = .ok d g := rfl
@[simp] theorem opt_none (g : G) : opt none g = .bad := rfl
def optB (o : Option Bool) (g : G) : R D := match o with | some d => .ok (.bl d) g | none => .bad
@[simp] theorem optB_some (d : Bool) (g : G) : optB (some d) g = .ok (.bl d) g := rfl
@[simp] theorem optB_none (g : G) : optB none g = .bad := rfl
def big (s : Str) (g : G) : R D := if s.length ≤ sizeLine then .ok (.str s) g else .bad

/-- what an operation does -/
def opM (o : Op) (ds : List D) (g : G) : R D :=
  match o, ds with
  | .len, [.str s] => if s.length ≤ sizeLine then .ok (.int s.length) g else .bad
  | .len, [.tup xs] => .ok (.int xs.length) g
  | .len, [d] => match lstOf g d with | some xs => .ok (.int xs.length) g | none => .bad
  | .abs, [.int i] => .ok (.int (if i < 0 then -i else i)) g
  | .int, [.int i] => .ok (.int i) g
  | .int, [.bl b] => .ok (.int (if b then 1 else 0)) g
  | .int, [.str s] => match PySem.intText? s with
    | some n => if s.length ≤ 640 then .ok (.int n) g else .bad
    | none => .bad
  | .str, [.int i] => if i.natAbs.log2 < 1920 then .ok (.str (toString i)) g else .bad
  | .repr, [d] => match py g PYDEEP d with
    | some x => if PyData.showable x && decide (x.shown.length ≤ sizeLine) && decide (x.depth ≤ 64) && (!x.hasDict || !hasL x) then .ok (.str x.shown) g else .bad
    | none => .bad
  | .neg, [.int i] => .ok (.int (-i)) g
  | .isT t, [d] => optB (isM g t d) g
  | .all, [d] => match (lstOf g d).bind blsOf with | some bs => .ok (.bl (bs.all id)) g | none => .bad
  | .any, [d] => match (lstOf g d).bind blsOf with | some bs => .ok (.bl (bs.any id)) g | none => .bad
  | .sum, [d] => match (lstOf g d).bind intsOf with | some ns => .ok (.int ns.sum) g | none => .bad
  | .list t, [d] => match seqOf g d with | some xs => newL t xs g | none => .bad
  | .tuple, [d] => match seqOf g d with | some xs => .ok (.tup xs) g | none => .bad
  | .isNone, [.non] => .ok (.bl true) g
  | .isNone, [_] => .ok (.bl false) g
  | .notNone, [.non] => .ok (.bl false) g
  | .notNone, [_] => .ok (.bl true) g
  | .isTrue, [.bl b] => .ok (.bl b) g
  | .upper, [.str s] => if s.length ≤ 5592405 then .ok (.str (Txt.upper s)) g else .bad
  | .add _, [.int i, .int j] => .ok (.int (i + j)) g
  | .add _, [.str i, .str j] => if i.length + j.length ≤ sizeLine then .ok (.str (i ++ j)) g else .bad
  | .add _, [.tup xs, .tup ys] => if xs.length + ys.length ≤ sizeLine then .ok (.tup (xs ++ ys)) g else .bad
  | .add t, [a, b] => match lstOf g a, lstOf g b with
    | some xs, some ys => if xs.length + ys.length ≤ sizeLine then newL t (xs ++ ys) g else .bad
    | _, _ => .bad
  | .sub, [.int i, .int j] => .ok (.int (i - j)) g
  | .mul, [.int i, .int j] => if i.natAbs.log2 + j.natAbs.log2 < 1000000 then .ok (.int (i * j)) g else .bad
  | .fdiv, [.int i, .int j] => if 0 < j ∧ j.natAbs.log2 < 9000 then .ok (.int (i / j)) g else .bad
  | .mod, [.int i, .int j] => if 0 < j then .ok (.int (i % j)) g else .bad
  | .pow, [.int i, .int j] => if 0 ≤ j ∧ j ≤ 1000000 ∧ i.natAbs < 2 ^ 64 then .ok (.int (i ^ j.toNat)) g else .bad
  | .eq, [a, b] => optB (eqM g a b) g
  | .ne, [a, b] => optB ((eqM g a b).map (!·)) g
  | .lt, [.int i, .int j] => .ok (.bl (decide (i < j))) g
  | .le, [.int i, .int j] => .ok (.bl (decide (i ≤ j))) g
  | .gt, [.int i, .int j] => .ok (.bl (decide (j < i))) g
  | .ge, [.int i, .int j] => .ok (.bl (decide (j ≤ i))) g
  | .isin, [a, b] => optB (inM g a b) g
  | .notin, [a, b] => optB ((inM g a b).map (!·)) g
  | .ix, [a, .int i] => opt (ixM g a i) g
  | .max, [.int i, .int j] => .ok (.int (if j > i then j else i)) g
  | .min, [.int i, .int j] => .ok (.int (if j < i then j else i)) g
  | .join, [.str a, d] => match (seqOf g d).bind strsOf with
    | some ys => if (ys.map (·.length)).sum + ys.length * a.length ≤ 16777216 then .ok (.str (Txt.join a ys)) g else .bad
    | none => .bad
  | .sindex, [.str a, .str b] => if 0 ≤ Txt.find a b then .ok (.int (Txt.find a b)) g else .bad
  | .partition, [.str a, .str b] => if b.length ≠ 0 ∧ a.length ≤ sizeLine then .ok (.tup [.str (Txt.partition a b).1, .str (Txt.partition a b).2.1, .str (Txt.partition a b).2.2]) g else .bad
  | .append, [.ref n, d] => match g[n]? with
    | some (.lst xs) => if xs.length < sizeLine then .ok .non (g.set n (.lst (xs ++ [d]))) else .bad
    | _ => .bad
  | .insert, [.ref n, .int i, d] => if i = 0 then (match g[n]? with
    | some (.lst xs) => if xs.length < sizeLine then .ok .non (g.set n (.lst (d :: xs))) else .bad
    | _ => .bad) else .bad
  | .fs, [.str s] => if s.length ≤ sizeLine then .ok (.str s) g else .bad
  | .fs, [.int i] => if i.natAbs.log2 < 1920 then .ok (.str (toString i)) g else .bad
  | _, _ => .bad

def calmOp : Op → Bool
  | .all | .any | .sum | .max | .min | .sindex => true
  | _ => false
/-- within an except suite some operations are not served -/
def opC (calm : Bool) (o : Op) (ds : List D) (g : G) : R D := if calmOp o && !calm then .bad else opM o ds g
theorem opC_calm (o : Op) (ds : List D) (g : G) : opC true o ds g = opM o ds g := by simp [opC]
/-- a built-in method's receiver is of its type -/
def rcvM (o : Op) (d : D) (g : G) : Bool :=
  match o, d with
  | .join, .str _ | .sindex, .str _ | .partition, .str _ | .upper, .str _ => true
  | .append, d | .insert, d => (lstOf g d).isSome
  | _, _ => false
inductive SK where
  | seq | rng1 | rng2 | enum | zip
  deriving DecidableEq
inductive Tgt where
  | nm (i : Nat) | tp (is : List Nat)

inductive ME where
  | k (d : D) | v (i : Nat)
  | op (o : Op) (as : List ME)
  | bm (o : Op) (r : ME) (as : List ME)
  | js (es : List ME)
  | sl (t : Bool) (a : ME) (lo hi : Option ME)
  | and (a b : ME) | or (a b : ME) | not (a : ME) | ife (c a b : ME)
  | chain (o1 o2 : Op) (a b c : ME)
  | tup (es : List ME) | lst (t : Bool) (es : List ME) | dct (t : Bool) (ks : List ME) (vs : List ME)
  | comp (t : Bool) (ws : List Nat) (sk : SK) (src : List ME) (tg : Tgt) (cs : List ME) (e : ME)
  | call (f : Nat) (as ks : List ME) (sel : List (Nat ⊕ D))
  | meth (c f : Nat) (m : Str) (o : ME) (as ks : List ME) (sel : List (Nat ⊕ D))
  | mk (c f : Nat) (as ks : List ME) (sel : List (Nat ⊕ D))
  | fld (k : Nat) (f : Str) (a : ME)
  | efld (i : Nat) (f : Str) | eis (i : Nat) (cs : List Nat)

structure Cfg where
  call : Nat → List D → G → R D
  hcall : Nat → List D → G → R D
  calm : Bool
  loop : Nat
  cur : Option (Nat × List (Str × D))

def wipeE (ρ : Env) : List Nat → Env
  | [] => ρ
  | v :: vs => (wipeE ρ vs).set v none
def assignT (is : List Nat) (xs : List D) (ρ : Env) : Env := (is.zip xs).foldl (fun ρ p => ρ.set p.1 (some p.2)) ρ
def bindT (g : G) (tg : Tgt) (d : D) (ρ : Env) : Option Env :=
  match tg with
  | .nm i => some (ρ.set i (some d))
  | .tp is => match seqOf g d with
    | some xs => if xs.length = is.length then some (assignT is xs ρ) else none
    | none => none
def selD (ds : List D) : List (Nat ⊕ D) → Option (List D)
  | [] => some []
  | .inl i :: r => match ds[i]?, selD ds r with | some d, some xs => some (d :: xs) | _, _ => none
  | .inr d :: r => (selD ds r).map (d :: ·)
/-- the cells that must stand while they are walked -/
abbrev Watch := List (Nat × List D)
def Stands (g : G) (w : Watch) : Prop := ∀ p ∈ w, g[p.1]? = some (.lst p.2)
def watchOf : D → List D → Watch
  | .ref n, xs => [(n, xs)]
  | _, _ => []
/-- what a for walks -/
def srcM (sk : SK) (ds : List D) (g : G) : Option (List D × Watch) :=
  match sk, ds with
  | .seq, [.tup xs] => some (xs, [])
  | .seq, [.str s] => some (s.cps.toList.map fun c => .str ⟨#[c]⟩, [])
  | .seq, [d] => (lstOf g d).map fun xs => (xs, watchOf d xs)
  | .rng1, [.int n] => if -(2 ^ 62) ≤ n ∧ n < 2 ^ 62 then some ((List.range n.toNat).map fun (k : Nat) => D.int (0 + (k : Int)), []) else none
  | .rng2, [.int a, .int b] => if -(2 ^ 62) ≤ a ∧ a < 2 ^ 62 ∧ -(2 ^ 62) ≤ b ∧ b < 2 ^ 62 then some ((List.range (b - a).toNat).map fun (k : Nat) => D.int (a + (k : Int)), []) else none
  | .enum, [d] => (lstOf g d).map fun xs => (xs.zipIdx.map fun p => .tup [.int p.2, p.1], watchOf d xs)
  | .zip, [a, b] => match a, b with
    | .tup xs, .tup ys => some (List.zipWith (fun x y => .tup [x, y]) xs ys, [])
    | _, _ => match lstOf g a, lstOf g b with
      | some xs, some ys => some (List.zipWith (fun x y => .tup [x, y]) xs ys, watchOf a xs ++ watchOf b ys)
      | _, _ => none
  | _, _ => none
def cutD {α : Type} (xs : List α) (lo hi : Option Int) : List α := (xs.drop (HT.sIx xs.length 0 lo)).take (HT.sIx xs.length xs.length hi - HT.sIx xs.length 0 lo)
def slM (t : Bool) (d : D) (lo hi : Option Int) (g : G) : R D :=
  match d with
  | .tup xs => .ok (.tup (cutD xs lo hi)) g
  | .str s => if s.length ≤ sizeLine then .ok (.str (cutS s lo hi)) g else .bad
  | d => match lstOf g d with
    | some xs => newL t (cutD xs lo hi) g
    | none => .bad
def keyOf : D → Option Key
  | .int i => some (.inl i)
  | .str s => some (.inr s)
  | _ => none

open Classical in
/-- a comprehension's turns: f gives the element, or none where a test fails -/
noncomputable def compM (f : Env → G → R (Option D)) (tg : Tgt) (ρ : Env) (w : Watch) : List D → List D → G → R (List D)
  | [], acc, g => if Stands g w then .ok acc g else .bad
  | x :: xs, acc, g => if Stands g w then (match bindT g tg x ρ with
      | none => .bad
      | some ρ' => match f ρ' g with
        | .ok (some y) g1 => if acc.length < sizeLine then compM f tg ρ w xs (acc ++ [y]) g1 else .bad
        | .ok none g1 => compM f tg ρ w xs acc g1
        | _ => .bad)
      else .bad

mutual
noncomputable def evE (c : Cfg) : ME → Env → G → R D
  | .k d, _, g => .ok d g
  | .v i, ρ, g => match ρ[i]? with | some (some d) => .ok d g | _ => .bad
  | .op o as, ρ, g => (evEs c as ρ g).bind fun ds g1 => opC c.calm o ds g1
  | .bm o r as, ρ, g => (evE c r ρ g).bind fun d g1 => if rcvM o d g1 then ((evEs c as ρ g1).bind fun ds g2 => opC c.calm o (d :: ds) g2) else .bad
  | .js es, ρ, g => (evJ c es ⟨#[]⟩ ρ g).bind fun s g1 => .ok (.str s) g1
  | .sl t a lo hi, ρ, g => (evE c a ρ g).bind fun d g1 => (evO c lo ρ g1).bind fun l g2 => (evO c hi ρ g2).bind fun h g3 => slM t d l h g3
  | .and a b, ρ, g => (evE c a ρ g).bind fun d g1 => match truM g1 d with | some true => evE c b ρ g1 | some false => .ok d g1 | none => .bad
  | .or a b, ρ, g => (evE c a ρ g).bind fun d g1 => match truM g1 d with | some false => evE c b ρ g1 | some true => .ok d g1 | none => .bad
  | .not a, ρ, g => (evE c a ρ g).bind fun d g1 => optB ((truM g1 d).map (!·)) g1
  | .ife t a b, ρ, g => (evE c t ρ g).bind fun d g1 => match truM g1 d with | some true => evE c a ρ g1 | some false => evE c b ρ g1 | none => .bad
  | .chain o1 o2 a b e, ρ, g => (evE c a ρ g).bind fun x g1 => (evE c b ρ g1).bind fun y g2 => (opM o1 [x, y] g2).bind fun r g3 =>
      match r with
      | .bl true => (evE c e ρ g3).bind fun z g4 => opM o2 [y, z] g4
      | .bl false => .ok (.bl false) g3
      | _ => .bad
  | .tup es, ρ, g => (evEs c es ρ g).bind fun ds g1 => if ds.length ≤ sizeLine then .ok (.tup ds) g1 else .bad
  | .lst t es, ρ, g => (evEs c es ρ g).bind fun ds g1 => if ds.length ≤ sizeLine then newL t ds g1 else .bad
  | .dct t [] [], _, g => newD t [] [] g
  | .dct _ _ _, _, _ => .bad
  | .comp t ws sk src tg cs e, ρ, g => if c.calm = true then (evEs c src ρ g).bind fun ds g1 =>
      match srcM sk ds g1 with
      | some (xs, w) => (compM (fun ρ' g' => (evTs c cs ρ' g').bind fun b g2 => if b then (evE c e ρ' g2).bind fun y g3 => .ok (some y) g3 else .ok none g2) tg (wipeE ρ ws) w xs [] g1).bind fun ys g2 => newL t ys g2
      | none => .bad
      else .bad
  | .call f as ks sel, ρ, g => (evEs c as ρ g).bind fun ds g1 => (evEs c ks ρ g1).bind fun es g2 =>
      if ds.length = as.length ∧ es.length = ks.length then (match selD (ds ++ es) sel with | some xs => c.call f xs g2 | none => .bad) else .bad
  | .meth k f m o as ks sel, ρ, g => (evE c o ρ g).bind fun x g1 =>
      match x with
      | .ref n => match g1[n]? with
        | some (.ins k' fs) => if k' = k ∧ fs.lookup m = none then ((evEs c as ρ g1).bind fun ds g2 => (evEs c ks ρ g2).bind fun es g3 =>
            if ds.length = as.length ∧ es.length = ks.length then (match selD (.ref n :: (ds ++ es)) sel with | some xs => c.call f xs g3 | none => .bad) else .bad) else .bad
        | _ => .bad
      | _ => .bad
  | .mk k f as ks sel, ρ, g => (evEs c as ρ g).bind fun ds g1 => (evEs c ks ρ g1).bind fun es g2 =>
      if ds.length = as.length ∧ es.length = ks.length then (match selD (.ref g2.length :: (ds ++ es)) sel with
        | some xs => (c.call f xs (g2 ++ [.ins k []])).bind fun r g3 => match r with | .non => .ok (.ref g2.length) g3 | _ => .bad
        | none => .bad) else .bad
  | .fld k f a, ρ, g => (evE c a ρ g).bind fun d g1 =>
      match d with
      | .ref n => match g1[n]? with
        | some (.ins k' fs) => if k' = k then opt (fs.lookup f) g1 else .bad
        | _ => .bad
      | _ => .bad
  | .efld i f, ρ, g => match ρ[i]? with | some none => (match c.cur with | some (_, fs) => opt (fs.lookup f) g | none => .bad) | _ => .bad
  | .eis i cs, ρ, g => match ρ[i]? with | some none => (match c.cur with | some (k, _) => .ok (.bl (cs.contains k)) g | none => .bad) | _ => .bad
noncomputable def evO (c : Cfg) : Option ME → Env → G → R (Option Int)
  | none, _, g => .ok none g
  | some e, ρ, g => (evE c e ρ g).bind fun d g1 => match d with | .int i => .ok (some i) g1 | _ => .bad
noncomputable def evEs (c : Cfg) : List ME → Env → G → R (List D)
  | [], _, g => .ok [] g
  | e :: es, ρ, g => (evE c e ρ g).bind fun d g1 => (evEs c es ρ g1).bind fun ds g2 => .ok (d :: ds) g2
/-- the parts of a formatted text -/
noncomputable def evJ (c : Cfg) : List ME → Str → Env → G → R Str
  | [], acc, _, g => .ok acc g
  | e :: es, acc, ρ, g => (evE c e ρ g).bind fun d g1 => match d with | .str y => if (acc ++ y).length ≤ sizeLine then evJ c es (acc ++ y) ρ g1 else .bad | _ => .bad
/-- the tests of a comprehension -/
noncomputable def evTs (c : Cfg) : List ME → Env → G → R Bool
  | [], _, g => .ok true g
  | e :: es, ρ, g => (evE c e ρ g).bind fun d g1 => match truM g1 d with | some true => evTs c es ρ g1 | some false => .ok false g1 | none => .bad
end

/-! ### statements -/
inductive MS where
  | asg (i : Nat) (e : ME)
  | asgT (is : List Nat) (e : ME)
  | par (is : List Nat) (es : List ME)
  | fset (k : Nat) (o : ME) (f : Str) (e : ME)
  | iset (o i e : ME)
  | ex (e : ME)
  | ite (c : ME) (a b : List MS)
  | for_ (tg : Tgt) (sk : SK) (src : List ME) (body : List MS)
  | while_ (c : ME) (body : List MS)
  | ret (e : ME) | retN
  | raise (c : Nat) (fs : List Str) (es : List ME)
  | try_ (body : List MS) (kn : List Nat) (cs : List (List Nat)) (ns : List (Option Nat)) (suites : List (List MS))
  | pass | brk | cont
/-- what a statement comes to -/
inductive S where
  | nx (ρ : Env) (g : G) | rt (d : D) (g : G) | bk (ρ : Env) (g : G) | ct (ρ : Env) (g : G)
  | exc (c : Nat) (fs : List (Str × D)) (ρ : Env) (g : G) | bad
/-- go on with a value -/
def R.thn {α : Type} (r : R α) (ρ : Env) (f : α → G → S) : S :=
  match r with
  | .ok a g => f a g
  | .exc c fs g => .exc c fs ρ g
  | .bad => .bad
@[simp] theorem R.thn_ok {α : Type} (a : α) (g : G) (ρ : Env) (f : α → G → S) : (R.ok a g).thn ρ f = f a g := rfl
@[simp] theorem R.thn_exc {α : Type} (c : Nat) (fs : List (Str × D)) (g : G) (ρ : Env) (f : α → G → S) : (R.exc c fs g : R α).thn ρ f = .exc c fs ρ g := rfl
@[simp] theorem R.thn_bad {α : Type} (ρ : Env) (f : α → G → S) : (R.bad : R α).thn ρ f = .bad := rfl
/-- go on behind a statement -/
def S.nxt (s : S) (f : Env → G → S) : S :=
  match s with
  | .nx ρ g => f ρ g
  | s => s
@[simp] theorem S.nxt_nx (ρ : Env) (g : G) (f : Env → G → S) : (S.nx ρ g).nxt f = f ρ g := rfl
@[simp] theorem S.nxt_rt (d : D) (g : G) (f : Env → G → S) : (S.rt d g).nxt f = .rt d g := rfl
@[simp] theorem S.nxt_exc (c : Nat) (fs : List (Str × D)) (ρ : Env) (g : G) (f : Env → G → S) : (S.exc c fs ρ g).nxt f = .exc c fs ρ g := rfl
@[simp] theorem S.nxt_bad (f : Env → G → S) : S.bad.nxt f = .bad := rfl
@[simp] theorem S.nxt_bk (ρ : Env) (g : G) (f : Env → G → S) : (S.bk ρ g).nxt f = .bk ρ g := rfl
@[simp] theorem S.nxt_ct (ρ : Env) (g : G) (f : Env → G → S) : (S.ct ρ g).nxt f = .ct ρ g := rfl
/-- behind a loop's turn -/
def S.turn (s : S) (f : Env → G → S) : S :=
  match s with
  | .nx ρ g => f ρ g
  | .ct ρ g => f ρ g
  | .bk ρ g => .nx ρ g
  | s => s
@[simp] theorem S.turn_nx (ρ : Env) (g : G) (f : Env → G → S) : (S.nx ρ g).turn f = f ρ g := rfl
@[simp] theorem S.turn_ct (ρ : Env) (g : G) (f : Env → G → S) : (S.ct ρ g).turn f = f ρ g := rfl
@[simp] theorem S.turn_bk (ρ : Env) (g : G) (f : Env → G → S) : (S.bk ρ g).turn f = .nx ρ g := rfl
@[simp] theorem S.turn_rt (d : D) (g : G) (f : Env → G → S) : (S.rt d g).turn f = .rt d g := rfl
@[simp] theorem S.turn_exc (c : Nat) (fs : List (Str × D)) (ρ : Env) (g : G) (f : Env → G → S) : (S.exc c fs ρ g).turn f = .exc c fs ρ g := rfl
@[simp] theorem S.turn_bad (f : Env → G → S) : S.bad.turn f = .bad := rfl
/-- behind an except suite: its name is gone -/
def S.gone (s : S) : Option Nat → S
  | none => s
  | some i => match s with
    | .nx ρ g => .nx (ρ.set i none) g
    | .bk ρ g => .bk (ρ.set i none) g
    | .ct ρ g => .ct (ρ.set i none) g
    | s => s
/-- an except suite raises nothing -/
def S.nox (s : S) : S := match s with | .exc .. => .bad | s => s

open Classical in
noncomputable def forM (body : Env → G → S) (tg : Tgt) (w : Watch) : List D → Env → G → S
  | [], ρ, g => if Stands g w then .nx ρ g else .bad
  | x :: xs, ρ, g => if Stands g w then (match bindT g tg x ρ with
      | none => .bad
      | some ρ' => (body ρ' g).turn fun ρ1 g1 => forM body tg w xs ρ1 g1)
      else .bad
noncomputable def whileM (test : Env → G → R Bool) (body : Env → G → S) : Nat → Env → G → S
  | 0, _, _ => .bad
  | n + 1, ρ, g => (test ρ g).thn ρ fun b g1 => if b then (body ρ g1).turn fun ρ1 g2 => whileM test body n ρ1 g2 else .nx ρ g1

/-- what may be walked within an except suite -/
def hotSrc : List D → Bool
  | [.tup _] => true
  | _ => false
def putD (f : Str) (d : D) : List (Str × D) → List (Str × D)
  | [] => [(f, d)]
  | (k, x) :: r => if k = f then (k, d) :: r else (k, x) :: putD f d r
/-- which clause takes it -/
def clauseOf (k : Nat) : List (List Nat) → Nat → Option Nat
  | [], _ => none
  | cs :: r, j => if cs.contains k then some j else clauseOf k r (j + 1)

mutual
noncomputable def evS (c : Cfg) : MS → Env → G → S
  | .asg i e, ρ, g => (evE c e ρ g).thn ρ fun d g1 => .nx (ρ.set i (some d)) g1
  | .asgT is e, ρ, g => if c.calm = true then (evE c e ρ g).thn ρ fun d g1 => match bindT g1 (.tp is) d ρ with
      | some ρ1 => .nx ρ1 g1
      | none => .bad
      else .bad
  | .par is es, ρ, g => (evEs c es ρ g).thn ρ fun ds g1 => if c.calm = true ∧ ds.length = is.length then .nx (assignT is ds ρ) g1 else .bad
  | .fset k0 o f e, ρ, g => (evE c e ρ g).thn ρ fun d g1 => (evE c o ρ g1).thn ρ fun x g2 => match x with
    | .ref n => match g2[n]? with
      | some (.ins k fs) => if k = k0 ∧ fs.length < 900 then .nx ρ (g2.set n (.ins k (putD f d fs))) else .bad
      | _ => .bad
    | _ => .bad
  | .iset o i e, ρ, g => (evE c e ρ g).thn ρ fun d g1 => (evE c o ρ g1).thn ρ fun x g2 => (evE c i ρ g2).thn ρ fun j g3 => match x with
    | .ref n => match g3[n]?, j with
      | some (.lst xs), .int k => match ixN xs.length k with
        | some m => .nx ρ (g3.set n (.lst (xs.set m d)))
        | none => .bad
      | _, _ => .bad
    | _ => .bad
  | .ex e, ρ, g => (evE c e ρ g).thn ρ fun _ g1 => .nx ρ g1
  | .ite t a b, ρ, g => (evE c t ρ g).thn ρ fun d g1 => match truM g1 d with
    | some true => evSs c a ρ g1
    | some false => evSs c b ρ g1
    | none => .bad
  | .for_ tg sk src body, ρ, g => (evEs c src ρ g).thn ρ fun ds g1 => match srcM sk ds g1 with
    | some (xs, w) => if c.calm = true ∨ hotSrc ds = true then forM (fun ρ' g' => evSs c body ρ' g') tg w xs ρ g1 else .bad
    | none => .bad
  | .while_ t body, ρ, g => whileM (fun ρ' g' => (evE c t ρ' g').bind fun d g1 => match truM g1 d with | some b => .ok b g1 | none => .bad)
      (fun ρ' g' => evSs c body ρ' g') c.loop ρ g
  | .ret e, ρ, g => (evE c e ρ g).thn ρ fun d g1 => .rt d g1
  | .retN, _, g => .rt .non g
  | .raise k fs es, ρ, g => if c.calm = true then (evEs c es ρ g).thn ρ fun ds g1 => if ds.length = fs.length then .exc k (fs.zip ds) ρ g1 else .bad else .bad
  | .try_ body kn cs ns suites, ρ, g => if c.calm = true then (match evSs c body ρ g with
    | .exc k fs ρ1 g1 => if k ∈ kn ∧ (ns.all fun o => match o with | some i => decide (i < ρ1.length) | none => true) = true then (match clauseOf k cs 0 with
      | none => .exc k fs ρ1 g1
      | some j => match ns[j]?, evHs { c with calm := false, call := c.hcall, cur := some (k, fs) } suites j (match ns[j]? with | some (some i) => ρ1.set i none | _ => ρ1) g1 with
        | some n, some s => (s.nox).gone n
        | _, _ => .bad) else .bad
    | s => s) else .bad
  | .pass, ρ, g => .nx ρ g
  | .brk, ρ, g => .bk ρ g
  | .cont, ρ, g => .ct ρ g
noncomputable def evSs (c : Cfg) : List MS → Env → G → S
  | [], ρ, g => .nx ρ g
  | s :: r, ρ, g => (evS c s ρ g).nxt fun ρ1 g1 => evSs c r ρ1 g1
noncomputable def evHs (c : Cfg) : List (List MS) → Nat → Env → G → Option S
  | [], _, _, _ => none
  | s :: _, 0, ρ, g => some (evSs c s ρ g)
  | _ :: r, j + 1, ρ, g => evHs c r j ρ g
end

/-! ### defs -/
structure Fn where
  ps : Nat
  slots : Nat
  body : List MS
  /-- what it made is let go: its value frozen -/
  frz : Bool
mutual
def closedD (n : Nat) : D → Bool
  | .tup xs => closedDs n xs
  | .lst xs => closedDs n xs
  | .dct _ ds => closedDs n ds
  | .ref m => m < n
  | _ => true
def closedDs (n : Nat) : List D → Bool
  | [] => true
  | d :: r => closedD n d && closedDs n r
end
def closedC (n : Nat) : Cell → Bool
  | .lst xs => closedDs n xs
  | .dct _ ds => closedDs n ds
  | .ins _ fs => closedDs n (fs.map (·.2))
/-- what is handed back of a def that lets go what it made -/
def frzD (n : Nat) (g : G) (d : D) : Option D :=
  match d with
  | .ref m => if m < n then some d else match g[m]? with
    | some (.lst xs) => if closedDs n xs then some (.lst xs) else none
    | some (.dct ks ds) => if closedDs n ds then some (.dct ks ds) else none
    | _ => none
  | d => if closedD n d then some d else none
open Classical in
noncomputable def fin (f : Fn) (g : G) (d : D) (g1 : G) : R D :=
  if f.frz then (if g1.take g.length = g ∨ ((g1.take g.length).all (closedC g.length) = true ∧ g.length ≤ g1.length) then (match frzD g.length g1 d with
    | some d' => .ok d' (g1.take g.length)
    | none => .bad) else .bad)
  else .ok d g1
/-- the defs of the text, n calls deep -/
noncomputable def callM (tab : Nat → Option Fn) (L : Nat) (calm : Bool) : Nat → Nat → List D → G → R D
  | 0, _, _, _ => .bad
  | n + 1, f, ds, g => match tab f with
    | none => .bad
    | some F => if ds.length = F.ps then (match evSs { call := callM tab L calm n, hcall := callM tab L false n, calm := calm, loop := L, cur := none } F.body (ds.map some ++ List.replicate (F.slots - ds.length) none) g with
      | .nx _ g1 => fin F g .non g1
      | .rt d g1 => fin F g d g1
      | .exc c fs _ g1 => .exc c fs g1
      | _ => .bad) else .bad
end M3
/-! L3Rel: how the small interpreter's values and cells lie in the abstract heap -/
namespace M3
open PySem L2 PyProof.Rows

abbrev Iota := Nat → Addr
/-- the written part, and the objects that no value leads to (a comprehension's list in the making) -/
structure KH where
  K : PySem.W.Frag
  hid : List Addr
/-- a list of the module's own, plain -/
def KLst (K : PySem.W.Frag) (a : Addr) (vs : List V) : Prop := ∃ (its : Array Value) (n : Nat), K.lookup a = some { cls := .type "list", data := .seq its n } ∧ its.size ≤ sizeLine ∧ Vals vs its.toList
/-- a list that is read -/
def RdK (K : PySem.W.Frag) (H : Hp) (a : Addr) (vs : List V) : Prop := Rd H a (.lst vs) ∨ KLst K a vs
theorem RdK.sq {K : PySem.W.Frag} {H : Hp} {a : Addr} {vs : List V} (h : RdK K H a vs) : SqL K H a vs := by
  rcases h with h | ⟨its, n, h1, h2, h3⟩
  · exact .inl h
  · exact .inr ⟨_, its, n, h1, rfl, rfl, rfl, h2, h3⟩
/-- a list that is no cell: frozen in the heap, or of the module -/
def LstAt (K : KH) (ι : Iota) (N : Nat) (H : Hp) (a : Addr) (vs : List V) : Prop := (Rd H a (.lst vs) ∧ (∀ n, n < N → ι n ≠ a) ∧ a ∉ K.hid) ∨ KLst K.K a vs
theorem LstAt.rd {K : KH} {ι : Iota} {N : Nat} {H : Hp} {a : Addr} {vs : List V} (h : LstAt K ι N H a vs) : RdK K.K H a vs := h.elim (fun z => .inl z.1) .inr
mutual
inductive RelD (K : KH) (ι : Iota) (N : Nat) (H : Hp) : D → V → Prop
  | non : RelD K ι N H .non .non
  | bl (b : Bool) : RelD K ι N H (.bl b) (.bl b)
  | int (i : Int) : RelD K ι N H (.int i) (.int i)
  | str (s : Str) : RelD K ι N H (.str s) (.str s)
  | tup {a : Addr} {vs : List V} {xs : List D} : SqT K.K H a vs → RelDs K ι N H xs vs → RelD K ι N H (.tup xs) (.ref a)
  | lst {a : Addr} {vs : List V} {xs : List D} : LstAt K ι N H a vs → RelDs K ι N H xs vs → RelD K ι N H (.lst xs) (.ref a)
  | dct {a : Addr} {kvs : List (Key × V)} {ks : List Key} {ds : List D} : H a = some (.dK kvs) → ((∀ n, n < N → ι n ≠ a) ∧ a ∉ K.hid) → kvs.map (·.1) = ks → RelDs K ι N H ds (kvs.map (·.2)) → RelD K ι N H (.dct ks ds) (.ref a)
  | ref (n : Nat) : n < N → RelD K ι N H (.ref n) (.ref (ι n))
inductive RelDs (K : KH) (ι : Iota) (N : Nat) (H : Hp) : List D → List V → Prop
  | nil : RelDs K ι N H [] []
  | cons {d : D} {v : V} {ds : List D} {vs : List V} : RelD K ι N H d v → RelDs K ι N H ds vs → RelDs K ι N H (d :: ds) (v :: vs)
end
/-- how the heap grows: old cells at their places, what is no cell is kept -/
structure Ext (ι : Iota) (N : Nat) (H : Hp) (ι' : Iota) (N' : Nat) (H' : Hp) : Prop where
  le : N ≤ N'
  same : ∀ n, n < N → ι' n = ι n
  new : ∀ n, N ≤ n → n < N' → H (ι' n) = none
  keep : ∀ b o, H b = some o → (∀ n, n < N → ι n ≠ b) → H' b = some o
  there : ∀ b, H b ≠ none → H' b ≠ none
theorem Ext.refl (ι : Iota) (N : Nat) (H : Hp) : Ext ι N H ι N H := ⟨Nat.le_refl _, fun _ _ => rfl, fun _ h1 h2 => absurd h2 (by omega), fun _ _ h _ => h, fun _ h => h⟩
theorem Ext.trans {ι ι1 ι2 : Iota} {N N1 N2 : Nat} {H H1 H2 : Hp} (a : Ext ι N H ι1 N1 H1) (b : Ext ι1 N1 H1 ι2 N2 H2) : Ext ι N H ι2 N2 H2 where
  le := Nat.le_trans a.le b.le
  same := fun n h => (b.same n (Nat.lt_of_lt_of_le h a.le)).trans (a.same n h)
  new := fun n h1 h2 => by
    by_cases h : n < N1
    · rw [b.same n h]; exact a.new n h1 h
    · have q := b.new n (by omega) h2
      cases e : H (ι2 n) with
      | none => rfl
      | some o => exact absurd q (a.there _ (by rw [e]; simp))
  keep := fun x o h hn => by
    refine b.keep x o (a.keep x o h hn) fun n hn1 => ?_
    by_cases h' : n < N
    · rw [a.same n h']; exact hn n h'
    · intro e
      have q := a.new n (by omega) hn1
      rw [e, h] at q; cases q
  there := fun x h => b.there x (a.there x h)
/-- nothing but growth: no cell is new -/
theorem Ext.same_heap (ι : Iota) (N : Nat) {H H' : Hp} (h : ∀ b o, H b = some o → H' b = some o) : Ext ι N H ι N H' :=
  ⟨Nat.le_refl _, fun _ _ => rfl, fun _ h1 h2 => absurd h2 (by omega), fun b o e _ => h b o e, fun b e => by
    cases q : H b with
    | none => exact absurd q e
    | some o => rw [h b o q]; simp⟩
theorem Ext.alloc {ι : Iota} {N : Nat} {H : Hp} {p : Addr} {o : HO} (hp : H p = none) : Ext ι N H ι N (upd H p o) :=
  Ext.same_heap ι N fun b u e => by rw [upd_ne (ne_of_none e hp)]; exact e
section
variable {K : KH} {ι ι' : Iota} {N N' : Nat} {H H' : Hp}
theorem Ext.fresh (x : Ext ι N H ι' N' H') {a : Addr} {o : HO} (h : H a = some o) (hn : ∀ n, n < N → ι n ≠ a) : ∀ n, n < N' → ι' n ≠ a := fun n h1 => by
  by_cases h' : n < N
  · rw [x.same n h']; exact hn n h'
  · intro e
    have q := x.new n (by omega) h1
    rw [e, h] at q; cases q
theorem Ext.tup (x : Ext ι N H ι' N' H') (hc : ∀ n, n < N → ∀ vs, H (ι n) ≠ some (.tup vs)) (hc2 : ∀ n, n < N → ∀ ob vs, H (ι n) ≠ some (.frz ob vs)) {a : Addr} {vs : List V} (h : SqT K.K H a vs) : SqT K.K H' a vs := by
  rcases h with (h | ⟨o, h⟩) | h
  · exact .inl (.inl (x.keep a _ h fun n hn e => hc n hn vs (by rw [e]; exact h)))
  · exact .inl (.inr ⟨o, x.keep a _ h fun n hn e => hc2 n hn _ _ (by rw [e]; exact h)⟩)
  · exact .inr h
/-- what stands at a cell's place is a list, a dict, an instance -/
def CellHO : HO → Prop
  | .lst _ => True
  | .dK _ => True
  | .ins _ _ _ => True
  | _ => False
/-- the cells' places hold cells -/
def Cells (ι : Iota) (N : Nat) (H : Hp) : Prop := ∀ n, n < N → ∃ o, H (ι n) = some o ∧ CellHO o
theorem LstAt.mono (x : Ext ι N H ι' N' H') {a : Addr} {vs : List V} (h : LstAt K ι N H a vs) : LstAt K ι' N' H' a vs := by
  rcases h with ⟨h, h1, h2⟩ | h
  · rcases h with h | ⟨o, h⟩
    · exact .inl ⟨.inl (x.keep _ _ h h1), x.fresh h h1, h2⟩
    · exact .inl ⟨.inr ⟨o, x.keep _ _ h h1⟩, x.fresh h h1, h2⟩
  · exact .inr h
mutual
theorem RelD.mono (x : Ext ι N H ι' N' H') (c : Cells ι N H) : ∀ {d : D} {v : V}, RelD K ι N H d v → RelD K ι' N' H' d v
  | _, _, .non => .non
  | _, _, .bl b => .bl b
  | _, _, .int i => .int i
  | _, _, .str s => .str s
  | _, _, .tup h hs => .tup (x.tup (fun n hn vs e => by obtain ⟨o, h1, h2⟩ := c n hn; rw [h1] at e; cases e; exact h2) (fun n hn ob vs e => by obtain ⟨o, h1, h2⟩ := c n hn; rw [h1] at e; cases e; exact h2) h) (RelDs.mono x c hs)
  | _, _, .lst h hs => .lst (LstAt.mono x h) (RelDs.mono x c hs)
  | _, _, .dct h hn hk hs => .dct (x.keep _ _ h hn.1) ⟨x.fresh h hn.1, hn.2⟩ hk (RelDs.mono x c hs)
  | _, _, .ref n h => by
    have e := x.same n h
    rw [← e]
    exact .ref n (Nat.lt_of_lt_of_le h x.le)
theorem RelDs.mono (x : Ext ι N H ι' N' H') (c : Cells ι N H) : ∀ {ds : List D} {vs : List V}, RelDs K ι N H ds vs → RelDs K ι' N' H' ds vs
  | _, _, .nil => .nil
  | _, _, .cons h hs => .cons (RelD.mono x c h) (RelDs.mono x c hs)
end
theorem RelDs.length : ∀ {ds : List D} {vs : List V}, RelDs K ι N H ds vs → ds.length = vs.length
  | _, _, .nil => rfl
  | _, _, .cons _ hs => by simp [RelDs.length hs]
theorem RelDs.get : ∀ {ds : List D} {vs : List V} {i : Nat} {d : D}, RelDs K ι N H ds vs → ds[i]? = some d → ∃ v, vs[i]? = some v ∧ RelD K ι N H d v
  | _, _, _, _, .nil, e => by simp at e
  | _, _, 0, _, .cons r _, e => by simp at e; subst e; exact ⟨_, rfl, r⟩
  | _, _, i + 1, d, .cons _ t, e => by
    obtain ⟨u, h1, h2⟩ := RelDs.get (i := i) (d := d) t (by simpa using e)
    exact ⟨u, by simpa using h1, h2⟩
theorem RelDs.append : ∀ {xs ys : List D} {us ws : List V}, RelDs K ι N H xs us → RelDs K ι N H ys ws → RelDs K ι N H (xs ++ ys) (us ++ ws)
  | _, _, _, _, .nil, s => s
  | _, _, _, _, .cons r t, s => .cons r (RelDs.append t s)
theorem RelDs.take : ∀ {xs : List D} {us : List V} (n : Nat), RelDs K ι N H xs us → RelDs K ι N H (xs.take n) (us.take n)
  | _, _, 0, _ => .nil
  | _, _, _ + 1, .nil => .nil
  | _, _, n + 1, .cons r t => .cons r (RelDs.take n t)
theorem RelDs.drop : ∀ {xs : List D} {us : List V} (n : Nat), RelDs K ι N H xs us → RelDs K ι N H (xs.drop n) (us.drop n)
  | _, _, 0, r => r
  | _, _, _ + 1, .nil => .nil
  | _, _, n + 1, .cons _ t => RelDs.drop n t
theorem RelDs.set {d : D} {v : V} (r : RelD K ι N H d v) : ∀ {xs : List D} {us : List V} (i : Nat), RelDs K ι N H xs us → RelDs K ι N H (xs.set i d) (us.set i v)
  | _, _, _, .nil => .nil
  | _, _, 0, .cons _ t => .cons r t
  | _, _, i + 1, .cons q t => .cons q (RelDs.set r i t)
end

/-- the exception that is caught: its object, class, dict, fields, the name's slot -/
structure Exn where
  a : Addr
  k : Nat
  dx : Addr
  fs : List (Str × D)
  slot : Nat
structure Wd where
  K : KH
  cl : Nat → Addr
  exn : Option Exn
def ExcAt (K : KH) (ι : Iota) (N : Nat) (H : Hp) (fs : List (Str × D)) (dx : Addr) : Prop :=
  ∃ fv : List (Str × V), H dx = some (.xd fv) ∧ fv.map (·.1) = fs.map (·.1) ∧ RelDs K ι N H (fs.map (·.2)) (fv.map (·.2))
def CellOk (w : Wd) (ι : Iota) (N : Nat) (H : Hp) (a : Addr) : Cell → Prop
  | .lst xs => ∃ vs, H a = some (.lst vs) ∧ RelDs w.K ι N H xs vs
  | .dct ks ds => ∃ kvs : List (Key × V), H a = some (.dK kvs) ∧ kvs.map (·.1) = ks ∧ RelDs w.K ι N H ds (kvs.map (·.2))
  | .ins c fs => ∃ (dx : Addr) (fv : List (Str × V)), H a = some (.ins (w.cl c) dx fv) ∧ fv.map (·.1) = fs.map (·.1) ∧ RelDs w.K ι N H (fs.map (·.2)) (fv.map (·.2))
structure Rel (w : Wd) (ι : Iota) (g : G) (H : Hp) : Prop where
  inj : ∀ m n, m < g.length → n < g.length → ι m = ι n → m = n
  cell : ∀ n c, g[n]? = some c → CellOk w ι g.length H (ι n) c
  hid : ∀ b ∈ w.K.hid, H b ≠ none
  exn : ∀ x, w.exn = some x → ExcAt w.K ι g.length H x.fs x.dx
structure RelE (w : Wd) (ι : Iota) (N : Nat) (H : Hp) (ρ : Env) (σ : L2.St) : Prop where
  len : ρ.length = σ.length
  at' : ∀ (i : Nat) (d : D), ρ[i]? = some (some d) → ∃ v, σ[i]? = some (some v) ∧ RelD w.K ι N H d v
  exn : ∀ x, w.exn = some x → ρ[x.slot]? = some none → σ[x.slot]? = some (some (.ref x.a))
section
variable {w : Wd} {ι ι' : Iota} {N N' : Nat} {H H' : Hp} {g g' : G} {ρ : Env} {σ : L2.St}
theorem Rel.cells (r : Rel w ι g H) : Cells ι g.length H := fun n hn => by
  have e : g[n]? = some g[n] := List.getElem?_eq_getElem hn
  have h := r.cell n _ e
  cases q : g[n] with
  | lst xs => rw [q] at h; obtain ⟨vs, h1, _⟩ := h; exact ⟨_, h1, trivial⟩
  | dct ks ds => rw [q] at h; obtain ⟨vs, h1, _⟩ := h; exact ⟨_, h1, trivial⟩
  | ins c fs => rw [q] at h; obtain ⟨dx, fv, h1, _⟩ := h; exact ⟨_, h1, trivial⟩
theorem RelE.mono (e : RelE w ι N H ρ σ) (x : Ext ι N H ι' N' H') (c : Cells ι N H) : RelE w ι' N' H' ρ σ :=
  ⟨e.1, fun i d h => let ⟨v, h1, h2⟩ := e.2 i d h; ⟨v, h1, h2.mono x c⟩, e.3⟩
theorem RelE.set (e : RelE w ι N H ρ σ) {d : D} {v : V} (r : RelD w.K ι N H d v) (i : Nat) : RelE w ι N H (ρ.set i (some d)) (σ.set i (some v)) := by
  refine ⟨by simp [e.1], fun j c h => ?_, fun x hx h => ?_⟩
  · by_cases hj : i = j
    · subst hj
      by_cases hl : i < ρ.length
      · rw [List.getElem?_set_self hl] at h
        cases h
        exact ⟨v, List.getElem?_set_self (by rw [← e.1]; exact hl), r⟩
      · rw [List.getElem?_eq_none (by simpa using hl)] at h; cases h
    · rw [List.getElem?_set_ne hj] at h
      obtain ⟨u, h1, h2⟩ := e.2 j c h
      exact ⟨u, by rw [List.getElem?_set_ne hj]; exact h1, h2⟩
  · by_cases hj : i = x.slot
    · rw [hj] at h
      by_cases hl : x.slot < ρ.length
      · rw [List.getElem?_set_self hl] at h; cases h
      · rw [List.getElem?_eq_none (by simpa using hl)] at h; cases h
    · rw [List.getElem?_set_ne hj] at h
      rw [List.getElem?_set_ne hj]
      exact e.3 x hx h
theorem RelE.unset (e : RelE w ι N H ρ σ) (hx : w.exn = none) (i : Nat) (o : Option V) : RelE w ι N H (ρ.set i none) (σ.set i o) := by
  refine ⟨by simp [e.1], fun j c h => ?_, fun x hx' h => by rw [hx] at hx'; cases hx'⟩
  by_cases hj : i = j
  · subst hj
    by_cases hl : i < ρ.length
    · rw [List.getElem?_set_self hl] at h; cases h
    · rw [List.getElem?_eq_none (by simpa using hl)] at h; cases h
  · rw [List.getElem?_set_ne hj] at h
    obtain ⟨u, h1, h2⟩ := e.2 j c h
    exact ⟨u, by rw [List.getElem?_set_ne hj]; exact h1, h2⟩
theorem RelE.wipe (e : RelE w ι N H ρ σ) (hx : w.exn = none) : ∀ vs : List Nat, RelE w ι N H (wipeE ρ vs) (L2.wipe σ vs)
  | [] => e
  | v :: vs => by
    show RelE w ι N H ((wipeE ρ vs).set v none) ((L2.wipe σ vs).set v none)
    exact (RelE.wipe e hx vs).unset hx v none
theorem ExcAt.mono {K : KH} {fs : List (Str × D)} {dx : Addr} (h : ExcAt K ι N H fs dx) (x : Ext ι N H ι' N' H') (c : Cells ι N H) : ExcAt K ι' N' H' fs dx := by
  obtain ⟨fv, h1, h2, h3⟩ := h
  refine ⟨fv, x.keep _ _ h1 fun n hn z => ?_, h2, h3.mono x c⟩
  obtain ⟨o, k1, k2⟩ := c n hn
  rw [z, h1] at k1
  cases k1
  exact k2
/-- a new object beside: nothing of ours -/
theorem Rel.grow (r : Rel w ι g H) (x : Ext ι g.length H ι g.length H') (hc : ∀ n, n < g.length → H' (ι n) = H (ι n)) : Rel w ι g H' := by
  refine ⟨r.inj, fun n c h => ?_, fun b hb => x.there b (r.hid b hb), fun y hy => (r.exn y hy).mono x r.cells⟩
  have hn : n < g.length := (List.getElem?_eq_some_iff.mp h).1
  have q := r.cell n c h
  have m := fun {ds vs} (z : RelDs w.K ι g.length H ds vs) => z.mono x r.cells
  cases c with
  | lst xs => obtain ⟨vs, h1, h2⟩ := q; exact ⟨vs, by rw [hc n hn]; exact h1, m h2⟩
  | dct ks ds => obtain ⟨kvs, h1, h2, h3⟩ := q; exact ⟨kvs, by rw [hc n hn]; exact h1, h2, m h3⟩
  | ins k fs => obtain ⟨dx, fv, h1, h2, h3⟩ := q; exact ⟨dx, fv, by rw [hc n hn]; exact h1, h2, m h3⟩
theorem Rel.alloc (r : Rel w ι g H) {p : Addr} {o : HO} (hp : H p = none) : Rel w ι g (upd H p o) :=
  r.grow (Ext.alloc hp) fun n hn => upd_ne (by
    obtain ⟨u, h1, _⟩ := r.cells n hn
    exact ne_of_none h1 hp)
/-- a new cell: its object stands at p, which is no other cell's place -/
def iotaSet (ι : Iota) (n : Nat) (p : Addr) : Iota := fun m => if m = n then p else ι m
theorem iotaSet_same {ι : Iota} {n : Nat} {p : Addr} : iotaSet ι n p n = p := if_pos rfl
theorem iotaSet_ne {ι : Iota} {m n : Nat} {p : Addr} (h : m ≠ n) : iotaSet ι n p m = ι m := if_neg h
theorem Ext.push {p : Addr} {o : HO} (hp : H p = none) : Ext ι N H (iotaSet ι N p) (N + 1) (upd H p o) where
  le := Nat.le_succ _
  same := fun n h => iotaSet_ne (by omega)
  new := fun n h1 h2 => by
    have e : n = N := by omega
    subst e; rw [iotaSet_same]; exact hp
  keep := fun b u e _ => by rw [upd_ne (ne_of_none e hp)]; exact e
  there := fun b e => by
    cases q : H b with
    | none => exact absurd q e
    | some u => rw [upd_ne (ne_of_none q hp), q]; simp
theorem Rel.push (r : Rel w ι g H) {p : Addr} {o : HO} {c : Cell} (hp : H p = none) (hc : CellOk w (iotaSet ι g.length p) (g.length + 1) (upd H p o) p c) :
    Rel w (iotaSet ι g.length p) (g ++ [c]) (upd H p o) := by
  have hl : (g ++ [c]).length = g.length + 1 := by simp
  have np : ∀ n, n < g.length → ι n ≠ p := fun n hn => by
    obtain ⟨u, h1, _⟩ := r.cells n hn
    exact ne_of_none h1 hp
  refine ⟨fun m n hm hn e => ?_, fun n k h => ?_, fun b hb => (Ext.push (ι := ι) (N := g.length) hp).there b (r.hid b hb), fun y hy => by rw [hl]; exact (r.exn y hy).mono (Ext.push hp) r.cells⟩
  · rw [hl] at hm hn
    by_cases h1 : m = g.length <;> by_cases h2 : n = g.length
    · rw [h1, h2]
    · rw [h1, iotaSet_same, iotaSet_ne h2] at e
      exact absurd e.symm (np n (by omega))
    · rw [h2, iotaSet_same, iotaSet_ne h1] at e
      exact absurd e (np m (by omega))
    · rw [iotaSet_ne h1, iotaSet_ne h2] at e
      exact r.inj m n (by omega) (by omega) e
  · rw [hl]
    have x : Ext ι g.length H (iotaSet ι g.length p) (g.length + 1) (upd H p o) := Ext.push hp
    by_cases h1 : n < g.length
    · rw [List.getElem?_append_left h1] at h
      have q := r.cell n k h
      have m := fun {ds vs} (z : RelDs w.K ι g.length H ds vs) => z.mono x r.cells
      have e : upd H p o (ι n) = H (ι n) := upd_ne (np n h1)
      rw [iotaSet_ne (Nat.ne_of_lt h1)]
      cases k with
      | lst xs => obtain ⟨vs, h1, h2⟩ := q; exact ⟨vs, by rw [e]; exact h1, m h2⟩
      | dct ks ds => obtain ⟨kvs, h1, h2, h3⟩ := q; exact ⟨kvs, by rw [e]; exact h1, h2, m h3⟩
      | ins k fs => obtain ⟨dx, fv, h1, h2, h3⟩ := q; exact ⟨dx, fv, by rw [e]; exact h1, h2, m h3⟩
    · have h2 : n < g.length + 1 := by
        have := (List.getElem?_eq_some_iff.mp h).1
        rwa [hl] at this
      have e : n = g.length := by omega
      subst e
      rw [List.getElem?_append_right (Nat.le_refl _), Nat.sub_self] at h
      simp at h
      subst h
      rw [iotaSet_same]
      exact hc
/-- a cell is written -/
theorem Ext.write {n : Nat} {o : HO} (hn : n < N) : Ext ι N H ι N (upd H (ι n) o) where
  le := Nat.le_refl _
  same := fun _ _ => rfl
  new := fun _ h1 h2 => absurd h2 (by omega)
  keep := fun b u e h => by rw [upd_ne (fun z => h n hn z.symm)]; exact e
  there := fun b e => by
    by_cases hb : b = ι n
    · rw [hb, upd_same]; simp
    · rw [upd_ne hb]; exact e
theorem Rel.write (r : Rel w ι g H) {n : Nat} {o : HO} {c : Cell} (hn : n < g.length) (hc : CellOk w ι g.length (upd H (ι n) o) (ι n) c) : Rel w ι (g.set n c) (upd H (ι n) o) := by
  have x : Ext ι g.length H ι g.length (upd H (ι n) o) := Ext.write hn
  refine ⟨fun m k hm hk e => r.inj m k (by simpa using hm) (by simpa using hk) e, fun k d h => ?_, fun b hb => x.there b (r.hid b hb), fun y hy => by rw [List.length_set]; exact (r.exn y hy).mono x r.cells⟩
  rw [List.length_set]
  by_cases hk : n = k
  · subst hk
    rw [List.getElem?_set_self hn] at h
    cases h
    exact hc
  · rw [List.getElem?_set_ne hk] at h
    have hkl : k < g.length := (List.getElem?_eq_some_iff.mp h).1
    have q := r.cell k d h
    have m := fun {ds vs} (z : RelDs w.K ι g.length H ds vs) => z.mono x r.cells
    have e : upd H (ι n) o (ι k) = H (ι k) := upd_ne fun z => hk (r.inj k n hkl hn z).symm
    cases d with
    | lst xs => obtain ⟨vs, h1, h2⟩ := q; exact ⟨vs, by rw [e]; exact h1, m h2⟩
    | dct ks ds => obtain ⟨kvs, h1, h2, h3⟩ := q; exact ⟨kvs, by rw [e]; exact h1, h2, m h3⟩
    | ins k fs => obtain ⟨dx, fv, h1, h2, h3⟩ := q; exact ⟨dx, fv, by rw [e]; exact h1, h2, m h3⟩
/-- a list value's object -/
theorem lst_at (r : Rel w ι g H) {d : D} {v : V} {xs : List D} (h : RelD w.K ι g.length H d v) (e : lstOf g d = some xs) : ∃ a vs, v = .ref a ∧ RdK w.K.K H a vs ∧ RelDs w.K ι g.length H xs vs := by
  cases h with
  | lst h1 h3 => simp only [lstOf, Option.some.injEq] at e; subst e; exact ⟨_, _, rfl, h1.rd, h3⟩
  | ref n hn =>
    simp only [lstOf] at e
    have q : g[n]? = some g[n] := List.getElem?_eq_getElem hn
    have c := r.cell n _ q
    rw [q] at e
    cases k : g[n] with
    | lst ys =>
      rw [k] at e c
      cases e
      obtain ⟨vs, h1, h2⟩ := c
      exact ⟨_, vs, rfl, .inl (.inl h1), h2⟩
    | dct _ _ => rw [k] at e; cases e
    | ins _ _ => rw [k] at e; cases e
  | _ => simp [lstOf] at e
theorem cell_lst (r : Rel w ι g H) {n : Nat} {xs : List D} (e : g[n]? = some (.lst xs)) : n < g.length ∧ ∃ vs, H (ι n) = some (.lst vs) ∧ RelDs w.K ι g.length H xs vs :=
  ⟨(List.getElem?_eq_some_iff.mp e).1, r.cell n _ e⟩
end
end M3
/-! L3Fin: what is wanted behind a value of the small interpreter; the readings made of it -/
namespace M3
open PySem L2 PyProof.Rows

abbrev ExcOk (w : Wd) (ι : Iota) (N : Nat) (H : Hp) (fs : List (Str × D)) (dx : Addr) : Prop := ExcAt w.K ι N H fs dx
abbrev RL (α β : Type) := Iota → Nat → Hp → α → β → Prop
def FinR {α β : Type} (Rl : RL α β) (w : Wd) (W : WX) (ι : Iota) (N : Nat) (H : Hp) (σ : L2.St) (r : R α) (Q : β → Hp → Prop) : Prop :=
  match r with
  | .ok d g => ∀ ι' H' v, Ext ι N H ι' g.length H' → Rel w ι' g H' → Rl ι' g.length H' d v → Q v H'
  | .exc c fs g => ∀ ι' H' dx, Ext ι N H ι' g.length H' → Rel w ι' g H' → ExcOk w ι' g.length H' fs dx → W (.ref (w.cl c)) (some dx) σ H'
  | .bad => False
abbrev rD (w : Wd) : RL D V := fun ι N H d v => RelD w.K ι N H d v
abbrev rDs (w : Wd) : RL (List D) (List V) := fun ι N H d v => RelDs w.K ι N H d v
abbrev rEq (α : Type) : RL α α := fun _ _ _ a b => a = b
abbrev FinE (w : Wd) := FinR (rD w) w
section
variable {α β γ δ : Type} {Rl : RL α β} {Rl2 : RL γ δ} {w : Wd} {W : WX} {ι ι1 : Iota} {N N1 : Nat} {H H1 : Hp} {σ : L2.St} {r : R α} {Q Q' : β → Hp → Prop}
theorem FinR.from (x : Ext ι N H ι1 N1 H1) (h : FinR Rl w W ι N H σ r Q) : FinR Rl w W ι1 N1 H1 σ r Q := by
  cases r with
  | ok d g => exact fun ι' H' v e => h ι' H' v (x.trans e)
  | exc c fs g => exact fun ι' H' dx e => h ι' H' dx (x.trans e)
  | bad => exact h
theorem FinR.imp (h : FinR Rl w W ι N H σ r Q) (k : ∀ v H', Q v H' → Q' v H') : FinR Rl w W ι N H σ r Q' := by
  cases r with
  | ok d g => exact fun ι' H' v e a b => k _ _ (h ι' H' v e a b)
  | exc c fs g => exact h
  | bad => exact h
/-- what stands behind the first of two -/
def Mid (Rl : RL α β) (w : Wd) (ι : Iota) (N : Nat) (H : Hp) (P : Iota → G → α → Hp → Prop) (v : β) (H1 : Hp) : Prop :=
  ∃ ι1 g1 d, Ext ι N H ι1 (List.length g1) H1 ∧ Rel w ι1 g1 H1 ∧ Rl ι1 g1.length H1 d v ∧ P ι1 g1 d H1
theorem FinR.bind {f : α → G → R γ} {Q : δ → Hp → Prop} (h : FinR Rl2 w W ι N H σ (r.bind f) Q) :
    FinR Rl w W ι N H σ r (Mid Rl w ι N H fun ι1 g1 d H1 => FinR Rl2 w W ι1 g1.length H1 σ (f d g1) Q) := by
  cases r with
  | ok d g => exact fun ι' H' v e a b => ⟨ι', g, d, e, a, b, FinR.from e h⟩
  | exc c fs g => exact h
  | bad => exact h
theorem FinR.here {d : α} {g : G} {v : β} (h : FinR Rl w W ι g.length H σ (.ok d g) Q) (r : Rel w ι g H) (k : Rl ι g.length H d v) : Q v H := h ι H v (Ext.refl _ _ _) r k
end

/-- the reading of an expression -/
def tE (w : Wd) (W : WX) (f : Env → G → R D) : TE := fun σ H Q => ∃ ι ρ g, Rel w ι g H ∧ RelE w ι g.length H ρ σ ∧ FinE w W ι g.length H σ (f ρ g) Q
def tA (w : Wd) (W : WX) (f : Env → G → R (List D)) : TA := fun σ H Q => ∃ ι ρ g, Rel w ι g H ∧ RelE w ι g.length H ρ σ ∧ FinR (rDs w) w W ι g.length H σ (f ρ g) Q
def tT (w : Wd) (W : WX) (f : Env → G → R Bool) : TT := fun σ H Q => ∃ ι ρ g, Rel w ι g H ∧ RelE w ι g.length H ρ σ ∧ FinR (rEq Bool) w W ι g.length H σ (f ρ g) Q
def tOI (w : Wd) (W : WX) (f : Env → G → R (Option Int)) : TO := fun σ H Q => ∃ ι ρ g, Rel w ι g H ∧ RelE w ι g.length H ρ σ ∧ FinR (rEq (Option Int)) w W ι g.length H σ (f ρ g) Q
/-- behind a statement -/
def FinS (w : Wd) (W : WX) (ι : Iota) (N : Nat) (H : Hp) (s : S) (D : Ends) : Prop :=
  match s with
  | .nx ρ g => ∀ ι' H' σ, Ext ι N H ι' g.length H' → Rel w ι' g H' → RelE w ι' g.length H' ρ σ → D.nx σ H'
  | .rt d g => ∀ ι' H' v, Ext ι N H ι' g.length H' → Rel w ι' g H' → RelD w.K ι' g.length H' d v → D.rt v H'
  | .bk ρ g => ∀ ι' H' σ, Ext ι N H ι' g.length H' → Rel w ι' g H' → RelE w ι' g.length H' ρ σ → D.bk σ H'
  | .ct ρ g => ∀ ι' H' σ, Ext ι N H ι' g.length H' → Rel w ι' g H' → RelE w ι' g.length H' ρ σ → D.ct σ H'
  | .exc c fs ρ g => ∀ ι' H' dx σ, Ext ι N H ι' g.length H' → Rel w ι' g H' → RelE w ι' g.length H' ρ σ → ExcOk w ι' g.length H' fs dx → W (.ref (w.cl c)) (some dx) σ H'
  | .bad => False
def tS (w : Wd) (W : WX) (f : Env → G → S) : TS := fun D σ H => ∃ ι ρ g, Rel w ι g H ∧ RelE w ι g.length H ρ σ ∧ FinS w W ι g.length H (f ρ g) D
section
variable {α β : Type} {Rl : RL α β} {w : Wd} {W : WX} {ι ι1 : Iota} {N N1 : Nat} {H H1 : Hp} {σ : L2.St} {r : R α} {s : S} {D : Ends} {ρ : Env} {g : G}
theorem FinS.from (x : Ext ι N H ι1 N1 H1) (h : FinS w W ι N H s D) : FinS w W ι1 N1 H1 s D := by
  cases s with
  | nx ρ g => exact fun ι' H' v e => h ι' H' v (x.trans e)
  | rt d g => exact fun ι' H' v e => h ι' H' v (x.trans e)
  | bk ρ g => exact fun ι' H' v e => h ι' H' v (x.trans e)
  | ct ρ g => exact fun ι' H' v e => h ι' H' v (x.trans e)
  | exc c fs ρ g => exact fun ι' H' dx σ e => h ι' H' dx σ (x.trans e)
  | bad => exact h
theorem FinS.thn {f : α → G → S} (rl : Rel w ι g H) (e : RelE w ι g.length H ρ σ) (h : FinS w W ι g.length H (r.thn ρ f) D) :
    FinR Rl w W ι g.length H σ r (Mid Rl w ι g.length H fun ι1 g1 d H1 => RelE w ι1 g1.length H1 ρ σ ∧ FinS w W ι1 g1.length H1 (f d g1) D) := by
  cases r with
  | ok d g' => exact fun ι' H' v x a b => ⟨ι', g', d, x, a, b, e.mono x rl.cells, FinS.from x h⟩
  | exc c fs g' => exact fun ι' H' dx x a b => h ι' H' dx σ x a (e.mono x rl.cells) b
  | bad => exact h
theorem FinS.nxt {f : Env → G → S} (h : FinS w W ι N H (s.nxt f) D) : FinS w W ι N H s { D with nx := fun σ H1 => ∃ ι1 ρ1 g1, Rel w ι1 g1 H1 ∧ RelE w ι1 g1.length H1 ρ1 σ ∧ FinS w W ι1 g1.length H1 (f ρ1 g1) D } := by
  cases s with
  | nx ρ g => exact fun ι' H' σ e a b => ⟨ι', ρ, g, a, b, FinS.from e h⟩
  | rt d g => exact h
  | bk ρ g => exact h
  | ct ρ g => exact h
  | exc c fs ρ g => exact h
  | bad => exact h
end
theorem PE.imp {X : Cx} {e : Expr} {t t' : TE} (h : PE X e t) (k : ∀ σ H Q, t' σ H Q → t σ H Q) : PE X e t' := ⟨fun pins s σ H Q I q => h.run pins s σ H Q I (k σ H Q q)⟩
theorem PT.imp {X : Cx} {e : Expr} {t t' : TT} (h : PT X e t) (k : ∀ σ H Q, t' σ H Q → t σ H Q) : PT X e t' := ⟨fun pins s σ H Q I q => h.run pins s σ H Q I (k σ H Q q)⟩
theorem PW.imp {X : Cx} {e : Expr} {t t' : TT} (h : PW X e t) (k : ∀ σ H Q, t' σ H Q → t σ H Q) : PW X e t' := ⟨fun wh pins s σ H Q I q => h.run wh pins s σ H Q I (k σ H Q q)⟩
theorem PA.imp {X : Cx} {e : List Expr} {t t' : TA} (h : PA X e t) (k : ∀ σ H Q, t' σ H Q → t σ H Q) : PA X e t' := ⟨fun ps pins s σ H Q I q => h.run ps pins s σ H Q I (k σ H Q q)⟩
theorem PO.imp {X : Cx} {e : Option Expr} {t t' : TO} (h : PO X e t) (k : ∀ σ H Q, t' σ H Q → t σ H Q) : PO X e t' := ⟨fun pins s σ H Q I q => h.run pins s σ H Q I (k σ H Q q)⟩
theorem PS.imp {X : Cx} {e : Stmt} {t t' : TS} (h : PS X e t) (k : ∀ D σ H, t' D σ H → t D σ H) : PS X e t' := ⟨fun pins s σ H D I q => h.run pins s σ H D I (k D σ H q)⟩
theorem PSs.imp {X : Cx} {e : List Stmt} {t t' : TS} (h : PSs X e t) (k : ∀ D σ H, t' D σ H → t D σ H) : PSs X e t' := ⟨fun pins s σ H D I q => h.run pins s σ H D I (k D σ H q)⟩
end M3
/-! L3Op: the operations by values, in the abstract heap -/
namespace M3
open PySem L2 PyProof.Rows

/-- the reading of an operation, by values -/
def rO (w : Wd) (o : Op) : List V → Hp → VK → Prop := fun vs H Q => ∃ W σ ι g ds, Rel w ι g H ∧ RelDs w.K ι (List.length g) H ds vs ∧ FinE w W ι g.length H σ (opM o ds g) Q
section
variable {X : Cx} {w : Wd} {H : Hp} {Q : VK} {o : Op} {x y z : V}
theorem rO1 (h : rO w o [x] H Q) : ∃ W σ ι g d, Rel w ι g H ∧ RelD w.K ι (List.length g) H d x ∧ FinE w W ι g.length H σ (opM o [d] g) Q := by
  obtain ⟨W, σ, ι, g, ds, rl, rs, h⟩ := h
  cases rs with
  | cons r1 rs => cases rs; exact ⟨W, σ, ι, g, _, rl, r1, h⟩
theorem rO2 (h : rO w o [x, y] H Q) : ∃ W σ ι g d e, Rel w ι g H ∧ RelD w.K ι (List.length g) H d x ∧ RelD w.K ι (List.length g) H e y ∧ FinE w W ι g.length H σ (opM o [d, e] g) Q := by
  obtain ⟨W, σ, ι, g, ds, rl, rs, h⟩ := h
  cases rs with
  | cons r1 rs => cases rs with
    | cons r2 rs => cases rs; exact ⟨W, σ, ι, g, _, _, rl, r1, r2, h⟩
/-- a new list comes: frozen, or a cell -/
theorem new_list {W : WX} {σ : L2.St} {ι : Iota} {g : G} {t : Bool} {xs : List D} {vs : List V} (rl : Rel w ι g H) (rs : RelDs w.K ι g.length H xs vs) (h : FinE w W ι g.length H σ (newL t xs g) Q) :
    ∀ p, H p = none → Q (.ref p) (upd H p (.lst vs)) := by
  intro p hp
  cases t with
  | true =>
    have h' : FinE w W ι g.length H σ (.ok (.ref g.length) (g ++ [.lst xs])) Q := h
    have hl : (g ++ [Cell.lst xs]).length = g.length + 1 := by simp
    have x : Ext ι g.length H (iotaSet ι g.length p) (g.length + 1) (upd H p (.lst vs)) := Ext.push hp
    have r' := rl.push (c := .lst xs) hp ⟨vs, upd_same, rs.mono x rl.cells⟩
    have q := h' (iotaSet ι g.length p) (upd H p (.lst vs)) (.ref p)
    rw [hl] at q
    refine q x r' ?_
    have e : iotaSet ι g.length p g.length = p := iotaSet_same
    have k := RelD.ref (K := w.K) (ι := iotaSet ι g.length p) (H := upd H p (.lst vs)) g.length (Nat.lt_succ_self _)
    rw [e] at k
    exact k
  | false =>
    have h' : FinE w W ι g.length H σ (.ok (.lst xs) g) Q := h
    have x : Ext ι g.length H ι g.length (upd H p (.lst vs)) := Ext.alloc hp
    refine h' ι _ _ x (rl.alloc hp) (.lst (.inl ⟨.inl upd_same, fun n hn e => ?_, fun hb => rl.hid p hb hp⟩) (rs.mono x rl.cells))
    obtain ⟨o, h1, _⟩ := rl.cells n hn
    rw [e, hp] at h1; cases h1
/-- a new tuple -/
theorem new_tup {W : WX} {σ : L2.St} {ι : Iota} {g : G} {xs : List D} {vs : List V} (rl : Rel w ι g H) (rs : RelDs w.K ι g.length H xs vs) (h : FinE w W ι g.length H σ (.ok (.tup xs) g) Q) :
    ∀ p, H p = none → Q (.ref p) (upd H p (.tup vs)) := by
  intro p hp
  have x : Ext ι g.length H ι g.length (upd H p (.tup vs)) := Ext.alloc hp
  exact h ι _ _ x (rl.alloc hp) (.tup (SqT.of upd_same) (rs.mono x rl.cells))
/-- a read list's object -/
theorem rd_obj {pins : List (Addr × Obj)} {s : Shared} {σ : L2.St} {l : Addr} {xs : List V} (I : Inv X pins σ H s) (h : RdK X.K H l xs) :
    xs.length ≤ sizeLine ∧ ∃ its n, Vals xs its ∧ s.heap.get? l = some { cls := .type "list", data := .seq its.toArray n } := by
  rcases h with h | ⟨its, n, h1, h2, h3⟩
  · obtain ⟨z, its, n, r, e⟩ := h.ok I.hok
    exact ⟨z, its, n, r, e⟩
  · exact ⟨by rw [h3.length, Array.length_toList]; exact h2, its.toList, n, h3, I.kIn l _ h1⟩
/-- xs + ys of lists that are read -/
theorem cat_lists {pins : List (Addr × Obj)} {s : Shared} {σ : L2.St} {l b : Addr} {xs zs : List V} (I : Inv X pins σ H s) (hx : RdK X.K H l xs) (hz : RdK X.K H b zs) (hl : xs.length + zs.length ≤ sizeLine)
    (q : ∀ p, H p = none → Q (.ref p) (upd H p (.lst (xs ++ zs)))) : wpAny (model X.prog X.w) X.A (binaryOp .Add (.ref l) (.ref b)) (EP X pins σ Q) X.xe s := by
  obtain ⟨_, its, n1, r, e1⟩ := rd_obj I hx
  obtain ⟨_, js, n2, r2, e2⟩ := rd_obj I hz
  have h1 := r.length
  have h2 := r2.length
  refine PySem.P.add_list e1 e2 ?_ (by rw [List.size_toArray, List.size_toArray]; omega)
  have ea : its.toArray ++ js.toArray = (its ++ js).toArray := by simp
  rw [ea]
  exact ⟨.ref _, _, I.lnew (t' := s.toks) (r.append r2) (by rw [List.length_append]; omega), rfl, q _ I.fresh⟩
end
section
variable {X : Cx} {w : Wd}
theorem snd_add (hK : X.K = w.K.K) (t : Bool) : OpR X (binaryOp .Add) (fun x y H Q => rO w (.add t) [x, y] H Q) := by
  intro pins s σ H x y v u Q I rx ry h0
  obtain ⟨W, σ0, ι, g, d, e, rl, r1, r2, h⟩ := rO2 h0
  clear h0
  have lists : ∀ xs ys, lstOf g d = some xs → lstOf g e = some ys → FinE w W ι g.length H σ0 (if xs.length + ys.length ≤ sizeLine then newL t (xs ++ ys) g else .bad) Q →
      wpAny (model X.prog X.w) X.A (binaryOp .Add v u) (EP X pins σ Q) X.xe s := by
    intro xs ys e1 e2 h
    obtain ⟨a, vs, rfl, q1, k1⟩ := lst_at rl r1 e1
    obtain ⟨b, ws, rfl, q2, k2⟩ := lst_at rl r2 e2
    cases rx
    cases ry
    split at h
    · rename_i hz
      rw [k1.length, k2.length] at hz
      rw [← hK] at q1 q2
      exact cat_lists I q1 q2 hz (new_list rl (k1.append k2) h)
    · exact h.elim
  cases r1 with
  | int i => cases r2 with
    | int j => exact op_add pins s σ H _ _ v u Q I rx ry ⟨i, j, rfl, rfl, h.here rl (.int _)⟩
    | _ => exact False.elim h
  | str i => cases r2 with
    | str j =>
      have h' : FinE w W ι g.length H σ0 (if i.length + j.length ≤ sizeLine then .ok (.str (i ++ j)) g else .bad) Q := h
      split at h'
      · rename_i hz
        exact op_add_str pins s σ H _ _ v u Q I rx ry ⟨i, j, rfl, rfl, hz, h'.here rl (.str _)⟩
      · exact h'.elim
    | _ => exact False.elim h
  | tup q1 k1 => cases r2 with
    | tup q2 k2 =>
      rename_i xs _ _ ys
      have h' : FinE w W ι g.length H σ0 (if xs.length + ys.length ≤ sizeLine then .ok (.tup (xs ++ ys)) g else .bad) Q := h
      split at h'
      · rename_i hz
        have l1 := k1.length
        have l2 := k2.length
        rw [← hK] at q1 q2
        refine op_catA pins s σ H _ _ v u Q I rx ry ⟨_, _, _, _, rfl, rfl, q1, q2, by omega, fun e => ?_, fun _ e => ?_, fun _ _ => new_tup rl (k1.append k2) h'⟩
        · subst e
          cases k1
          rw [hK] at q2
          exact h'.here rl (.tup q2 k2)
        · subst e
          cases k2
          rw [hK] at q1
          have e : xs ++ [] = xs := List.append_nil _
          rw [e] at h'
          exact h'.here rl (.tup q1 k1)
      · exact h'.elim
    | _ => exact False.elim h
  | lst a1 a3 => cases r2 with
    | lst b1 b3 => exact lists _ _ rfl rfl h
    | ref n hn =>
      rename_i xs
      have h' : FinE w W ι g.length H σ0 (match lstOf g (.lst xs), lstOf g (.ref n) with | some xs, some ys => if xs.length + ys.length ≤ sizeLine then newL t (xs ++ ys) g else .bad | _, _ => .bad) Q := h
      cases e2 : lstOf g (.ref n) with
      | none => rw [e2] at h'; exact False.elim h'
      | some ys => rw [e2] at h'; exact lists _ _ rfl e2 h'
    | _ => exact False.elim h
  | ref m hm => cases r2 with
    | lst b1 b3 =>
      rename_i xs
      have h' : FinE w W ι g.length H σ0 (match lstOf g (.ref m), lstOf g (.lst xs) with | some xs, some ys => if xs.length + ys.length ≤ sizeLine then newL t (xs ++ ys) g else .bad | _, _ => .bad) Q := h
      cases e2 : lstOf g (.ref m) with
      | none => rw [e2] at h'; exact False.elim h'
      | some ys => rw [e2] at h'; exact lists _ _ e2 rfl h'
    | ref n hn =>
      have h' : FinE w W ι g.length H σ0 (match lstOf g (.ref m), lstOf g (.ref n) with | some xs, some ys => if xs.length + ys.length ≤ sizeLine then newL t (xs ++ ys) g else .bad | _, _ => .bad) Q := h
      cases e1 : lstOf g (.ref m) with
      | none => rw [e1] at h'; exact False.elim h'
      | some xs => cases e2 : lstOf g (.ref n) with
        | none => rw [e1, e2] at h'; exact False.elim h'
        | some ys => rw [e1, e2] at h'; exact lists _ _ e1 e2 h'
    | _ =>
      have h' : FinE w W ι g.length H σ0 (match lstOf g (.ref m), (none : Option (List D)) with | some xs, some ys => if xs.length + ys.length ≤ sizeLine then newL t (xs ++ ys) g else .bad | _, _ => .bad) Q := h
      cases e1 : lstOf g (.ref m) with
      | none => rw [e1] at h'; exact False.elim h'
      | some xs => rw [e1] at h'; exact False.elim h'
  | _ => exact False.elim h

/-- an operation of two ints -/
theorem snd_int2 {o : Op} {f : Value → Value → Sem Value} {C : Int → Int → Prop} {k : Int → Int → V} {kd : Int → Int → D} (ho : OpR X f (rI C k))
    (hk : ∀ i j (K : KH) (ι : Iota) (N : Nat) (H : Hp), RelD K ι N H (kd i j) (k i j))
    (hm : ∀ (d e : D) (g : G), opM o [d, e] g = .bad ∨ ∃ i j, d = .int i ∧ e = .int j ∧ C i j ∧ opM o [d, e] g = .ok (kd i j) g) : OpR X f (fun x y H Q => rO w o [x, y] H Q) := by
  intro pins s σ H x y v u Q I rx ry h0
  obtain ⟨W, σ0, ι, g, d, e, rl, r1, r2, h⟩ := rO2 h0
  clear h0
  rcases hm d e g with e1 | ⟨i, j, rfl, rfl, c, e1⟩
  · rw [e1] at h
    exact False.elim h
  · rw [e1] at h
    cases r1
    cases r2
    exact ho pins s σ H _ _ v u Q I rx ry ⟨i, j, rfl, rfl, c, h.here rl (hk i j _ _ _ _)⟩
/-- both are ints, or nothing comes -/
theorem two_ints {o : Op} {C : Int → Int → Prop} {kd : Int → Int → D} (h1 : ∀ i j g, opM o [.int i, .int j] g = .bad ∨ (C i j ∧ opM o [.int i, .int j] g = .ok (kd i j) g))
    (h2 : ∀ (d e : D) g, (∀ i j, ¬ (d = .int i ∧ e = .int j)) → opM o [d, e] g = .bad) (d e : D) (g : G) :
    opM o [d, e] g = .bad ∨ ∃ i j, d = .int i ∧ e = .int j ∧ C i j ∧ opM o [d, e] g = .ok (kd i j) g := by
  by_cases h : ∃ i j, d = .int i ∧ e = .int j
  · obtain ⟨i, j, rfl, rfl⟩ := h
    rcases h1 i j g with q | ⟨c, q⟩
    · exact .inl q
    · exact .inr ⟨i, j, rfl, rfl, c, q⟩
  · exact .inl (h2 d e g fun i j z => h ⟨i, j, z⟩)
theorem rI_of_rI0 {f : Value → Value → Sem Value} {k : Int → Int → V} (h : OpR X f (rI0 k)) : OpR X f (rI (fun _ _ => True) k) := fun pins s σ H x y v u Q I rx ry ⟨i, j, a, b, _, q⟩ => h pins s σ H x y v u Q I rx ry ⟨i, j, a, b, q⟩
theorem snd_sub : OpR X (binaryOp .Sub) (fun x y H Q => rO w .sub [x, y] H Q) :=
  snd_int2 (rI_of_rI0 op_sub) (fun _ _ _ _ _ _ => .int _) (two_ints (fun i j g => .inr ⟨trivial, rfl⟩) fun d e g h => by cases d <;> cases e <;> first | rfl | exact absurd ⟨rfl, rfl⟩ (h _ _))
theorem snd_mul : OpR X (binaryOp .Mult) (fun x y H Q => rO w .mul [x, y] H Q) :=
  snd_int2 op_mulW (fun _ _ _ _ _ _ => .int _) (two_ints (fun i j g => by
    by_cases c : i.natAbs.log2 + j.natAbs.log2 < 1000000
    · exact .inr ⟨c, if_pos c⟩
    · exact .inl (if_neg c)) fun d e g h => by cases d <;> cases e <;> first | rfl | exact absurd ⟨rfl, rfl⟩ (h _ _))
theorem snd_fdiv : OpR X (binaryOp .FloorDiv) (fun x y H Q => rO w .fdiv [x, y] H Q) :=
  snd_int2 op_fdivW (fun _ _ _ _ _ _ => .int _) (two_ints (fun i j g => by
    by_cases c : 0 < j ∧ j.natAbs.log2 < 9000
    · exact .inr ⟨c, if_pos c⟩
    · exact .inl (if_neg c)) fun d e g h => by cases d <;> cases e <;> first | rfl | exact absurd ⟨rfl, rfl⟩ (h _ _))
theorem snd_mod : OpR X (binaryOp .Mod) (fun x y H Q => rO w .mod [x, y] H Q) :=
  snd_int2 op_mod (fun _ _ _ _ _ _ => .int _) (two_ints (fun i j g => by
    by_cases c : 0 < j
    · exact .inr ⟨c, if_pos c⟩
    · exact .inl (if_neg c)) fun d e g h => by cases d <;> cases e <;> first | rfl | exact absurd ⟨rfl, rfl⟩ (h _ _))
theorem snd_pow : OpR X (binaryOp .Pow) (fun x y H Q => rO w .pow [x, y] H Q) :=
  snd_int2 op_pow (fun _ _ _ _ _ _ => .int _) (two_ints (fun i j g => by
    by_cases c : 0 ≤ j ∧ j ≤ 1000000 ∧ i.natAbs < 2 ^ 64
    · exact .inr ⟨c, if_pos c⟩
    · exact .inl (if_neg c)) fun d e g h => by cases d <;> cases e <;> first | rfl | exact absurd ⟨rfl, rfl⟩ (h _ _))
theorem snd_lt : OpR X (compareOp .Lt) (fun x y H Q => rO w .lt [x, y] H Q) :=
  snd_int2 (rI_of_rI0 op_lt) (fun _ _ _ _ _ _ => .bl _) (two_ints (fun i j g => .inr ⟨trivial, rfl⟩) fun d e g h => by cases d <;> cases e <;> first | rfl | exact absurd ⟨rfl, rfl⟩ (h _ _))
theorem snd_le : OpR X (compareOp .LtE) (fun x y H Q => rO w .le [x, y] H Q) :=
  snd_int2 (rI_of_rI0 op_le) (fun _ _ _ _ _ _ => .bl _) (two_ints (fun i j g => .inr ⟨trivial, rfl⟩) fun d e g h => by cases d <;> cases e <;> first | rfl | exact absurd ⟨rfl, rfl⟩ (h _ _))
theorem snd_gt : OpR X (compareOp .Gt) (fun x y H Q => rO w .gt [x, y] H Q) :=
  snd_int2 (rI_of_rI0 op_gt) (fun _ _ _ _ _ _ => .bl _) (two_ints (fun i j g => .inr ⟨trivial, rfl⟩) fun d e g h => by cases d <;> cases e <;> first | rfl | exact absurd ⟨rfl, rfl⟩ (h _ _))
theorem snd_ge : OpR X (compareOp .GtE) (fun x y H Q => rO w .ge [x, y] H Q) :=
  snd_int2 (rI_of_rI0 op_ge) (fun _ _ _ _ _ _ => .bl _) (two_ints (fun i j g => .inr ⟨trivial, rfl⟩) fun d e g h => by cases d <;> cases e <;> first | rfl | exact absurd ⟨rfl, rfl⟩ (h _ _))
end
end M3
/-! L3Eq: data that stand within one another: ==, repr, in -/
namespace M3
open PySem L2 PyProof.Rows

/-- how the data of a value are read off the heap -/
theorem rel_objs {X : Cx} {pins : List (Addr × Obj)} {s : Shared} {σ : L2.St} {H : Hp} (I : Inv X pins σ H s) {a : Addr} {vs : List V} (h : SqT X.K H a vs) :
    ∃ o its n, s.heap.get? a = some o ∧ o.cls = .type "tuple" ∧ o.data = .seq its n ∧ Vals vs its.toList := by
  obtain ⟨its, r, ⟨o, e, c, n, d⟩, _⟩ := I.tuple h
  exact ⟨o, its.toArray, n, e, c, d, by simpa using r⟩
theorem opt_mapM_cons {α β : Type} (f : α → Option β) (a : α) (l : List α) : (a :: l).mapM f = (f a).bind fun b => (l.mapM f).bind fun r => some (b :: r) := by
  rw [List.mapM_cons]
  rfl
theorem hasLk_zip : ∀ (ks xs : List PyData), ks.length = xs.length → hasLk (ks.zip xs) = hasLs xs
  | [], [], _ => by simp [hasLk, hasLs]
  | k :: ks, x :: xs, h => by
    have e : ks.length = xs.length := by simpa using h
    simp only [List.zip_cons_cons, hasLk, hasLs, hasLk_zip ks xs e]
def keyP : Key → PyData
  | .inl i => .int i
  | .inr s => .str s
theorem key_reads {h : Heap} {k : Key} {u : Value} (e : keyIs k u = true) : Reads h u (keyP k) [] := by
  rcases keyIs_shape e with ⟨i, t, rfl, rfl⟩ | ⟨x, t, rfl, rfl⟩
  · exact .int i t
  · exact .str x t
theorem zip_fst {α β : Type} : ∀ (ks : List α) (xs : List β), ks.length = xs.length → (ks.zip xs).map (·.1) = ks
  | [], [], _ => rfl
  | k :: ks, x :: xs, h => by
    have e : ks.length = xs.length := by simpa using h
    show k :: (ks.zip xs).map (·.1) = k :: ks
    rw [zip_fst ks xs e]
theorem zip_snd {α β : Type} : ∀ (ks : List α) (xs : List β), ks.length = xs.length → (ks.zip xs).map (·.2) = xs
  | [], [], _ => rfl
  | k :: ks, x :: xs, h => by
    have e : ks.length = xs.length := by simpa using h
    show x :: (ks.zip xs).map (·.2) = x :: xs
    rw [zip_snd ks xs e]
theorem pairs_keys {P : Program} {W : World} {h : Heap} : ∀ {es : List DictEntry} {kvs : List (Key × Value)}, Pairs (mixKind P W) es kvs → ReadsAll h (es.map (·.key)) ((kvs.map (·.1)).map keyP) [] ∧ es.map (·.val) = kvs.map (·.2)
  | _, _, .nil => ⟨.nil, rfl⟩
  | _, _, .cons h1 h2 h3 => by
    obtain ⟨a, b⟩ := pairs_keys h3
    exact ⟨.cons (as := []) (bs := []) (key_reads h1) a, by simp [h2, b]⟩
theorem kv_fst : ∀ {kvs : List (Key × V)} {vs : List (Key × Value)}, L2.KV kvs vs → vs.map (·.1) = kvs.map (·.1) ∧ Vals (kvs.map (·.2)) (vs.map (·.2))
  | _, _, .nil => ⟨rfl, .nil⟩
  | _, _, .cons h t => by
    obtain ⟨a, b⟩ := kv_fst t
    exact ⟨by simp [h.1, a], .cons h.2 b⟩
section
variable {X : Cx} {w : Wd} {pins : List (Addr × Obj)} {s : Shared} {σ : L2.St} {H : Hp} {ι : Iota} {g : G}
theorem reads_list {k : Nat} {a : Addr} {vs : List V} {xs : List D} {x : PyData} (I : Inv X pins σ H s) (hd : RdK X.K H a vs) (rs : RelDs w.K ι g.length H xs vs) (e : (xs.mapM (py g k)).map PyData.list = some x)
    (ih : ∀ (ds : List D) (vs : List V) (us : List Value) (ys : List PyData), ds.mapM (py g k) = some ys → RelDs w.K ι g.length H ds vs → Vals vs us → ∃ as, ReadsAll s.heap us ys as ∧ (hasLs ys = false → sysModules ∉ as)) : ∃ as, Reads s.heap (.ref a) x as ∧ (hasL x = false → sysModules ∉ as) := by
  obtain ⟨ys, e1, rfl⟩ := Option.map_eq_some_iff.mp e
  obtain ⟨_, its, n, r, ho⟩ := rd_obj I hd
  obtain ⟨as, h, _⟩ := ih xs vs its ys e1 rs r
  exact ⟨_, .list ho rfl rfl (by simpa using h), fun z => by simp [hasL] at z⟩
theorem reads_dict {k : Nat} {a : Addr} {kvs : List (Key × V)} {ks : List Key} {ds : List D} {x : PyData} (I : Inv X pins σ H s) (hd : H a = some (.dK kvs)) (hk : kvs.map (·.1) = ks) (rs : RelDs w.K ι g.length H ds (kvs.map (·.2)))
    (e : (ds.mapM (py g k)).map (fun vs => PyData.dict ((ks.map fun | .inl i => PyData.int i | .inr s => PyData.str s).zip vs)) = some x)
    (ih : ∀ (ds : List D) (vs : List V) (us : List Value) (ys : List PyData), ds.mapM (py g k) = some ys → RelDs w.K ι g.length H ds vs → Vals vs us → ys.length = ds.length ∧ ∃ as, ReadsAll s.heap us ys as ∧ (hasLs ys = false → sysModules ∉ as)) : ∃ as, Reads s.heap (.ref a) x as ∧ (hasL x = false → sysModules ∉ as) := by
  obtain ⟨ys, e1, rfl⟩ := Option.map_eq_some_iff.mp e
  obtain ⟨_, hsys, vs, r, o, es, ep, ho, hx, hdat, _, hp, _⟩ : ObjOk X.prog X.w H s.heap a (.dK kvs) := I.hok a _ hd
  obtain ⟨f1, f2⟩ := kv_fst r
  obtain ⟨hl, as, h, hm⟩ := ih ds _ _ ys e1 rs f2
  obtain ⟨k1, k2⟩ := pairs_keys (h := s.heap) hp
  have hkey : (fun x : Key => match x with | .inl i => PyData.int i | .inr s => PyData.str s) = keyP := by
    funext z
    cases z <;> rfl
  have len : (ks.map keyP).length = ys.length := by
    rw [List.length_map, ← hk, List.length_map, hl, rs.length, List.length_map]
  rw [hkey]
  refine ⟨_, .dict (as := []) (bs := as) ho hx.1 hdat ?_ ?_, fun z => ?_⟩
  · rw [zip_fst _ _ len, ← hk, ← f1]
    exact k1
  · rw [zip_snd _ _ len, k2]
    exact h
  · have z' : hasLk ((ks.map keyP).zip ys) = false := by simpa [hasL] using z
    rw [hasLk_zip _ _ len] at z'
    intro hin
    rcases List.mem_cons.mp hin with e | hin
    · rw [← e] at hsys
      simp at hsys
    · exact hm z' (by simpa using hin)
theorem py_reads (hK : X.K = w.K.K) (I : Inv X pins σ H s) (rl : Rel w ι g H) : ∀ k,
    (∀ (d : D) (v : V) (u : Value) (x : PyData), py g k d = some x → RelD w.K ι g.length H d v → RelV v u → ∃ as, Reads s.heap u x as ∧ (hasL x = false → sysModules ∉ as)) ∧
    (∀ (ds : List D) (vs : List V) (us : List Value) (ys : List PyData), ds.mapM (py g k) = some ys → RelDs w.K ι g.length H ds vs → Vals vs us → ys.length = ds.length ∧ ∃ as, ReadsAll s.heap us ys as ∧ (hasLs ys = false → sysModules ∉ as)) := by
  intro k
  induction k with
  | zero =>
    refine ⟨(fun d v u x h => by simp [py] at h), fun ds vs us ys h r q => ?_⟩
    cases r with
    | nil =>
      cases q
      simp only [List.mapM_nil] at h
      cases h
      exact ⟨rfl, _, .nil, fun _ => by simp⟩
    | cons r1 r2 =>
      rw [opt_mapM_cons] at h
      cases h
  | succ k ih =>
    have main : ∀ (d : D) (v : V) (u : Value) (x : PyData), py g (k + 1) d = some x → RelD w.K ι g.length H d v → RelV v u → ∃ as, Reads s.heap u x as ∧ (hasL x = false → sysModules ∉ as) := by
      intro d v u x h r q
      have ihl := fun ds vs us ys a b c => (ih.2 ds vs us ys a b c).2
      cases r with
      | non => cases q; simp only [py] at h; cases h; exact ⟨_, .none, fun _ => by simp⟩
      | bl b => cases q; simp only [py] at h; cases h; exact ⟨_, .bool b, fun _ => by simp⟩
      | int i => obtain ⟨t, rfl⟩ := q; simp only [py] at h; cases h; exact ⟨_, .int i t, fun _ => by simp⟩
      | str z => obtain ⟨t, rfl⟩ := q; simp only [py] at h; cases h; exact ⟨_, .str z t, fun _ => by simp⟩
      | tup h1 h2 =>
        cases q
        simp only [py] at h
        obtain ⟨ys, e1, rfl⟩ := Option.map_eq_some_iff.mp h
        rw [← hK] at h1
        obtain ⟨o, its, n, ho, hc, hd, hv⟩ := rel_objs I h1
        obtain ⟨as, hr, hm⟩ := ihl _ _ _ _ e1 h2 hv
        exact ⟨_, .tuple ho hc hd hr, fun z => hm (by simpa [hasL] using z)⟩
      | lst h1 h3 =>
        cases q
        simp only [py] at h
        have h1' := h1.rd
        rw [← hK] at h1'
        exact reads_list I h1' h3 h ihl
      | dct h1 h2 h3 h4 =>
        cases q
        simp only [py] at h
        exact reads_dict I h1 h3 h4 h ih.2
      | ref n hn =>
        cases q
        have e : g[n]? = some g[n] := List.getElem?_eq_getElem hn
        have c := rl.cell n _ e
        simp only [py] at h
        rw [e] at h
        cases q : g[n] with
        | lst xs =>
          rw [q] at h c
          obtain ⟨vs, h1, h2⟩ := c
          exact reads_list I (.inl (.inl h1)) h2 h ihl
        | dct ks ds =>
          rw [q] at h c
          obtain ⟨kvs, h1, h2, h3⟩ := c
          exact reads_dict I h1 h2 h3 h ih.2
        | ins _ _ => rw [q] at h; cases h
    refine ⟨main, fun ds => ?_⟩
    induction ds with
    | nil =>
      intro vs us ys h r q
      cases r
      cases q
      simp only [List.mapM_nil] at h
      cases h
      exact ⟨rfl, _, .nil, fun _ => by simp⟩
    | cons d ds ihd =>
      intro vs us ys h r q
      cases r with
      | cons r1 r2 => cases q with
        | cons q1 q2 =>
          rw [opt_mapM_cons] at h
          cases e1 : py g (k + 1) d with
          | none => rw [e1] at h; cases h
          | some x =>
            cases e2 : ds.mapM (py g (k + 1)) with
            | none => rw [e1, e2] at h; cases h
            | some xs =>
              rw [e1, e2] at h
              cases h
              obtain ⟨as, a1, m1⟩ := main d _ _ x e1 r1 q1
              obtain ⟨hl, bs, a2, m2⟩ := ihd _ _ xs e2 r2 q2
              refine ⟨by simp [hl], _, .cons a1 a2, fun z => ?_⟩
              simp only [hasLs, Bool.or_eq_false_iff] at z
              intro hin
              rcases List.mem_append.mp hin with hin | hin
              · exact m1 z.1 hin
              · exact m2 z.2 hin

theorem py_read (hK : X.K = w.K.K) (I : Inv X pins σ H s) (rl : Rel w ι g H) {k : Nat} {d : D} {v : V} {u : Value} {x : PyData} (e : py g k d = some x) (r : RelD w.K ι g.length H d v) (q : RelV v u) :
    ∃ as, Reads s.heap u x as ∧ (hasL x = false → sysModules ∉ as) := (py_reads hK I rl k).1 d v u x e r q
theorem snd_eq (hK : X.K = w.K.K) (hu : X.A.units + 64 < cLine) : OpR X (compareOp .Eq) (fun x y H Q => rO w .eq [x, y] H Q) := by
  intro pins s σ H x y v u Q I rx ry h0
  obtain ⟨W, σ0, ι, g, d, e, rl, r1, r2, h⟩ := rO2 h0
  clear h0
  have h' : FinE w W ι g.length H σ0 (optB (eqM g d e) g) Q := h
  cases q : eqS d e with
  | some b =>
    have em : eqM g d e = some b := by unfold eqM; rw [q]
    rw [em] at h'
    have qq : Q (.bl b) H := h'.here rl (.bl b)
    cases r1 <;> cases r2 <;> first
      | (simp only [eqS] at q; cases q; done)
      | (simp only [eqS, Option.some.injEq] at q; refine op_eq pins s σ H _ _ v u Q I rx ry ⟨rfl, ?_⟩; subst q; first | simpa using qq | (simp at qq ⊢; exact qq))
  | none =>
    have em : eqM g d e = match py g PYDEEP d, py g PYDEEP e with
      | some x, some y => if SeqAt.shaped x && SeqAt.shaped y then some (PyData.eqv x y) else none
      | _, _ => none := by unfold eqM; rw [q] <;> rfl
    rw [em] at h'
    cases q1 : py g PYDEEP d with
    | none => rw [q1] at h'; exact False.elim h'
    | some a => cases q2 : py g PYDEEP e with
      | none => rw [q1, q2] at h'; exact False.elim h'
      | some b =>
        rw [q1, q2] at h'
        dsimp only at h'
        split at h'
        · rename_i hs
          rw [Bool.and_eq_true] at hs
          obtain ⟨as, f1, _⟩ := py_read hK I rl q1 r1 rx
          obtain ⟨bs, f2, _⟩ := py_read hK I rl q2 r2 ry
          exact SeqAt.compareEq_shaped f1 f2 hs.1 hs.2 hu ⟨.bl _, H, I, rfl, h'.here rl (.bl _)⟩
        · exact False.elim h'
theorem snd_ne (hK : X.K = w.K.K) (hu : X.A.units + 64 < cLine) : OpR X (compareOp .NotEq) (fun x y H Q => rO w .ne [x, y] H Q) := by
  intro pins s σ H x y v u Q I rx ry h0
  obtain ⟨W, σ0, ι, g, d, e, rl, r1, r2, h⟩ := rO2 h0
  clear h0
  have h' : FinE w W ι g.length H σ0 (optB ((eqM g d e).map (!·)) g) Q := h
  cases q : eqS d e with
  | some b =>
    have em : eqM g d e = some b := by unfold eqM; rw [q]
    rw [em] at h'
    have qq : Q (.bl (!b)) H := h'.here rl (.bl _)
    cases r1 <;> cases r2 <;> first
      | (simp only [eqS] at q; cases q; done)
      | (simp only [eqS, Option.some.injEq] at q; refine op_ne pins s σ H _ _ v u Q I rx ry ⟨rfl, ?_⟩; subst q; first | simpa using qq | (simp at qq ⊢; exact qq))
  | none =>
    have em : eqM g d e = match py g PYDEEP d, py g PYDEEP e with
      | some x, some y => if SeqAt.shaped x && SeqAt.shaped y then some (PyData.eqv x y) else none
      | _, _ => none := by unfold eqM; rw [q] <;> rfl
    rw [em] at h'
    cases q1 : py g PYDEEP d with
    | none => rw [q1] at h'; exact False.elim h'
    | some a => cases q2 : py g PYDEEP e with
      | none => rw [q1, q2] at h'; exact False.elim h'
      | some b =>
        rw [q1, q2] at h'
        dsimp only at h'
        split at h'
        · rename_i hs
          rw [Bool.and_eq_true] at hs
          obtain ⟨as, f1, _⟩ := py_read hK I rl q1 r1 rx
          obtain ⟨bs, f2, _⟩ := py_read hK I rl q2 r2 ry
          exact SeqAt.compareNe_shaped f1 f2 hs.1 hs.2 hu ⟨.bl _, H, I, rfl, h'.here rl (.bl _)⟩
        · exact False.elim h'
/-! ### in -/
theorem flat_V {ι : Iota} {N : Nat} {K : KH} {z : D} {y : V} (r : RelD K ι N H z y) (fz : flatD z = true) (fy : flatV y = true) : ∀ {xs : List D} {vs : List V}, RelDs K ι N H xs vs → xs.all flatD = true →
    vs.all flatV = true ∧ inV y vs = xs.any fun d => eqF d z
  | _, _, .nil, _ => ⟨rfl, rfl⟩
  | _, _, .cons r1 rs, fs => by
    rw [List.all_cons, Bool.and_eq_true] at fs
    obtain ⟨i1, i2⟩ := flat_V r fz fy rs fs.2
    have f1 := fs.1
    refine ⟨?_, ?_⟩
    · rw [List.all_cons, i1, Bool.and_true]
      cases r1 <;> first | rfl | (simp [flatD] at f1)
    · unfold inV at i2 ⊢
      rw [List.any_cons, List.any_cons, i2]
      congr 1
      cases r1 <;> cases r <;> first | rfl | (simp [flatD] at f1; done) | (simp [flatD] at fz; done)
theorem flat_y {ι : Iota} {N : Nat} {K : KH} {z : D} {y : V} (r : RelD K ι N H z y) (fz : flatD z = true) : flatV y = true := by
  cases r <;> first | rfl | (simp [flatD] at fz)
theorem snd_in2 (hK : X.K = w.K.K) (neg : Bool) {o : Op} {op : CmpOp} (hop : (neg = false ∧ op = .In ∧ o = .isin) ∨ (neg = true ∧ op = .NotIn ∧ o = .notin)) : OpR X (compareOp op) (fun x y H Q => rO w o [x, y] H Q) := by
  intro pins s σ H x y v u Q I rx ry h0
  obtain ⟨W, σ0, ι, g, d, e, rl, r1, r2, h⟩ := rO2 h0
  clear h0
  have h' : ∃ b, inM g d e = some b ∧ Q (.bl (if neg then !b else b)) H := by
    rcases hop with ⟨rfl, rfl, rfl⟩ | ⟨rfl, rfl, rfl⟩
    · have h' : FinE w W ι g.length H σ0 (optB (inM g d e) g) Q := h
      cases q : inM g d e with
      | none => rw [q] at h'; exact False.elim h'
      | some b => rw [q] at h'; exact ⟨b, rfl, h'.here rl (.bl _)⟩
    · have h' : FinE w W ι g.length H σ0 (optB ((inM g d e).map (!·)) g) Q := h
      cases q : inM g d e with
      | none => rw [q] at h'; exact False.elim h'
      | some b => rw [q] at h'; exact ⟨b, rfl, h'.here rl (.bl _)⟩
  clear h
  obtain ⟨b, hb, hq⟩ := h'
  have seq : ∀ (xs : List D) (a : Addr) (vs : List V), y = .ref a → (SqL X.K H a vs ∨ SqT X.K H a vs) → RelDs w.K ι g.length H xs vs → flatD d = true → xs.all flatD = true → b = (xs.any fun z => eqF z d) →
      wpAny (model X.prog X.w) X.A (compareOp op v u) (EP X pins σ Q) X.xe s := by
    intro xs a vs ea hs rs f1 f2 eb
    have g1 := flat_y r1 f1
    obtain ⟨g2, g3⟩ := flat_V r1 f1 g1 rs f2
    subst ea
    have hq' : Q (.bl (if neg = true then !inV x vs else inV x vs)) H := by rw [g3, ← eb]; exact hq
    rcases hop with ⟨rfl, rfl, rfl⟩ | ⟨rfl, rfl, rfl⟩
    · exact op_in_seq pins s σ H _ _ v u Q I rx ry ⟨a, vs, rfl, hs, g1, g2, hq'⟩
    · exact op_notIn_seq pins s σ H _ _ v u Q I rx ry ⟨a, vs, rfl, hs, g1, g2, hq'⟩
  have viaL : ∀ (xs : List D), lstOf g e = some xs → (if flatD d && xs.all flatD then some (xs.any fun z => eqF z d) else none) = some b → wpAny (model X.prog X.w) X.A (compareOp op v u) (EP X pins σ Q) X.xe s := by
    intro xs e1 e2
    split at e2
    · rename_i hf
      rw [Bool.and_eq_true] at hf
      obtain ⟨a, vs, ea, k1, k2⟩ := lst_at rl r2 e1
      have k1 := k1.sq
      rw [← hK] at k1
      exact seq xs a vs ea (.inl k1) k2 hf.1 hf.2 (Option.some.inj e2).symm
    · cases e2
  cases r2 with
  | str z =>
    cases r1 with
    | str y =>
      simp only [inM, Option.some.injEq] at hb
      subst hb
      rcases hop with ⟨rfl, rfl, rfl⟩ | ⟨rfl, rfl, rfl⟩
      · exact op_in_str pins s σ H _ _ v u Q I rx ry ⟨y, z, rfl, rfl, hq⟩
      · exact op_notin_str pins s σ H _ _ v u Q I rx ry ⟨y, z, rfl, rfl, hq⟩
    | _ => simp [inM] at hb
  | tup k1 k2 =>
    simp only [inM] at hb
    split at hb
    · rename_i hf
      rw [Bool.and_eq_true] at hf
      rw [← hK] at k1
      exact seq _ _ _ rfl (.inr k1) k2 hf.1 hf.2 (Option.some.inj hb).symm
    · cases hb
  | lst k1 k3 => exact viaL _ rfl hb
  | ref n hn =>
    have hb' : (match lstOf g (.ref n) with | some xs => if flatD d && xs.all flatD then some (xs.any fun z => eqF z d) else none | none => none) = some b := hb
    cases q : lstOf g (.ref n) with
    | none => rw [q] at hb'; cases hb'
    | some xs => rw [q] at hb'; exact viaL xs q hb'
  | _ => simp [inM, lstOf] at hb
theorem snd_in (hK : X.K = w.K.K) : OpR X (compareOp .In) (fun x y H Q => rO w .isin [x, y] H Q) := snd_in2 hK false (.inl ⟨rfl, rfl, rfl⟩)
theorem snd_notin (hK : X.K = w.K.K) : OpR X (compareOp .NotIn) (fun x y H Q => rO w .notin [x, y] H Q) := snd_in2 hK true (.inr ⟨rfl, rfl, rfl⟩)
theorem rel_atI {ι : Iota} {N : Nat} {K : KH} {xs : List D} {vs : List V} {i : Int} {d : D} (rs : RelDs K ι N H xs vs) (e : atI xs i = some d) : ∃ v, atI vs i = some v ∧ RelD K ι N H d v := by
  unfold atI at e ⊢
  rw [← rs.length]
  cases q : ixN xs.length i with
  | none => rw [q] at e; cases e
  | some j => rw [q] at e; exact rs.get e
theorem snd_ix (hK : X.K = w.K.K) : IxR X (fun x y H Q => rO w .ix [x, y] H Q) := by
  intro va sl pins s σ H x y v u Q I rx ry h0 hsub
  obtain ⟨W, σ0, ι, g, d, e, rl, r1, r2, h⟩ := rO2 h0
  clear h0
  cases r2 with
  | int i =>
    have h' : FinE w W ι g.length H σ0 (opt (ixM g d i) g) Q := h
    cases q : ixM g d i with
    | none => rw [q] at h'; exact False.elim h'
    | some z =>
      rw [q] at h'
      have viaL : ∀ (xs : List D), lstOf g d = some xs → atI xs i = some z → rIx X.K x (.int i) H Q := by
        intro xs e1 e2
        obtain ⟨a, vs, rfl, k1, k2⟩ := lst_at rl r1 e1
        obtain ⟨c, c1, c2⟩ := rel_atI k2 e2
        have k1 := k1.sq
        rw [← hK] at k1
        exact .inl ⟨a, vs, i, c, rfl, rfl, k1, c1, h'.here rl c2⟩
      refine ix_seq va sl pins s σ H _ _ v u Q I rx ry ?_ hsub
      cases r1 with
      | tup k1 k2 =>
        obtain ⟨c, c1, c2⟩ := rel_atI k2 (show atI _ i = some z from q)
        rw [← hK] at k1
        exact .inr (.inl ⟨_, _, i, c, rfl, rfl, k1, c1, h'.here rl c2⟩)
      | str k =>
        simp only [ixM] at q
        split at q
        · rename_i hz
          obtain ⟨c, c1, rfl⟩ := Option.map_eq_some_iff.mp q
          exact .inr (.inr ⟨k, i, c, rfl, rfl, hz, c1, h'.here rl (.str _)⟩)
        · cases q
      | lst k1 k3 => exact viaL _ rfl q
      | ref n hn =>
        have q' : (match lstOf g (.ref n) with | some xs => atI xs i | none => none) = some z := q
        cases q2 : lstOf g (.ref n) with
        | none => rw [q2] at q'; cases q'
        | some xs => rw [q2] at q'; exact viaL xs q2 q'
      | _ => simp [ixM, lstOf] at q
  | _ =>
    have hb : FinE w W ι g.length H σ0 .bad Q := h
    exact False.elim hb
/-! ### truth -/
theorem tru_rel (hK : X.K = w.K.K) {ι : Iota} {g : G} {d : D} {v : V} {b : Bool} (rl : Rel w ι g H) (r : RelD w.K ι g.length H d v) (e : truM g d = some b) : TruV X.K v H b := by
  cases r with
  | non => simp only [truM, Option.some.injEq] at e; exact e.symm
  | bl k => simp only [truM, Option.some.injEq] at e; exact e.symm
  | int i => simp only [truM, Option.some.injEq] at e; exact e.symm
  | str z =>
    simp only [truM] at e
    split at e
    · rename_i hz
      refine ⟨hz, ?_⟩
      rw [← Option.some.inj e]
      cases z.length <;> rfl
    · cases e
  | tup k1 k2 =>
    simp only [truM, Option.some.injEq] at e
    rw [← hK] at k1
    exact .inr (.inl ⟨_, k1, by rw [← e]; cases k2 <;> rfl⟩)
  | lst k1 k3 =>
    simp only [truM, Option.some.injEq] at e
    have k1 := k1.rd.sq
    rw [← hK] at k1
    exact .inl ⟨_, k1, by rw [← e]; cases k3 <;> rfl⟩
  | dct k1 k2 k3 k4 =>
    simp only [truM, Option.some.injEq] at e
    exact .inr (.inr ⟨_, k1, by rw [← e, ← k3]; cases (‹List (Key × V)›) <;> rfl⟩)
  | ref n hn =>
    have q : g[n]? = some g[n] := List.getElem?_eq_getElem hn
    have c := rl.cell n _ q
    simp only [truM] at e
    rw [q] at e
    cases k : g[n] with
    | lst xs =>
      rw [k] at e c
      obtain ⟨vs, h1, h2⟩ := c
      exact .inl ⟨vs, .inl (.inl h1), by rw [← Option.some.inj e]; cases h2 <;> rfl⟩
    | dct ks ds =>
      rw [k] at e c
      obtain ⟨kvs, h1, h2, h3⟩ := c
      refine .inr (.inr ⟨kvs, h1, ?_⟩)
      rw [← Option.some.inj e, ← h2]
      cases kvs <;> rfl
    | ins _ _ => rw [k] at e; cases e
end
end M3
/-! L3Call: calls of built-ins and their methods, by values -/
namespace M3
open PySem L2 PyProof.Rows
section
variable {X : Cx} {w : Wd} {H : Hp}
theorem rO1s {o : Op} {xs : List V} {Q : VK} (h : rO w o xs H Q) (hb : ∀ (ds : List D) (g : G), ds.length ≠ 1 → opM o ds g = .bad) :
    ∃ x W σ ι g d, xs = [x] ∧ Rel w ι g H ∧ RelD w.K ι (List.length g) H d x ∧ FinE w W ι g.length H σ (opM o [d] g) Q := by
  obtain ⟨W, σ, ι, g, ds, rl, rs, h⟩ := h
  by_cases hl : ds.length = 1
  · cases rs with
    | nil => cases hl
    | cons r1 rs => cases rs with
      | nil => exact ⟨_, W, σ, ι, g, _, rfl, rl, r1, h⟩
      | cons r2 rs => simp at hl
  · rw [hb ds g hl] at h
    exact False.elim h
theorem rO2s {o : Op} {xs : List V} {Q : VK} (h : rO w o xs H Q) (hb : ∀ (ds : List D) (g : G), ds.length ≠ 2 → opM o ds g = .bad) :
    ∃ x y W σ ι g d e, xs = [x, y] ∧ Rel w ι g H ∧ RelD w.K ι (List.length g) H d x ∧ RelD w.K ι (List.length g) H e y ∧ FinE w W ι g.length H σ (opM o [d, e] g) Q := by
  obtain ⟨W, σ, ι, g, ds, rl, rs, h⟩ := h
  by_cases hl : ds.length = 2
  · cases rs with
    | nil => cases hl
    | cons r1 rs => cases rs with
      | nil => simp at hl
      | cons r2 rs => cases rs with
        | nil => exact ⟨_, _, W, σ, ι, g, _, _, rfl, rl, r1, r2, h⟩
        | cons r3 rs => simp at hl
  · rw [hb ds g hl] at h
    exact False.elim h
theorem ref_lst {ι : Iota} {g : G} {n : Nat} {β : Type} (f : List D → R β) {W : WX} {σ : L2.St} {γ : Type} {Rl : RL β γ} {Q : γ → Hp → Prop} (h : FinR Rl w W ι g.length H σ (match lstOf g (.ref n) with | some xs => f xs | none => .bad) Q) :
    ∃ xs, lstOf g (.ref n) = some xs ∧ FinR Rl w W ι g.length H σ (f xs) Q := by
  cases q : lstOf g (.ref n) with
  | none => rw [q] at h; exact False.elim h
  | some xs => rw [q] at h; exact ⟨xs, rfl, h⟩
theorem one_len {o : Op} (ho : ∀ g, opM o [] g = .bad) (ho2 : ∀ a b r g, opM o (a :: b :: r) g = .bad) (ds : List D) (g : G) (h : ds.length ≠ 1) : opM o ds g = .bad := by
  match ds, h with
  | [], _ => exact ho g
  | a :: b :: r, _ => exact ho2 a b r g
  | [a], h => simp at h
theorem two_len {o : Op} (ho : ∀ g, opM o [] g = .bad) (ho1 : ∀ a g, opM o [a] g = .bad) (ho2 : ∀ a b c r g, opM o (a :: b :: c :: r) g = .bad) (ds : List D) (g : G) (h : ds.length ≠ 2) : opM o ds g = .bad := by
  match ds, h with
  | [], _ => exact ho g
  | [a], _ => exact ho1 a g
  | a :: b :: c :: r, _ => exact ho2 a b c r g
  | [a, b], h => simp at h
theorem snd_len (hK : X.K = w.K.K) : CallR X (.builtin "len") (fun xs H Q => rO w .len xs H Q) := by
  intro pins s σ H xs us Q I rs h0
  obtain ⟨x, W, σ0, ι, g, d, rfl, rl, r, h⟩ := rO1s h0 (one_len (fun _ => rfl) fun a b _ _ => by cases a <;> rfl)
  clear h0
  have viaL : ∀ ys : List D, lstOf g d = some ys → FinE w W ι g.length H σ0 (.ok (.int ys.length) g) Q → wpAny (model X.prog X.w) X.A (call (.builtin "len") us) (EP X pins σ Q) X.xe s := by
    intro ys e h
    obtain ⟨a, vs, rfl, k1, k2⟩ := lst_at rl r e
    have k1 := k1.sq
    rw [← hK] at k1
    exact call_len pins s σ H _ us Q I rs ⟨_, _, rfl, .inl ⟨vs, k1, rfl⟩, by rw [← k2.length]; exact h.here rl (.int _)⟩
  cases r with
  | str z =>
    have h' : FinE w W ι g.length H σ0 (if z.length ≤ sizeLine then .ok (.int z.length) g else .bad) Q := h
    split at h'
    · rename_i hz
      exact call_len pins s σ H _ us Q I rs ⟨_, _, rfl, ⟨hz, rfl⟩, h'.here rl (.int _)⟩
    · exact False.elim h'
  | tup k1 k2 =>
    rw [← hK] at k1
    exact call_len pins s σ H _ us Q I rs ⟨_, _, rfl, .inr ⟨_, k1, rfl⟩, by rw [← k2.length]; exact h.here rl (.int _)⟩
  | lst k1 k3 => exact viaL _ rfl h
  | ref n hn =>
    obtain ⟨ys, e, h'⟩ := ref_lst (fun ys => R.ok (D.int ys.length) g) h
    exact viaL ys e h'
  | _ => exact False.elim h
theorem snd_abs : CallR X (.builtin "abs") (fun xs H Q => rO w .abs xs H Q) := by
  intro pins s σ H xs us Q I rs h0
  obtain ⟨x, W, σ0, ι, g, d, rfl, rl, r, h⟩ := rO1s h0 (one_len (fun _ => rfl) fun a b _ _ => by cases a <;> rfl)
  clear h0
  cases r with
  | int i => exact call_abs pins s σ H _ us Q I rs ⟨i, rfl, h.here rl (.int _)⟩
  | _ => exact False.elim h
theorem snd_int : CallR X (.type "int") (fun xs H Q => rO w .int xs H Q) := by
  intro pins s σ H xs us Q I rs h0
  obtain ⟨x, W, σ0, ι, g, d, rfl, rl, r, h⟩ := rO1s h0 (one_len (fun _ => rfl) fun a b _ _ => by cases a <;> rfl)
  clear h0
  cases r with
  | int i => exact call_int1 pins s σ H _ us Q I rs (.inl ⟨i, rfl, h.here rl (.int _)⟩)
  | bl b => exact call_int1 pins s σ H _ us Q I rs (.inr ⟨b, rfl, h.here rl (.int _)⟩)
  | str z =>
    have h' : FinE w W ι g.length H σ0 (match PySem.intText? z with | some n => if z.length ≤ 640 then .ok (.int n) g else .bad | none => .bad) Q := h
    cases q : PySem.intText? z with
    | none => rw [q] at h'; exact False.elim h'
    | some n =>
      rw [q] at h'
      dsimp only at h'
      split at h'
      · rename_i hz
        exact call_int_str pins s σ H _ us Q I rs ⟨z, n, rfl, q, hz, h'.here rl (.int _)⟩
      · exact False.elim h'
  | _ => exact False.elim h
theorem snd_str : CallR X (.type "str") (fun xs H Q => rO w .str xs H Q) := by
  intro pins s σ H xs us Q I rs h0
  obtain ⟨x, W, σ0, ι, g, d, rfl, rl, r, h⟩ := rO1s h0 (one_len (fun _ => rfl) fun a b _ _ => by cases a <;> rfl)
  clear h0
  cases r with
  | int i =>
    have h' : FinE w W ι g.length H σ0 (if i.natAbs.log2 < 1920 then .ok (.str (toString i)) g else .bad) Q := h
    split at h'
    · rename_i hz
      exact call_str_int pins s σ H _ us Q I rs ⟨i, rfl, hz, h'.here rl (.str _)⟩
    · exact False.elim h'
  | _ => exact False.elim h
theorem snd_list (hK : X.K = w.K.K) (t : Bool) : CallR X (.type "list") (fun xs H Q => rO w (.list t) xs H Q) := by
  intro pins s σ H xs us Q I rs h0
  obtain ⟨x, W, σ0, ι, g, d, rfl, rl, r, h⟩ := rO1s h0 (one_len (fun _ => rfl) fun a b _ _ => by cases a <;> rfl)
  clear h0
  have viaL : ∀ ys : List D, lstOf g d = some ys → FinE w W ι g.length H σ0 (newL t ys g) Q → wpAny (model X.prog X.w) X.A (call (.type "list") us) (EP X pins σ Q) X.xe s := by
    intro ys e h
    obtain ⟨a, vs, rfl, k1, k2⟩ := lst_at rl r e
    have k1 := k1.sq
    rw [← hK] at k1
    exact call_list_of pins s σ H _ us Q I rs ⟨_, _, rfl, .inl k1, new_list rl k2 h⟩
  cases r with
  | tup k1 k2 =>
    rw [← hK] at k1
    exact call_list_of pins s σ H _ us Q I rs ⟨_, _, rfl, .inr k1, new_list rl k2 h⟩
  | lst k1 k3 => exact viaL _ rfl h
  | ref n hn =>
    have h' : FinE w W ι g.length H σ0 (match lstOf g (.ref n) with | some ys => newL t ys g | none => .bad) Q := h
    obtain ⟨ys, e, h''⟩ := ref_lst (fun ys => newL t ys g) h'
    exact viaL ys e h''
  | _ => exact False.elim h
theorem snd_tuple (hK : X.K = w.K.K) : CallR X (.type "tuple") (fun xs H Q => rO w .tuple xs H Q) := by
  intro pins s σ H xs us Q I rs h0
  obtain ⟨x, W, σ0, ι, g, d, rfl, rl, r, h⟩ := rO1s h0 (one_len (fun _ => rfl) fun a b _ _ => by cases a <;> rfl)
  clear h0
  have viaL : ∀ ys : List D, lstOf g d = some ys → FinE w W ι g.length H σ0 (.ok (.tup ys) g) Q → wpAny (model X.prog X.w) X.A (call (.type "tuple") us) (EP X pins σ Q) X.xe s := by
    intro ys e h
    obtain ⟨a, vs, rfl, k1, k2⟩ := lst_at rl r e
    have k1 := k1.sq
    rw [← hK] at k1
    exact call_tuple_of pins s σ H _ us Q I rs ⟨_, _, rfl, .inl ⟨k1, new_tup rl k2 h⟩⟩
  cases r with
  | tup k1 k2 =>
    have k1' := k1
    rw [← hK] at k1
    exact call_tuple_of pins s σ H _ us Q I rs ⟨_, _, rfl, .inr ⟨k1, h.here rl (.tup k1' k2)⟩⟩
  | lst k1 k3 => exact viaL _ rfl h
  | ref n hn =>
    have h' : FinE w W ι g.length H σ0 (match lstOf g (.ref n) with | some ys => .ok (.tup ys) g | none => .bad) Q := h
    obtain ⟨ys, e, h''⟩ := ref_lst (fun ys => R.ok (D.tup ys) g) h'
    exact viaL ys e h''
  | _ => exact False.elim h
theorem ints_rel {ι : Iota} {N : Nat} {K : KH} : ∀ {xs : List D} {vs : List V} {ns : List Int}, RelDs K ι N H xs vs → intsOf xs = some ns → vs = ns.map V.int
  | _, _, _, .nil, e => by simp only [intsOf, Option.some.injEq] at e; subst e; rfl
  | _, _, _, .cons r rs, e => by
    cases r <;> simp only [intsOf] at e <;> first
      | (obtain ⟨ms, e1, rfl⟩ := Option.map_eq_some_iff.mp e; rw [ints_rel rs e1]; rfl)
      | cases e
theorem bls_rel {ι : Iota} {N : Nat} {K : KH} : ∀ {xs : List D} {vs : List V} {ns : List Bool}, RelDs K ι N H xs vs → blsOf xs = some ns → vs = ns.map V.bl
  | _, _, _, .nil, e => by simp only [blsOf, Option.some.injEq] at e; subst e; rfl
  | _, _, _, .cons r rs, e => by
    cases r <;> simp only [blsOf] at e <;> first
      | (obtain ⟨ms, e1, rfl⟩ := Option.map_eq_some_iff.mp e; rw [bls_rel rs e1]; rfl)
      | cases e
theorem strs_rel {ι : Iota} {N : Nat} {K : KH} : ∀ {xs : List D} {vs : List V} {ns : List Str}, RelDs K ι N H xs vs → strsOf xs = some ns → vs = ns.map V.str
  | _, _, _, .nil, e => by simp only [strsOf, Option.some.injEq] at e; subst e; rfl
  | _, _, _, .cons r rs, e => by
    cases r <;> simp only [strsOf] at e <;> first
      | (obtain ⟨ms, e1, rfl⟩ := Option.map_eq_some_iff.mp e; rw [strs_rel rs e1]; rfl)
      | cases e
theorem snd_all (hK : X.K = w.K.K) (hc : X.calm = true) : CallR X (.builtin "all") (fun xs H Q => rO w .all xs H Q) := by
  intro pins s σ H xs us Q I rs h0
  obtain ⟨x, W, σ0, ι, g, d, rfl, rl, r, h⟩ := rO1s h0 (one_len (fun _ => rfl) fun a b _ _ => by cases a <;> rfl)
  clear h0
  have h' : FinE w W ι g.length H σ0 (match (lstOf g d).bind blsOf with | some bs => .ok (.bl (bs.all id)) g | none => .bad) Q := h
  cases q : lstOf g d with
  | none => rw [q] at h'; exact False.elim h'
  | some ys => cases q2 : blsOf ys with
    | none => rw [q, Option.bind_some, q2] at h'; exact False.elim h'
    | some bs =>
      rw [q, Option.bind_some, q2] at h'
      obtain ⟨a, vs, rfl, k1, k2⟩ := lst_at rl r q
      have k1 := k1.sq
      rw [← hK] at k1
      have e := bls_rel k2 q2
      subst e
      exact cr_all hc pins s σ H _ us Q I rs ⟨a, bs, rfl, k1, h'.here rl (.bl _)⟩
theorem snd_any (hK : X.K = w.K.K) (hc : X.calm = true) : CallR X (.builtin "any") (fun xs H Q => rO w .any xs H Q) := by
  intro pins s σ H xs us Q I rs h0
  obtain ⟨x, W, σ0, ι, g, d, rfl, rl, r, h⟩ := rO1s h0 (one_len (fun _ => rfl) fun a b _ _ => by cases a <;> rfl)
  clear h0
  have h' : FinE w W ι g.length H σ0 (match (lstOf g d).bind blsOf with | some bs => .ok (.bl (bs.any id)) g | none => .bad) Q := h
  cases q : lstOf g d with
  | none => rw [q] at h'; exact False.elim h'
  | some ys => cases q2 : blsOf ys with
    | none => rw [q, Option.bind_some, q2] at h'; exact False.elim h'
    | some bs =>
      rw [q, Option.bind_some, q2] at h'
      obtain ⟨a, vs, rfl, k1, k2⟩ := lst_at rl r q
      have k1 := k1.sq
      rw [← hK] at k1
      have e := bls_rel k2 q2
      subst e
      exact cr_any hc pins s σ H _ us Q I rs ⟨a, bs, rfl, k1, h'.here rl (.bl _)⟩
theorem snd_sum (hK : X.K = w.K.K) (hc : X.calm = true) : CallR X (.builtin "sum") (fun xs H Q => rO w .sum xs H Q) := by
  intro pins s σ H xs us Q I rs h0
  obtain ⟨x, W, σ0, ι, g, d, rfl, rl, r, h⟩ := rO1s h0 (one_len (fun _ => rfl) fun a b _ _ => by cases a <;> rfl)
  clear h0
  have h' : FinE w W ι g.length H σ0 (match (lstOf g d).bind intsOf with | some bs => .ok (.int bs.sum) g | none => .bad) Q := h
  cases q : lstOf g d with
  | none => rw [q] at h'; exact False.elim h'
  | some ys => cases q2 : intsOf ys with
    | none => rw [q, Option.bind_some, q2] at h'; exact False.elim h'
    | some bs =>
      rw [q, Option.bind_some, q2] at h'
      obtain ⟨a, vs, rfl, k1, k2⟩ := lst_at rl r q
      have k1 := k1.sq
      rw [← hK] at k1
      have e := ints_rel k2 q2
      subst e
      exact cr_sum hc pins s σ H _ us Q I rs ⟨a, bs, rfl, k1, h'.here rl (.int _)⟩
theorem snd_max (hc : X.calm = true) : CallR X (.builtin "max") (fun xs H Q => rO w .max xs H Q) := by
  intro pins s σ H xs us Q I rs h0
  obtain ⟨x, y, W, σ0, ι, g, d, e, rfl, rl, r1, r2, h⟩ := rO2s h0 (two_len (fun _ => rfl) (fun a _ => by cases a <;> rfl) fun a b _ _ _ => by cases a <;> first | rfl | (cases b <;> rfl))
  clear h0
  cases r1 with
  | int i => cases r2 with
    | int j => exact call_max2 hc pins s σ H _ us Q I rs ⟨i, j, rfl, h.here rl (.int _)⟩
    | _ => exact False.elim h
  | _ => exact False.elim h
theorem snd_min (hc : X.calm = true) : CallR X (.builtin "min") (fun xs H Q => rO w .min xs H Q) := by
  intro pins s σ H xs us Q I rs h0
  obtain ⟨x, y, W, σ0, ι, g, d, e, rfl, rl, r1, r2, h⟩ := rO2s h0 (two_len (fun _ => rfl) (fun a _ => by cases a <;> rfl) fun a b _ _ _ => by cases a <;> first | rfl | (cases b <;> rfl))
  clear h0
  cases r1 with
  | int i => cases r2 with
    | int j => exact call_min2 hc pins s σ H _ us Q I rs ⟨i, j, rfl, h.here rl (.int _)⟩
    | _ => exact False.elim h
  | _ => exact False.elim h
theorem snd_neg : UnR X (unaryOp .USub) (fun x H Q => rO w .neg [x] H Q) := by
  intro pins s σ H x v Q I rx h0
  obtain ⟨W, σ0, ι, g, d, rl, r, h⟩ := rO1 h0
  clear h0
  cases r with
  | int i => exact un_neg pins s σ H _ v Q I rx ⟨i, rfl, h.here rl (.int _)⟩
  | _ => exact False.elim h
end
end M3
/-! L3Val: isinstance, repr, is, the built-in methods, by values -/
namespace M3
open PySem L2 PyProof.Rows
section
variable {X : Cx} {w : Wd} {H : Hp}

def tyS : Ty → String
  | .int => "int" | .str => "str" | .bool => "bool" | .list => "list" | .tuple => "tuple" | .dict => "dict" | .listTuple => "list"
/-- the type of a value -/
theorem ty_rel (hK : X.K = w.K.K) {ι : Iota} {g : G} {d : D} {v : V} {t : Ty} {b : Bool} (rl : Rel w ι g H) (r : RelD w.K ι g.length H d v) (ht : t ≠ .listTuple) (e : isM g t d = some b) :
    ∃ T, TyX X.K H v (.type T) ∧ kitB T (tyS t) = some b := by
  cases r with
  | non => cases e; exact ⟨_, .base .non, by cases t <;> decide +kernel⟩
  | bl y => cases e; exact ⟨_, .base (.bl _), by cases t <;> decide +kernel⟩
  | int i => cases e; exact ⟨_, .base (.int _), by cases t <;> decide +kernel⟩
  | str i => cases e; exact ⟨_, .base (.str _), by cases t <;> decide +kernel⟩
  | @tup a vs xs h hs =>
    cases e
    have k : kitB "tuple" (tyS t) = some (t == .tuple || t == .listTuple) := by cases t <;> first | decide +kernel | exact absurd rfl ht
    rcases h with (h | ⟨o, h⟩) | ⟨o, its, n, h1, h2, _⟩
    · exact ⟨_, .base (.tup h), k⟩
    · exact ⟨_, .fTuple h, k⟩
    · exact ⟨_, .kTuple (by rw [hK]; exact h1) h2, k⟩
  | @lst a vs xs h hs =>
    cases e
    have k : kitB "list" (tyS t) = some (t == .list || t == .listTuple) := by cases t <;> first | decide +kernel | exact absurd rfl ht
    rcases h with ⟨h | ⟨o, h⟩, _⟩ | ⟨its, n, h, _⟩
    · exact ⟨_, .base (.lst h), k⟩
    · exact ⟨_, .base (.frz h), k⟩
    · exact ⟨_, .kList (by rw [hK]; exact h) rfl, k⟩
  | @dct a kvs ks ds h hn hk hs =>
    cases e
    exact ⟨_, .base (.dK h), by cases t <;> decide +kernel⟩
  | ref n hn =>
    have q : g[n]? = some g[n] := List.getElem?_eq_getElem hn
    have c := rl.cell n _ q
    simp only [isM] at e
    rw [q] at e
    cases k : g[n] with
    | lst ys =>
      rw [k] at e c
      cases e
      obtain ⟨vs, h1, _⟩ := c
      exact ⟨_, .base (.lst h1), by cases t <;> first | decide +kernel | exact absurd rfl ht⟩
    | dct ks ds =>
      rw [k] at e c
      cases e
      obtain ⟨kvs, h1, _⟩ := c
      exact ⟨_, .base (.dK h1), by cases t <;> decide +kernel⟩
    | ins _ _ => rw [k] at e; cases e
theorem snd_isT (hK : X.K = w.K.K) (t : Ty) (ht : t ≠ .listTuple) : CallR X (.builtin "isinstance") (fun xs H Q => ∃ x, xs = [x, .ty (tyS t)] ∧ rO w (.isT t) [x] H Q) := by
  intro pins s σ H xs us Q I rs h0
  obtain ⟨x, rfl, h0⟩ := h0
  obtain ⟨W, σ0, ι, g, d, rl, r, h⟩ := rO1 h0
  have h' : FinE w W ι g.length H σ0 (optB (isM g t d) g) Q := h
  cases e : isM g t d with
  | none => rw [e] at h'; exact False.elim h'
  | some b =>
    rw [e] at h'
    obtain ⟨T, h1, h2⟩ := ty_rel hK rl r ht e
    exact call_isi pins s σ H _ us Q I rs ⟨x, _, _, _, b, rfl, .ty _, h1, kit_ty h2, h'.here rl (.bl _)⟩
theorem snd_repr (hK : X.K = w.K.K) (hu : X.A.units + 80 < cLine) (hg : X.A.guards = some []) : CallR X (.builtin "repr") (fun xs H Q => rO w .repr xs H Q) := by
  intro pins s σ H xs us Q I rs h0
  obtain ⟨x, W, σ0, ι, g, d, rfl, rl, r, h⟩ := rO1s h0 (one_len (fun _ => rfl) fun a b _ _ => by cases a <;> rfl)
  clear h0
  obtain ⟨u, rfl, ru⟩ := Vals.one rs
  have h' : FinE w W ι g.length H σ0 (match py g PYDEEP d with | some x => if PyData.showable x && decide (x.shown.length ≤ sizeLine) && decide (x.depth ≤ 64) && (!x.hasDict || !hasL x) then .ok (.str x.shown) g else .bad | none => .bad) Q := h
  cases e : py g PYDEEP d with
  | none => rw [e] at h'; exact False.elim h'
  | some y =>
    rw [e] at h'
    dsimp only at h'
    split at h'
    · rename_i hc
      simp only [Bool.and_eq_true, decide_eq_true_eq] at hc
      obtain ⟨⟨⟨c1, c2⟩, c3⟩, c4⟩ := hc
      obtain ⟨as, rd, hs⟩ := py_read hK I rl e r ru
      have q := h'.here rl (.str _)
      have fin : ∀ (h2 : Heap) (t1 : Tok) (tk : Nat), (∀ b o, s.heap.get? b = some o → h2.get? b = some o) → EP X pins σ Q (.str y.shown t1) { s with heap := h2, toks := tk } := fun h2 t1 tk k => ⟨.str _, H, I.kept k, ⟨_, rfl⟩, q⟩
      have hsm : y.hasDict = true → sysModules ∉ as := fun hd => hs (by rcases (Bool.or_eq_true _ _).mp c4 with z | z
                                                                        · rw [hd] at z; cases z
                                                                        · simpa using z)
      cases u with
      | none =>
        cases rd
        refine PySem.P.repr_of_none ?_
        exact ⟨.str _, H, I.tok _, ⟨_, rfl⟩, q⟩
      | bool b =>
        cases rd
        refine PySem.P.repr_of_bool ?_
        exact ⟨.str _, H, I.tok _, ⟨_, rfl⟩, q⟩
      | int i t =>
        cases rd
        refine PySem.P.repr_of_int (by simpa [PyData.showable] using c1) ?_
        exact ⟨.str _, H, I.tok _, ⟨_, rfl⟩, q⟩
      | str i t =>
        cases rd
        refine PySem.P.repr_of_str ?_ (by simpa [PyData.shown] using c2)
        exact ⟨.str _, H, I.tok _, ⟨_, rfl⟩, q⟩
      | ref a =>
        exact repr_of_reads' rd c1 hsm hg (by omega) (fun b o e => e) (fun h2 t1 tk k => fin h2 t1 tk k) c2
      | _ => cases rd
    · exact False.elim h'

/-! ### is -/
theorem snd_isNone : UnR X (fun v => compareOp .Is v .none) (fun x H Q => rO w .isNone [x] H Q) := by
  intro pins s σ H x v Q I rx h0
  obtain ⟨W, σ0, ι, g, d, rl, r, h⟩ := rO1 h0
  clear h0
  refine op_isN pins s σ H x .non v .none Q I rx rfl ⟨rfl, ?_⟩
  cases r <;> first | exact h.here rl (.bl _) | exact False.elim h
theorem snd_notNone : UnR X (fun v => compareOp .IsNot v .none) (fun x H Q => rO w .notNone [x] H Q) := by
  intro pins s σ H x v Q I rx h0
  obtain ⟨W, σ0, ι, g, d, rl, r, h⟩ := rO1 h0
  clear h0
  refine isnot_none_gen ?_
  refine ⟨.bl (!decide (x = .non)), H, I, by rw [rx.none_iff]; rfl, ?_⟩
  cases r <;> first | exact h.here rl (.bl _) | exact False.elim h
theorem snd_isTrue : OpR X (compareOp .Is) (fun x y H Q => y = .bl true ∧ rO w .isTrue [x] H Q) := by
  intro pins s σ H x y v u Q I rx ry h0
  obtain ⟨rfl, h0⟩ := h0
  obtain ⟨W, σ0, ι, g, d, rl, r, h⟩ := rO1 h0
  clear h0
  cases r with
  | bl b =>
    refine op_isBl pins s σ H _ _ v u Q I rx ry ⟨b, true, rfl, rfl, ?_⟩
    have q := h.here rl (.bl b)
    cases b <;> exact q
  | _ => exact False.elim h

/-! ### methods -/
theorem snd_join (hK : X.K = w.K.K) : MtR X "str.join" (fun x xs H Q => rO w .join (x :: xs) H Q) := by
  intro pins s σ H x xs v us Q I rx rs h0
  obtain ⟨x1, y, W, σ0, ι, g, d, e, q1, rl, r1, r2, h⟩ := rO2s h0 (two_len (fun _ => rfl) (fun a _ => by cases a <;> rfl) fun a b _ _ _ => by cases a <;> rfl)
  clear h0
  cases q1
  cases r1 with
  | str a =>
    have viaL : ∀ (ys : List Str) (zs : List D), lstOf g e = some zs → strsOf zs = some ys → RelD w.K ι g.length H e y → Vals [y] us → (ys.map (·.length)).sum + ys.length * a.length ≤ 16777216 → FinE w W ι g.length H σ0 (.ok (.str (Txt.join a ys)) g) Q →
        wpAny (model X.prog X.w) X.A (call (.builtin "str.join") (v :: us)) (EP X pins σ Q) X.xe s := by
      intro ys zs q3 q4 r2 rs hz h'
      obtain ⟨p, vs, rfl, k1, k2⟩ := lst_at rl r2 q3
      have k1 := k1.sq
      rw [← hK] at k1
      have e := strs_rel k2 q4
      subst e
      exact mt_join pins s σ H _ _ v us Q I rx rs ⟨a, _, ys, rfl, rfl, .inl k1, hz, h'.here rl (.str _)⟩
    have h' : FinE w W ι g.length H σ0 (match (seqOf g e).bind strsOf with | some ys => if (ys.map (·.length)).sum + ys.length * a.length ≤ 16777216 then .ok (.str (Txt.join a ys)) g else .bad | none => .bad) Q := h
    cases q2 : (seqOf g e).bind strsOf with
    | none => rw [q2] at h'; exact False.elim h'
    | some ys =>
      rw [q2] at h'
      dsimp only at h'
      obtain ⟨zs, q3, q4⟩ := Option.bind_eq_some_iff.mp q2
      split at h'
      · rename_i hz
        cases r2 with
        | tup k1 k2 =>
          cases q3
          have e := strs_rel k2 q4
          subst e
          rw [← hK] at k1
          exact mt_join pins s σ H _ _ v us Q I rx rs ⟨a, _, ys, rfl, rfl, .inr k1, hz, h'.here rl (.str _)⟩
        | lst k1 k2 => exact viaL ys zs q3 q4 (.lst k1 k2) rs hz h'
        | ref n hn => exact viaL ys zs q3 q4 (.ref n hn) rs hz h'
        | _ => cases q3
      · exact False.elim h'
  | _ => exact False.elim h
theorem snd_upper : MtR X "str.upper" (fun x xs H Q => rO w .upper (x :: xs) H Q) := by
  intro pins s σ H x xs v us Q I rx rs h0
  obtain ⟨x1, W, σ0, ι, g, d, q1, rl, r, h⟩ := rO1s h0 (one_len (fun _ => rfl) fun a b _ _ => by cases a <;> rfl)
  clear h0
  cases q1
  cases r with
  | str a =>
    have h' : FinE w W ι g.length H σ0 (if a.length ≤ 5592405 then .ok (.str (Txt.upper a)) g else .bad) Q := h
    split at h'
    · rename_i hz
      exact mt_upper pins s σ H _ _ v us Q I rx rs ⟨a, rfl, rfl, hz, h'.here rl (.str _)⟩
    · exact False.elim h'
  | _ => exact False.elim h
theorem snd_partition : MtR X "str.partition" (fun x xs H Q => rO w .partition (x :: xs) H Q) := by
  intro pins s σ H x xs v us Q I rx rs h0
  obtain ⟨x1, y, W, σ0, ι, g, d, e, q1, rl, r1, r2, h⟩ := rO2s h0 (two_len (fun _ => rfl) (fun a _ => by cases a <;> rfl) fun a b _ _ _ => by cases a <;> first | rfl | (cases b <;> rfl))
  clear h0
  cases q1
  cases r1 with
  | str a => cases r2 with
    | str b =>
      have h' : FinE w W ι g.length H σ0 (if b.length ≠ 0 ∧ a.length ≤ sizeLine then .ok (.tup [.str (Txt.partition a b).1, .str (Txt.partition a b).2.1, .str (Txt.partition a b).2.2]) g else .bad) Q := h
      split at h'
      · rename_i hz
        exact mt_partition pins s σ H _ _ v us Q I rx rs ⟨a, b, rfl, rfl, by simpa using hz.1, hz.2, new_tup rl (.cons (.str _) (.cons (.str _) (.cons (.str _) .nil))) h'⟩
      · exact False.elim h'
    | _ => exact False.elim h
  | _ => exact False.elim h
theorem snd_sindex : MtR X "str.index" (fun x xs H Q => rO w .sindex (x :: xs) H Q) := by
  intro pins s σ H x xs v us Q I rx rs h0
  obtain ⟨x1, y, W, σ0, ι, g, d, e, q1, rl, r1, r2, h⟩ := rO2s h0 (two_len (fun _ => rfl) (fun a _ => by cases a <;> rfl) fun a b _ _ _ => by cases a <;> first | rfl | (cases b <;> rfl))
  clear h0
  cases q1
  obtain ⟨u, rfl, ru⟩ := Vals.one rs
  cases r1 with
  | str a => cases r2 with
    | str b =>
      have h' : FinE w W ι g.length H σ0 (if 0 ≤ Txt.find a b then .ok (.int (Txt.find a b)) g else .bad) Q := h
      split at h'
      · rename_i hz
        obtain ⟨t, rfl⟩ := rx
        obtain ⟨t2, rfl⟩ := ru
        have q := h'.here rl (.int _)
        unfold Txt.find at hz q
        cases ho : Builtin.Str.occurrences a b 0 a.length 1 with
        | nil =>
          rw [ho] at hz
          exact absurd hz (by decide)
        | cons i rest =>
          rw [ho] at q
          exact PySem.SC.index ho ⟨.int i, H, I.tok _, ⟨_, rfl⟩, q⟩
      · exact False.elim h'
    | _ => exact False.elim h
  | _ => exact False.elim h
theorem snd_append : MtR X "list.append" (fun x xs H Q => rO w .append (x :: xs) H Q) := by
  intro pins s σ H x xs v us Q I rx rs h0
  obtain ⟨x1, y, W, σ0, ι, g, d, e, q1, rl, r1, r2, h⟩ := rO2s h0 (two_len (fun _ => rfl) (fun a _ => by cases a <;> rfl) fun a b _ _ _ => by cases a <;> rfl)
  clear h0
  cases q1
  cases r1 with
  | ref n hn =>
    have h' : FinE w W ι g.length H σ0 (match g[n]? with | some (.lst xs) => if xs.length < sizeLine then .ok .non (g.set n (.lst (xs ++ [e]))) else .bad | _ => .bad) Q := h
    split at h'
    · rename_i ys q
      obtain ⟨_, vs, k1, k2⟩ := cell_lst rl q
      split at h'
      · rename_i hz
        refine mt_append pins s σ H _ _ v us Q I rx rs ⟨_, vs, y, rfl, rfl, k1, by rw [← k2.length]; exact hz, ?_⟩
        have x : Ext ι g.length H ι g.length (upd H (ι n) (.lst (vs ++ [y]))) := Ext.write hn
        have rl2 := rl.write (c := .lst (ys ++ [e])) (o := .lst (vs ++ [y])) hn ⟨_, upd_same, (k2.append (.cons r2 .nil)).mono x rl.cells⟩
        have q := h' ι (upd H (ι n) (.lst (vs ++ [y]))) .non
        rw [List.length_set] at q
        exact q x rl2 .non
      · exact False.elim h'
    · exact False.elim h'
  | _ => exact False.elim h
theorem rO3s {o : Op} {xs : List V} {Q : VK} (h : rO w o xs H Q) (hb : ∀ (ds : List D) (g : G), ds.length ≠ 3 → opM o ds g = .bad) :
    ∃ x y z W σ ι g d e f, xs = [x, y, z] ∧ Rel w ι g H ∧ RelD w.K ι (List.length g) H d x ∧ RelD w.K ι (List.length g) H e y ∧ RelD w.K ι (List.length g) H f z ∧ FinE w W ι g.length H σ (opM o [d, e, f] g) Q := by
  obtain ⟨W, σ, ι, g, ds, rl, rs, h⟩ := h
  by_cases hl : ds.length = 3
  · cases rs with
    | nil => cases hl
    | cons r1 rs => cases rs with
      | nil => simp at hl
      | cons r2 rs => cases rs with
        | nil => simp at hl
        | cons r3 rs => cases rs with
          | nil => exact ⟨_, _, _, W, σ, ι, g, _, _, _, rfl, rl, r1, r2, r3, h⟩
          | cons r4 rs => simp at hl
  · rw [hb ds g hl] at h
    exact False.elim h
theorem snd_insert : MtR X "list.insert" (fun x xs H Q => rO w .insert (x :: xs) H Q) := by
  intro pins s σ H x xs v us Q I rx rs h0
  obtain ⟨x1, y, z, W, σ0, ι, g, d, e, f, q1, rl, r1, r2, r3, h⟩ := rO3s h0 (fun ds g hl => by
    match ds, hl with
    | [], _ => rfl
    | [a], _ => cases a <;> rfl
    | [a, b], _ => cases a <;> first | rfl | (cases b <;> rfl)
    | a :: b :: c :: e :: r, _ =>
      cases a <;> first | rfl | (cases b <;> rfl)
    | [a, b, c], hl => simp at hl)
  clear h0
  cases q1
  cases r1 with
  | ref n hn => cases r2 with
    | int i =>
      have h0 : FinE w W ι g.length H σ0 (if i = 0 then (match g[n]? with | some (.lst xs) => if xs.length < sizeLine then .ok .non (g.set n (.lst (f :: xs))) else .bad | _ => .bad) else .bad) Q := h
      split at h0
      · rename_i hi
        subst hi
        split at h0
        · rename_i ys q
          obtain ⟨_, vs, k1, k2⟩ := cell_lst rl q
          split at h0
          · rename_i hz
            refine mt_insert pins s σ H _ _ v us Q I rx rs ⟨_, vs, 0, z, rfl, rfl, k1, by rw [← k2.length]; exact hz, Int.le_refl _, by decide, ?_⟩
            have ev : (List.take (0 : Int).toNat vs ++ [z] ++ List.drop (0 : Int).toNat vs) = z :: vs := by simp
            rw [ev]
            have x : Ext ι g.length H ι g.length (upd H (ι n) (.lst (z :: vs))) := Ext.write hn
            have rl2 := rl.write (c := .lst (f :: ys)) (o := .lst (z :: vs)) hn ⟨_, upd_same, (RelDs.cons r3 k2).mono x rl.cells⟩
            have q := h0 ι (upd H (ι n) (.lst (z :: vs))) .non
            rw [List.length_set] at q
            exact q x rl2 .non
          · exact False.elim h0
        · exact False.elim h0
      · exact False.elim h0
    | _ => exact False.elim h
  | _ => exact False.elim h
end
end M3
/-! L3Con: the forms of expressions -/
namespace M3
open PySem L2 PyProof.Rows

theorem R.bind_assoc {α β γ : Type} (r : R α) (f : α → G → R β) (k : β → G → R γ) : (r.bind f).bind k = r.bind fun a g => (f a g).bind k := by
  cases r <;> rfl
/-- what is known of the context -/
structure EOk (X : Cx) (w : Wd) (c : Cfg) : Prop where
  hK : X.K = w.K.K
  un : X.A.units + 100 < cLine
  gd : X.A.guards = some []
  cm : X.calm = c.calm
section
variable {X : Cx} {w : Wd} {W : WX} {c : Cfg} {ι : Iota} {H : Hp} {σ : L2.St} {ρ : Env} {g : G} {γ δ : Type} {Rl : RL γ δ} {Q : δ → Hp → Prop}
theorem go_E {f : Env → G → R D} {k : D → G → R γ} {P : V → Hp → Prop} (rl : Rel w ι g H) (re : RelE w ι g.length H ρ σ) (h : FinR Rl w W ι g.length H σ ((f ρ g).bind k) Q)
    (hp : ∀ ι1 (g1 : G) d v H1, Ext ι g.length H ι1 g1.length H1 → Rel w ι1 g1 H1 → RelE w ι1 g1.length H1 ρ σ → RelD w.K ι1 g1.length H1 d v → FinR Rl w W ι1 g1.length H1 σ (k d g1) Q → P v H1) : tE w W f σ H P :=
  ⟨ι, ρ, g, rl, re, (FinR.bind (Rl := rD w) h).imp fun v H1 ⟨ι1, g1, d, x, a, b, q⟩ => hp ι1 g1 d v H1 x a (re.mono x rl.cells) b q⟩
theorem go_A {f : Env → G → R (List D)} {k : List D → G → R γ} {P : List V → Hp → Prop} (rl : Rel w ι g H) (re : RelE w ι g.length H ρ σ) (h : FinR Rl w W ι g.length H σ ((f ρ g).bind k) Q)
    (hp : ∀ ι1 (g1 : G) d v H1, Ext ι g.length H ι1 g1.length H1 → Rel w ι1 g1 H1 → RelE w ι1 g1.length H1 ρ σ → RelDs w.K ι1 g1.length H1 d v → FinR Rl w W ι1 g1.length H1 σ (k d g1) Q → P v H1) : tA w W f σ H P :=
  ⟨ι, ρ, g, rl, re, (FinR.bind (Rl := rDs w) h).imp fun v H1 ⟨ι1, g1, d, x, a, b, q⟩ => hp ι1 g1 d v H1 x a (re.mono x rl.cells) b q⟩
theorem go_T {f : Env → G → R Bool} {k : Bool → G → R γ} {P : Bool → Hp → Prop} (rl : Rel w ι g H) (re : RelE w ι g.length H ρ σ) (h : FinR Rl w W ι g.length H σ ((f ρ g).bind k) Q)
    (hp : ∀ ι1 (g1 : G) b H1, Ext ι g.length H ι1 g1.length H1 → Rel w ι1 g1 H1 → RelE w ι1 g1.length H1 ρ σ → FinR Rl w W ι1 g1.length H1 σ (k b g1) Q → P b H1) : tT w W f σ H P :=
  ⟨ι, ρ, g, rl, re, (FinR.bind (Rl := rEq Bool) h).imp fun v H1 ⟨ι1, g1, d, x, a, b, q⟩ => by
    have e : d = v := b
    subst e
    exact hp ι1 g1 d H1 x a (re.mono x rl.cells) q⟩
theorem go_O {f : Env → G → R (Option Int)} {k : Option Int → G → R γ} {P : Option Int → Hp → Prop} (rl : Rel w ι g H) (re : RelE w ι g.length H ρ σ) (h : FinR Rl w W ι g.length H σ ((f ρ g).bind k) Q)
    (hp : ∀ ι1 (g1 : G) b H1, Ext ι g.length H ι1 g1.length H1 → Rel w ι1 g1 H1 → RelE w ι1 g1.length H1 ρ σ → FinR Rl w W ι1 g1.length H1 σ (k b g1) Q → P b H1) : tOI w W f σ H P :=
  ⟨ι, ρ, g, rl, re, (FinR.bind (Rl := rEq (Option Int)) h).imp fun v H1 ⟨ι1, g1, d, x, a, b, q⟩ => by
    have e : d = v := b
    subst e
    exact hp ι1 g1 d H1 x a (re.mono x rl.cells) q⟩
theorem opC_of {o : Op} {b : Bool} {ds : List D} {Q : VK} (h : FinE w W ι g.length H σ (opC b o ds g) Q) : (calmOp o = false ∨ b = true) ∧ FinE w W ι g.length H σ (opM o ds g) Q := by
  unfold opC at h
  split at h
  · exact False.elim h
  · rename_i z
    refine ⟨?_, h⟩
    cases q : calmOp o <;> cases b <;> simp_all
/-- what an op does behind its arguments -/
abbrev rOC (X : Cx) (w : Wd) (o : Op) : List V → Hp → VK → Prop := fun vs H Q => (calmOp o = false ∨ X.calm = true) ∧ rO w o vs H Q
theorem rOC_of (E : EOk X w c) {o : Op} {ds : List D} {vs : List V} {Q : VK} (rl : Rel w ι g H) (rs : RelDs w.K ι g.length H ds vs) (h : FinE w W ι g.length H σ (opC c.calm o ds g) Q) : rOC X w o vs H Q := by
  obtain ⟨h1, h2⟩ := opC_of h
  exact ⟨by rw [E.cm]; exact h1, W, σ, ι, g, ds, rl, rs, h2⟩
theorem callC {f : Value} {o : Op} (h : (calmOp o = false ∨ X.calm = true) → CallR X f (fun xs H Q => rO w o xs H Q)) : CallR X f (rOC X w o) := fun pins s σ H xs us Q I rs q => h q.1 pins s σ H xs us Q I rs q.2
theorem callP {f : Value} {o : Op} (h : CallR X f (fun xs H Q => rO w o xs H Q)) : CallR X f (rOC X w o) := callC fun _ => h
theorem callK {f : Value} {o : Op} (hk : calmOp o = true) (h : X.calm = true → CallR X f (fun xs H Q => rO w o xs H Q)) : CallR X f (rOC X w o) := callC fun q => h (q.resolve_left (by rw [hk]; decide))

/-! ### judgements -/
abbrev SE (X : Cx) (w : Wd) (W : WX) (c : Cfg) (e : Expr) (m : ME) : Prop := PE X e (tE w W (evE c m))
abbrev SA (X : Cx) (w : Wd) (W : WX) (c : Cfg) (es : List Expr) (ms : List ME) : Prop := PA X es (tA w W (evEs c ms))
abbrev SO (X : Cx) (w : Wd) (W : WX) (c : Cfg) (e : Option Expr) (m : Option ME) : Prop := PO X e (tOI w W (evO c m))
/-- a term as a test -/
noncomputable def evB (c : Cfg) (m : ME) (ρ : Env) (g : G) : R Bool := (evE c m ρ g).bind fun d g1 => match truM g1 d with | some b => .ok b g1 | none => .bad
abbrev SB (X : Cx) (w : Wd) (W : WX) (c : Cfg) (e : Expr) (m : ME) : Prop := PT X e (tT w W (evB c m))

variable {e a b : Expr} {es : List Expr} {m ma mb mc : ME} {ms : List ME} {pos : Pos}
theorem sv (i : Nat) {x : Str} (hN : X.N[i]? = some x := by rfl) (hv : Vis X.env.scope x := by first | exact Or.inl rfl | exact Or.inr (Or.inl rfl) | exact Or.inr (Or.inr rfl)) (hd : (x == ("__debug__" : Str)) = false := by decide)
    (hcd : (x == ("__classdict__" : Str)) = false := by decide) : SE X w W c (.Name x pos) (.v i) := by
  refine PE.imp (pe_var hN hv hd hcd) fun σ H Q ⟨ι, ρ, g, rl, re, h⟩ => ?_
  unfold evE at h
  split at h
  · rename_i d q
    obtain ⟨v, e1, r⟩ := re.2 i d q
    exact ⟨v, e1, h.here rl r⟩
  · exact False.elim h
/-- a constant -/
theorem sk_of {v : V} {d : D} (h : PE X e (tC v)) (k : ∀ (K : KH) (ι : Iota) (N : Nat) (H : Hp), RelD K ι N H d v) : SE X w W c e (.k d) := by
  refine PE.imp h fun σ H Q ⟨ι, ρ, g, rl, re, h⟩ => ?_
  unfold evE at h
  exact FinR.here h rl (k _ _ _ _)
theorem sk_int {i : Int} {j : Nat} : SE X w W c (.Constant (.int i) j pos) (.k (.int i)) := sk_of pe_int fun _ _ _ _ => .int _
theorem sk_bl {b : Bool} {j : Nat} : SE X w W c (.Constant (.bool b) j pos) (.k (.bl b)) := sk_of pe_bl fun _ _ _ _ => .bl _
theorem sk_non {j : Nat} : SE X w W c (.Constant .none j pos) (.k .non) := sk_of pe_non fun _ _ _ _ => .non
theorem sk_str {x : Str} {j : Nat} : SE X w W c (.Constant (.str x) j pos) (.k (.str x)) := sk_of pe_str fun _ _ _ _ => .str _
/-- a text of the module -/
theorem sk_glob {x y : Str} {t : Tok} (hm : X.mg x = some (.str y t)) (hg : Gl X x := by rfl) (hd : (x == ("__debug__" : Str)) = false := by decide) : SE X w W c (.Name x pos) (.k (.str y)) := sk_of (pe_glob (v := .str y) hg hm ⟨t, rfl⟩ hd) fun _ _ _ _ => .str _

/-! ### argument lists -/
theorem sa_nil : SA X w W c [] [] := by
  refine PA.imp pa_nil fun σ H Q ⟨ι, ρ, g, rl, re, h⟩ => ?_
  unfold evEs at h
  exact FinR.here h rl .nil
theorem sa_cons (ha : SE X w W c e m) (hr : SA X w W c es ms) (hs : starEach (e :: es) X.env = (false, eval e X.env) :: starEach es X.env := by rfl) : SA X w W c (e :: es) (m :: ms) := by
  refine PA.imp (pa_cons ha hr hs) fun σ H Q ⟨ι, ρ, g, rl, re, h⟩ => ?_
  unfold evEs at h
  refine go_E rl re h fun ι1 g1 d v H1 x1 rl1 re1 r1 h1 => ?_
  refine go_A rl1 re1 h1 fun ι2 g2 ds vs H2 x2 rl2 re2 r2 h2 => ?_
  exact FinR.here h2 rl2 (.cons (r1.mono x2 rl1.cells) r2)

/-! ### operations -/
/-- f(..) of a built-in function -/
theorem s_bi {x : Str} {p : Pos} {id : String} {o : Op} (E : EOk X w c) (hc : CallR X (.builtin id) (rOC X w o)) (hm : X.mg x = none) (hv : bootBuiltins x = some (.builtin id)) (ha : SA X w W c (e :: es) ms) (hg : Gl X x := by rfl) (hn : x ≠ "__name__" := by decide)
    (hdb : (x == ("__debug__" : Str)) = false := by decide) (he : starEach (e :: es) X.env = (false, eval e X.env) :: starEach es X.env := by rfl) (hpl : (backTo pos (starEach es X.env)).any (·.1) = false := by rfl) :
    SE X w W c (.Call (.Name x p) (e :: es) [] pos) (.op o ms) := by
  refine PE.imp (pe_callB hc hg hm hv ha hn hdb he hpl) fun σ H Q ⟨ι, ρ, g, rl, re, h⟩ => ?_
  unfold evE at h
  exact go_A rl re h fun ι1 g1 d v H1 x1 rl1 re1 r1 h1 => rOC_of E rl1 r1 h1
theorem s_ty {x : Str} {p : Pos} {T : String} {o : Op} (E : EOk X w c) (hc : CallR X (.type T) (rOC X w o)) (hm : X.mg x = none) (hv : bootBuiltins x = some (.type T)) (ha : SA X w W c (e :: es) ms) (hg : Gl X x := by rfl) (hn : x ≠ "__name__" := by decide)
    (hdb : (x == ("__debug__" : Str)) = false := by decide) (he : starEach (e :: es) X.env = (false, eval e X.env) :: starEach es X.env := by rfl) (hpl : (backTo pos (starEach es X.env)).any (·.1) = false := by rfl) :
    SE X w W c (.Call (.Name x p) (e :: es) [] pos) (.op o ms) := by
  refine PE.imp (pe_callTy hc hg hm hv ha hn hdb he hpl) fun σ H Q ⟨ι, ρ, g, rl, re, h⟩ => ?_
  unfold evE at h
  exact go_A rl re h fun ι1 g1 d v H1 x1 rl1 re1 r1 h1 => rOC_of E rl1 r1 h1
theorem evEs_two (c : Cfg) (a b : ME) (ρ : Env) (g : G) : evEs c [a, b] ρ g = (evE c a ρ g).bind fun x g1 => (evE c b ρ g1).bind fun y g2 => .ok [x, y] g2 := by
  unfold evEs
  congr 1
  funext x g1
  unfold evEs
  rw [R.bind_assoc]
  congr 1
theorem evEs_one (c : Cfg) (a : ME) (ρ : Env) (g : G) : evEs c [a] ρ g = (evE c a ρ g).bind fun x g1 => .ok [x] g1 := by
  unfold evEs
  congr 1
/-- a op b -/
theorem two_of (E : EOk X w c) {o : Op} {Q : VK} (h : tE w W (evE c (.op o [ma, mb])) σ H Q) : tOp (fun x y H Q => rOC X w o [x, y] H Q) (tE w W (evE c ma)) (tE w W (evE c mb)) σ H Q := by
  obtain ⟨ι, ρ, g, rl, re, h⟩ := h
  unfold evE at h
  rw [evEs_two, R.bind_assoc] at h
  refine go_E rl re h fun ι1 g1 d v H1 x1 rl1 re1 r1 h1 => ?_
  rw [R.bind_assoc] at h1
  refine go_E rl1 re1 h1 fun ι2 g2 ds vs H2 x2 rl2 re2 r2 h2 => ?_
  exact rOC_of E rl2 (.cons (r1.mono x2 rl1.cells) (.cons r2 .nil)) h2
theorem one_of (E : EOk X w c) {o : Op} {Q : VK} (h : tE w W (evE c (.op o [ma])) σ H Q) : tE w W (evE c ma) σ H fun x H1 => rOC X w o [x] H1 Q := by
  obtain ⟨ι, ρ, g, rl, re, h⟩ := h
  unfold evE at h
  rw [evEs_one, R.bind_assoc] at h
  exact go_E rl re h fun ι1 g1 d v H1 x1 rl1 re1 r1 h1 => rOC_of E rl1 (.cons r1 .nil) h1
theorem opP {f : Value → Value → Sem Value} {o : Op} (h : OpR X f (fun x y H Q => rO w o [x, y] H Q)) : OpR X f (fun x y H Q => rOC X w o [x, y] H Q) := fun pins s σ H x y v u Q I rx ry q => h pins s σ H x y v u Q I rx ry q.2
theorem s_bin {o : Op} {op : Operator} (E : EOk X w c) (ho : OpR X (binaryOp op) (fun x y H Q => rO w o [x, y] H Q)) (ha : SE X w W c a ma) (hb : SE X w W c b mb) : SE X w W c (.BinOp a op b pos) (.op o [ma, mb]) :=
  PE.imp (pe_op (opP ho) ha hb) fun σ H Q h => two_of E h
theorem s_cmp {o : Op} {op : CmpOp} (E : EOk X w c) (ho : OpR X (compareOp op) (fun x y H Q => rO w o [x, y] H Q)) (ha : SE X w W c a ma) (hb : SE X w W c b mb) (hm : behindInMarks op b = false) : SE X w W c (.Compare a [op] [b] pos) (.op o [ma, mb]) :=
  PE.imp (pe_cmpR (opP ho) ha hb hm) fun σ H Q h => two_of E h
theorem s_ix (E : EOk X w c) (ha : SE X w W c a ma) (hb : SE X w W c b mb) (hs : PlainIx b := by intro _ _; rfl) : SE X w W c (.Subscript a b pos) (.op .ix [ma, mb]) :=
  PE.imp (pe_ix (r := fun x y H Q => rOC X w .ix [x, y] H Q) (fun va sl pins s σ H x y v u Q I rx ry q => snd_ix E.hK va sl pins s σ H x y v u Q I rx ry q.2) ha hb hs) fun σ H Q h => two_of E h
theorem s_neg (E : EOk X w c) (ha : SE X w W c a ma) : SE X w W c (.UnaryOp .USub a pos) (.op .neg [ma]) :=
  PE.imp (pe_un snd_neg ha) fun σ H Q h => by
    obtain ⟨ι, ρ, g, rl, re, h⟩ := one_of E h
    exact ⟨ι, ρ, g, rl, re, h.imp fun v H1 q => q.2⟩
theorem s_isNone {j : Nat} {p2 : Pos} (E : EOk X w c) (ha : SE X w W c a ma) : SE X w W c (.Compare a [.Is] [.Constant .none j p2] pos) (.op .isNone [ma]) := by
  refine PE.imp (pe_cmpR (r := fun x y H Q => y = .non ∧ rO w .isNone [x] H Q) (fun pins s σ H x y v u Q I rx ry ⟨e, q⟩ => ?_) ha pe_non (nomark _)) fun σ H Q h => ?_
  · subst e
    cases (show u = Value.none from ry)
    exact snd_isNone pins s σ H x v Q I rx q
  · obtain ⟨ι, ρ, g, rl, re, h⟩ := one_of E h
    exact ⟨ι, ρ, g, rl, re, h.imp fun v H1 q => ⟨rfl, q.2⟩⟩
theorem s_notNone {j : Nat} {p2 : Pos} (E : EOk X w c) (ha : SE X w W c a ma) : SE X w W c (.Compare a [.IsNot] [.Constant .none j p2] pos) (.op .notNone [ma]) := by
  refine PE.imp (pe_cmpR (r := fun x y H Q => y = .non ∧ rO w .notNone [x] H Q) (fun pins s σ H x y v u Q I rx ry ⟨e, q⟩ => ?_) ha pe_non (nomark _)) fun σ H Q h => ?_
  · subst e
    cases (show u = Value.none from ry)
    exact snd_notNone pins s σ H x v Q I rx q
  · obtain ⟨ι, ρ, g, rl, re, h⟩ := one_of E h
    exact ⟨ι, ρ, g, rl, re, h.imp fun v H1 q => ⟨rfl, q.2⟩⟩
theorem s_isTrue {j : Nat} {p2 : Pos} (E : EOk X w c) (ha : SE X w W c a ma) : SE X w W c (.Compare a [.Is] [.Constant (.bool true) j p2] pos) (.op .isTrue [ma]) := by
  refine PE.imp (pe_cmpR (snd_isTrue (w := w)) ha pe_bl (nomark _)) fun σ H Q h => ?_
  obtain ⟨ι, ρ, g, rl, re, h⟩ := one_of E h
  exact ⟨ι, ρ, g, rl, re, h.imp fun v H1 q => ⟨rfl, q.2⟩⟩
/-- isinstance(a, T) -/
theorem s_isT {x : Str} {p q : Pos} (t : Ty) (E : EOk X w c) (hm : X.mg "isinstance" = none) (hmT : X.mg x = none) (hvT : bootBuiltins x = some (.type (tyS t))) (ha : SE X w W c a ma) (ht : t ≠ .listTuple := by decide) (hg : Gl X "isinstance" := by rfl) (hgT : Gl X x := by rfl)
    (hnT : x ≠ "__name__" := by decide) (hdT : (x == ("__debug__" : Str)) = false := by decide) (hv : bootBuiltins "isinstance" = some (.builtin "isinstance") := by decide +kernel)
    (he : starEach [a, .Name x q] X.env = (false, eval a X.env) :: starEach [.Name x q] X.env := by rfl) : SE X w W c (.Call (.Name "isinstance" p) [a, .Name x q] [] pos) (.op (.isT t) [ma]) := by
  refine PE.imp (pe_callB (snd_isT E.hK t ht) hg hm hv (pa_cons ha (pa_cons (pe_bltn (v := .ty (tyS t)) hgT hmT hvT rfl hnT hdT) pa_nil) he) (he := he)) fun σ H Q h => ?_
  obtain ⟨ι, ρ, g, rl, re, h⟩ := one_of E h
  exact ⟨ι, ρ, g, rl, re, h.imp fun v H1 q => ⟨v, rfl, q.2⟩⟩
end
end M3
/-! L3Tst: tests, and / or / not, the written tuples, lists and dicts, slices, methods, formatted texts -/
namespace M3
open PySem L2 PyProof.Rows
section
variable {X : Cx} {w : Wd} {W : WX} {c : Cfg} {ι : Iota} {H : Hp} {σ : L2.St} {ρ : Env} {g : G}
variable {e a b t : Expr} {es rest : List Expr} {m ma mb mc : ME} {ms : List ME} {pos : Pos}

/-! ### tests -/
theorem sb_val (E : EOk X w c) (ha : SE X w W c a ma) (he : ∀ whole, isTrue a X.env whole = (do let v ← whole; standAt a.pos; holding [v] (truthy v)) := by intro _; rfl) : SB X w W c a ma := by
  refine PT.imp (pt_truth ha he) fun σ H Q ⟨ι, ρ, g, rl, re, h⟩ => ?_
  unfold evB at h
  refine go_E rl re h fun ι1 g1 d v H1 x1 rl1 re1 r1 h1 => ?_
  cases q : truM g1 d with
  | none => rw [q] at h1; exact False.elim h1
  | some k =>
    rw [q] at h1
    exact ⟨k, tru_rel E.hK rl1 r1 q, FinR.here h1 rl1 rfl⟩
/-- the op's value is a bool -/
def BoolOp (o : Op) : Prop := ∀ ds g d g1, opM o ds g = .ok d g1 → ∃ k, d = .bl k
theorem optB_ok {o : Option Bool} {g g1 : G} {d : D} (h : optB o g = .ok d g1) : ∃ k, d = .bl k := by
  cases o with
  | none => cases h
  | some k => cases h; exact ⟨k, rfl⟩
theorem boolR {o : Op} {vs : List V} {Q : Bool → Hp → Prop} (ho : BoolOp o) {ds : List D} (rl : Rel w ι g H) (rs : RelDs w.K ι g.length H ds vs)
    (h : FinR (rEq Bool) w W ι g.length H σ ((opC c.calm o ds g).bind fun d g1 => match truM g1 d with | some b => .ok b g1 | none => .bad) Q) (E : EOk X w c) : rOC X w o vs H fun x H' => ∃ k, x = .bl k ∧ Q k H' := by
  have hb : (calmOp o = false ∨ X.calm = true) ∧ FinR (rEq Bool) w W ι g.length H σ ((opM o ds g).bind fun d g1 => match truM g1 d with | some b => .ok b g1 | none => .bad) Q := by
    unfold opC at h
    split at h
    · exact False.elim h
    · rename_i z
      refine ⟨?_, h⟩
      rw [E.cm]
      cases q : calmOp o <;> cases q2 : c.calm <;> simp_all
  refine ⟨hb.1, W, σ, ι, g, ds, rl, rs, ?_⟩
  replace h := hb.2
  cases q : opM o ds g with
  | bad => rw [q] at h; exact False.elim h
  | exc k fs g1 => rw [q] at h; exact h
  | ok d g1 =>
    obtain ⟨k, rfl⟩ := ho ds g d g1 q
    rw [q] at h
    have h' : FinR (rEq Bool) w W ι g.length H σ (.ok k g1) Q := h
    exact fun ι' H' v x r rv => by
      cases rv
      exact ⟨k, rfl, h' ι' H' k x r rfl⟩
theorem sb_cmp {o : Op} {op : CmpOp} (E : EOk X w c) (hb' : BoolOp o) (ho : OpR X (compareOp op) (fun x y H Q => rO w o [x, y] H Q)) (ha : SE X w W c a ma) (hb : SE X w W c b mb) (hm : behindInMarks op b = false) : SB X w W c (.Compare a [op] [b] pos) (.op o [ma, mb]) := by
  refine PT.imp (pt_cmpR (opP ho) ha hb hm) fun σ H Q ⟨ι, ρ, g, rl, re, h⟩ => ?_
  unfold evB evE at h
  rw [R.bind_assoc, evEs_two, R.bind_assoc] at h
  refine go_E rl re h fun ι1 g1 d v H1 x1 rl1 re1 r1 h1 => ?_
  rw [R.bind_assoc] at h1
  refine go_E rl1 re1 h1 fun ι2 g2 ds vs H2 x2 rl2 re2 r2 h2 => ?_
  exact boolR hb' rl2 (.cons (r1.mono x2 rl1.cells) (.cons r2 .nil)) h2 E
theorem bo_eq : BoolOp .eq := fun ds g d g1 h => by
  match ds, h with
  | [a, b], h => exact optB_ok h
theorem bo_ne : BoolOp .ne := fun ds g d g1 h => by
  match ds, h with
  | [a, b], h => exact optB_ok h
theorem bo_isin : BoolOp .isin := fun ds g d g1 h => by
  match ds, h with
  | [a, b], h => exact optB_ok h
theorem bo_notin : BoolOp .notin := fun ds g d g1 h => by
  match ds, h with
  | [a, b], h => exact optB_ok h
theorem bo_of {o : Op} {f : Int → Int → Bool} (h1 : ∀ i j g, opM o [.int i, .int j] g = .ok (.bl (f i j)) g) (h0 : ∀ ds g, (∀ i j, ds ≠ [.int i, .int j]) → opM o ds g = .bad) : BoolOp o := fun ds g d g1 h => by
  by_cases q : ∃ i j, ds = [.int i, .int j]
  · obtain ⟨i, j, rfl⟩ := q
    rw [h1] at h
    cases h
    exact ⟨_, rfl⟩
  · rw [h0 ds g fun i j z => q ⟨i, j, z⟩] at h
    cases h
theorem bo_lt : BoolOp .lt := bo_of (fun _ _ _ => rfl) fun ds g h => by
  match ds, h with
  | [], _ => rfl
  | [a], _ => cases a <;> rfl
  | [a, b], h => cases a <;> first | rfl | (cases b <;> first | rfl | exact absurd rfl (h _ _))
  | a :: b :: e :: r, _ => cases a <;> first | rfl | (cases b <;> rfl)
theorem bo_le : BoolOp .le := bo_of (fun _ _ _ => rfl) fun ds g h => by
  match ds, h with
  | [], _ => rfl
  | [a], _ => cases a <;> rfl
  | [a, b], h => cases a <;> first | rfl | (cases b <;> first | rfl | exact absurd rfl (h _ _))
  | a :: b :: e :: r, _ => cases a <;> first | rfl | (cases b <;> rfl)
theorem bo_gt : BoolOp .gt := bo_of (fun _ _ _ => rfl) fun ds g h => by
  match ds, h with
  | [], _ => rfl
  | [a], _ => cases a <;> rfl
  | [a, b], h => cases a <;> first | rfl | (cases b <;> first | rfl | exact absurd rfl (h _ _))
  | a :: b :: e :: r, _ => cases a <;> first | rfl | (cases b <;> rfl)
theorem bo_ge : BoolOp .ge := bo_of (fun _ _ _ => rfl) fun ds g h => by
  match ds, h with
  | [], _ => rfl
  | [a], _ => cases a <;> rfl
  | [a, b], h => cases a <;> first | rfl | (cases b <;> first | rfl | exact absurd rfl (h _ _))
  | a :: b :: e :: r, _ => cases a <;> first | rfl | (cases b <;> rfl)
theorem sb_isNone {j : Nat} {p2 : Pos} (E : EOk X w c) (ha : SE X w W c a ma) : SB X w W c (.Compare a [.Is] [.Constant .none j p2] pos) (.op .isNone [ma]) := by
  refine PT.imp (pt_cmpR (r := fun x y H Q => y = .non ∧ rO w .isNone [x] H Q) (fun pins s σ H x y v u Q I rx ry ⟨e, q⟩ => ?_) ha pe_non (nomark _)) fun σ H Q ⟨ι, ρ, g, rl, re, h⟩ => ?_
  · subst e
    cases (show u = Value.none from ry)
    exact snd_isNone pins s σ H x v Q I rx q
  · unfold evB evE at h
    rw [R.bind_assoc, evEs_one, R.bind_assoc] at h
    refine go_E rl re h fun ι1 g1 d v H1 x1 rl1 re1 r1 h1 => ⟨rfl, (boolR (o := .isNone) (fun ds g d g1 h => ?_) rl1 (.cons r1 .nil) h1 E).2⟩
    match ds, h with
    | [x], h => cases x <;> cases h <;> exact ⟨_, rfl⟩
    | [], h => cases h
    | x :: y :: r, h => cases x <;> cases h
theorem sb_notNone {j : Nat} {p2 : Pos} (E : EOk X w c) (ha : SE X w W c a ma) : SB X w W c (.Compare a [.IsNot] [.Constant .none j p2] pos) (.op .notNone [ma]) := by
  refine PT.imp (pt_cmpR (r := fun x y H Q => y = .non ∧ rO w .notNone [x] H Q) (fun pins s σ H x y v u Q I rx ry ⟨e, q⟩ => ?_) ha pe_non (nomark _)) fun σ H Q ⟨ι, ρ, g, rl, re, h⟩ => ?_
  · subst e
    cases (show u = Value.none from ry)
    exact snd_notNone pins s σ H x v Q I rx q
  · unfold evB evE at h
    rw [R.bind_assoc, evEs_one, R.bind_assoc] at h
    refine go_E rl re h fun ι1 g1 d v H1 x1 rl1 re1 r1 h1 => ⟨rfl, (boolR (o := .notNone) (fun ds g d g1 h => ?_) rl1 (.cons r1 .nil) h1 E).2⟩
    match ds, h with
    | [x], h => cases x <;> cases h <;> exact ⟨_, rfl⟩
    | [], h => cases h
    | x :: y :: r, h => cases x <;> cases h

/-! ### and, or, not, if -/
/-- a test by and / or, whatever its whole -/
abbrev SW (X : Cx) (w : Wd) (W : WX) (c : Cfg) (e : Expr) (m : ME) : Prop := PW X e (tT w W (evB c m))
theorem evB_and (c : Cfg) (a b : ME) (ρ : Env) (g : G) : evB c (.and a b) ρ g = (evB c a ρ g).bind fun k g1 => if k then evB c b ρ g1 else .ok false g1 := by
  unfold evB
  rw [evE, R.bind_assoc, R.bind_assoc]
  congr 1
  funext d g1
  cases q : truM g1 d with
  | none => rfl
  | some k => cases k with
    | true => rfl
    | false => simp [q]
theorem evB_or (c : Cfg) (a b : ME) (ρ : Env) (g : G) : evB c (.or a b) ρ g = (evB c a ρ g).bind fun k g1 => if k then .ok true g1 else evB c b ρ g1 := by
  unfold evB
  rw [evE, R.bind_assoc, R.bind_assoc]
  congr 1
  funext d g1
  cases q : truM g1 d with
  | none => rfl
  | some k => cases k with
    | false => rfl
    | true => simp [q]
theorem evB_not (c : Cfg) (a : ME) (ρ : Env) (g : G) : evB c (.not a) ρ g = (evB c a ρ g).bind fun k g1 => .ok (!k) g1 := by
  unfold evB
  rw [evE, R.bind_assoc, R.bind_assoc]
  congr 1
  funext d g1
  cases q : truM g1 d with
  | none => rfl
  | some k => cases k <;> rfl
theorem sw_and1 (ha : SB X w W c a ma) : SW X w W c (.BoolOp .And [a] pos) ma := pw_and1 ha
theorem sw_or1 (ha : SB X w W c a ma) : SW X w W c (.BoolOp .Or [a] pos) ma := pw_or1 ha
theorem sw_and (ha : SB X w W c a ma) (hb : SW X w W c (.BoolOp .And (b :: rest) pos) mb) : SW X w W c (.BoolOp .And (a :: b :: rest) pos) (.and ma mb) := by
  refine PW.imp (pw_and ha hb) fun σ H Q ⟨ι, ρ, g, rl, re, h⟩ => ?_
  rw [evB_and] at h
  refine go_T rl re h fun ι1 g1 k H1 x1 rl1 re1 h1 => ?_
  cases k with
  | true => exact ⟨ι1, ρ, g1, rl1, re1, h1⟩
  | false => exact FinR.here (v := false) h1 rl1 rfl
theorem sw_or (ha : SB X w W c a ma) (hb : SW X w W c (.BoolOp .Or (b :: rest) pos) mb) : SW X w W c (.BoolOp .Or (a :: b :: rest) pos) (.or ma mb) := by
  refine PW.imp (pw_or ha hb) fun σ H Q ⟨ι, ρ, g, rl, re, h⟩ => ?_
  rw [evB_or] at h
  refine go_T rl re h fun ι1 g1 k H1 x1 rl1 re1 h1 => ?_
  cases k with
  | false => exact ⟨ι1, ρ, g1, rl1, re1, h1⟩
  | true => exact FinR.here (v := true) h1 rl1 rfl
theorem sb_not (ha : SB X w W c a ma) : SB X w W c (.UnaryOp .Not a pos) (.not ma) := by
  refine PT.imp (pt_not ha) fun σ H Q ⟨ι, ρ, g, rl, re, h⟩ => ?_
  rw [evB_not] at h
  refine go_T rl re h fun ι1 g1 k H1 x1 rl1 re1 h1 => ?_
  exact FinR.here h1 rl1 rfl
/-- .. as values -/
theorem s_one {op : PySem.BoolOp} (ha : SE X w W c a ma) : SE X w W c (.BoolOp op [a] pos) ma := pe_one ha
theorem s_and (E : EOk X w c) (ha : SE X w W c a ma) (hb : SE X w W c (.BoolOp .And (b :: rest) pos) mb) : SE X w W c (.BoolOp .And (a :: b :: rest) pos) (.and ma mb) := by
  refine PE.imp (pe_andT ha hb) fun σ H Q ⟨ι, ρ, g, rl, re, h⟩ => ?_
  unfold evE at h
  refine go_E rl re h fun ι1 g1 d v H1 x1 rl1 re1 r1 h1 => ?_
  cases q : truM g1 d with
  | none => rw [q] at h1; exact False.elim h1
  | some k =>
    rw [q] at h1
    refine ⟨k, tru_rel E.hK rl1 r1 q, ?_⟩
    cases k with
    | true => exact ⟨ι1, ρ, g1, rl1, re1, h1⟩
    | false => exact FinR.here (v := v) h1 rl1 r1
theorem s_or (E : EOk X w c) (ha : SE X w W c a ma) (hb : SE X w W c (.BoolOp .Or (b :: rest) pos) mb) : SE X w W c (.BoolOp .Or (a :: b :: rest) pos) (.or ma mb) := by
  refine PE.imp (pe_orT ha hb) fun σ H Q ⟨ι, ρ, g, rl, re, h⟩ => ?_
  unfold evE at h
  refine go_E rl re h fun ι1 g1 d v H1 x1 rl1 re1 r1 h1 => ?_
  cases q : truM g1 d with
  | none => rw [q] at h1; exact False.elim h1
  | some k =>
    rw [q] at h1
    refine ⟨k, tru_rel E.hK rl1 r1 q, ?_⟩
    cases k with
    | false => exact ⟨ι1, ρ, g1, rl1, re1, h1⟩
    | true => exact FinR.here (v := v) h1 rl1 r1
theorem s_not (E : EOk X w c) (ha : SE X w W c a ma) : SE X w W c (.UnaryOp .Not a pos) (.not ma) := by
  refine PE.imp (pe_notT ha) fun σ H Q ⟨ι, ρ, g, rl, re, h⟩ => ?_
  unfold evE at h
  refine go_E rl re h fun ι1 g1 d v H1 x1 rl1 re1 r1 h1 => ?_
  cases q : truM g1 d with
  | none => rw [q] at h1; exact False.elim h1
  | some k =>
    rw [q] at h1
    exact ⟨k, tru_rel E.hK rl1 r1 q, FinR.here h1 rl1 (.bl _)⟩
theorem s_ife (ht : SB X w W c t m) (ha : SE X w W c a ma) (hb : SE X w W c b mb) : SE X w W c (.IfExp t a b pos) (.ife m ma mb) := by
  refine PE.imp (pe_ifExp ht ha hb) fun σ H Q ⟨ι, ρ, g, rl, re, h⟩ => ?_
  have e : evE c (.ife m ma mb) ρ g = (evB c m ρ g).bind fun k g1 => if k then evE c ma ρ g1 else evE c mb ρ g1 := by
    unfold evB
    rw [evE, R.bind_assoc]
    congr 1
    funext d g1
    cases q : truM g1 d with
    | none => rfl
    | some k => cases k <;> rfl
  rw [e] at h
  refine go_T rl re h fun ι1 g1 k H1 x1 rl1 re1 h1 => ?_
  cases k with
  | true => exact ⟨ι1, ρ, g1, rl1, re1, h1⟩
  | false => exact ⟨ι1, ρ, g1, rl1, re1, h1⟩

/-! ### displays -/
theorem s_tup {x1 : Nat} (ha : SA X w W c es ms) : SE X w W c (.Tuple es x1 pos) (.tup ms) := by
  refine PE.imp (pe_tup ha) fun σ H Q ⟨ι, ρ, g, rl, re, h⟩ => ?_
  unfold evE at h
  refine go_A rl re h fun ι1 g1 ds vs H1 x1 rl1 re1 r1 h1 => ?_
  split at h1
  · rename_i hz
    exact ⟨by rw [← r1.length]; exact hz, new_tup rl1 r1 h1⟩
  · exact False.elim h1
theorem s_lst {tr : Bool} (ha : SA X w W c es ms) : SE X w W c (.List es pos) (.lst tr ms) := by
  refine PE.imp (pe_lst ha) fun σ H Q ⟨ι, ρ, g, rl, re, h⟩ => ?_
  unfold evE at h
  refine go_A rl re h fun ι1 g1 ds vs H1 x1 rl1 re1 r1 h1 => ?_
  split at h1
  · rename_i hz
    exact ⟨by rw [← r1.length]; exact hz, new_list rl1 r1 h1⟩
  · exact False.elim h1
/-! ### slices -/
theorem so_none : SO X w W c none none := by
  refine PO.imp po_none fun σ H Q ⟨ι, ρ, g, rl, re, h⟩ => ?_
  unfold evO at h
  exact FinR.here h rl rfl
theorem so_some (ha : SE X w W c e m) : SO X w W c (some e) (some m) := by
  refine PO.imp (po_some ha) fun σ H Q ⟨ι, ρ, g, rl, re, h⟩ => ?_
  unfold evO at h
  refine go_E rl re h fun ι1 g1 d v H1 x1 rl1 re1 r1 h1 => ?_
  cases r1 with
  | int i => exact ⟨i, rfl, FinR.here h1 rl1 rfl⟩
  | _ => exact False.elim h1
end
end M3
/-! L3Mth: slices, built-in methods, formatted texts, chains, empty dicts, fields -/
namespace M3
open PySem L2 PyProof.Rows
section
variable {X : Cx} {w : Wd} {W : WX} {c : Cfg} {ι : Iota} {H : Hp} {σ : L2.St} {ρ : Env} {g : G}
variable {e a b t o : Expr} {es rest : List Expr} {m ma mb mc mo : ME} {ms : List ME} {pos : Pos}

/-! ### slices -/
theorem cut_rel {K : KH} {N : Nat} {xs : List D} {vs : List V} (r : RelDs K ι N H xs vs) (lo hi : Option Int) : RelDs K ι N H (cutD xs lo hi) (cutV vs lo hi) := by
  unfold cutD cutV
  rw [← r.length]
  exact (r.drop _).take _
theorem cut_whole {α : Type} {xs : List α} {lo hi : Option Int} (h : HT.sIx xs.length 0 lo = 0 ∧ HT.sIx xs.length xs.length hi = xs.length) : cutD xs lo hi = xs := by
  unfold cutD
  rw [h.1, h.2]
  simp
def rSl (w : Wd) (t : Bool) : V → Option Int → Option Int → Hp → VK → Prop := fun x lo hi H Q => ∃ W σ ι g d, Rel w ι g H ∧ RelD w.K ι (List.length g) H d x ∧ FinE w W ι g.length H σ (slM t d lo hi g) Q
theorem snd_sl (hK : X.K = w.K.K) (t : Bool) : SlR X (rSl w t) := by
  intro pins s σ H x v vl vu lo hi sl Q I rx hs pl pu h0
  obtain ⟨W, σ0, ι, g, d, rl, r, h⟩ := h0
  have viaL : ∀ ys : List D, lstOf g d = some ys → FinE w W ι g.length H σ0 (newL t (cutD ys lo hi) g) Q → ∃ T id, typeLookup (.type T) "__getitem__" = pure (some (.builtin id)) ∧ s.TypeIs v T ∧ wpAny (model X.prog X.w) X.A (getItem v (.ref sl)) (EP X pins σ Q) X.xe s := by
    intro ys e h
    obtain ⟨a, vs, rfl, k1, k2⟩ := lst_at rl r e
    have k1 := k1.sq
    rw [← hK] at k1
    exact sl_list pins s σ H _ v vl vu lo hi sl Q I rx hs pl pu ⟨a, vs, rfl, k1, new_list rl (cut_rel k2 lo hi) h⟩
  cases r with
  | str z =>
    have h' : FinE w W ι g.length H σ0 (if z.length ≤ sizeLine then .ok (.str (cutS z lo hi)) g else .bad) Q := h
    split at h'
    · rename_i hz
      exact sl_str pins s σ H _ v vl vu lo hi sl Q I rx hs pl pu ⟨z, rfl, hz, h'.here rl (.str _)⟩
    · exact False.elim h'
  | @tup a vs xs k1 k2 =>
    have k1' := k1
    rw [← hK] at k1
    have h' : FinE w W ι g.length H σ0 (.ok (.tup (cutD xs lo hi)) g) Q := h
    refine sl_tupA pins s σ H _ v vl vu lo hi sl Q I rx hs pl pu ⟨a, vs, rfl, k1, fun q => ?_, fun _ => new_tup rl (cut_rel k2 lo hi) h'⟩
    rw [← k2.length] at q
    rw [cut_whole q] at h'
    exact h'.here rl (.tup k1' k2)
  | lst k1 k3 => exact viaL _ rfl h
  | ref n hn =>
    have h' : FinE w W ι g.length H σ0 (match lstOf g (.ref n) with | some xs => newL t (cutD xs lo hi) g | none => .bad) Q := h
    obtain ⟨ys, e, h''⟩ := ref_lst (fun ys => newL t (cutD ys lo hi) g) h'
    exact viaL ys e h''
  | _ => exact False.elim h
theorem s_sl {tr : Bool} {lo hi : Option Expr} {ml mh : Option ME} {p2 : Pos} (E : EOk X w c) (ha : SE X w W c a ma) (hl : SO X w W c lo ml) (hh : SO X w W c hi mh) : SE X w W c (.Subscript a (.Slice lo hi none p2) pos) (.sl tr ma ml mh) := by
  refine PE.imp (pe_slice (snd_sl E.hK tr) ha hl hh) fun σ H Q ⟨ι, ρ, g, rl, re, h⟩ => ?_
  unfold evE at h
  refine go_E rl re h fun ι1 g1 d v H1 x1 rl1 re1 r1 h1 => ?_
  refine go_O rl1 re1 h1 fun ι2 g2 l H2 x2 rl2 re2 h2 => ?_
  refine go_O rl2 re2 h2 fun ι3 g3 u H3 x3 rl3 re3 h3 => ?_
  exact ⟨W, σ, ι3, g3, d, rl3, (r1.mono x2 rl1.cells).mono x3 rl2.cells, h3⟩

/-! ### methods of built-in types -/
def rcvT : Op → String
  | .append => "list" | .insert => "list" | _ => "str"
theorem rcv_ty (hK : X.K = w.K.K) {oo : Op} {d : D} {v : V} (rl : Rel w ι g H) (r : RelD w.K ι g.length H d v) (h : rcvM oo d g = true) : tyV X.K (rcvT oo) v H := by
  have viaL : ∀ ys : List D, lstOf g d = some ys → tyV X.K "list" v H := by
    intro ys e
    obtain ⟨a, vs, rfl, k1, k2⟩ := lst_at rl r e
    have k1 := k1.sq
    rw [← hK] at k1
    exact .inl ⟨rfl, _, k1⟩
  have viaS : (∀ s, d = .str s → tyV X.K "str" v H) := by
    rintro s rfl
    cases r
    exact rfl
  unfold rcvM at h
  split at h
  · exact viaS _ rfl
  · exact viaS _ rfl
  · exact viaS _ rfl
  · exact viaS _ rfl
  · obtain ⟨ys, e⟩ := Option.isSome_iff_exists.mp h
    exact viaL ys e
  · obtain ⟨ys, e⟩ := Option.isSome_iff_exists.mp h
    exact viaL ys e
  · cases h
theorem s_bm {oo : Op} {T id : String} {name : Str} {apos cpos : Pos} (E : EOk X w c) (hT : T = rcvT oo) (pa : PlainAttrs T) (slot : Slot T name id)
    (hty : typeOf (.builtin id) = pure (.type "method_descriptor")) (hm : (calmOp oo = false ∨ X.calm = true) → MtR X id (fun x xs H Q => rO w oo (x :: xs) H Q)) (ho : SE X w W c o mo) (ha : SA X w W c (e :: es) ms)
    (hbase : attributeBase o name X.env (eval o X.env) = eval o X.env := by rfl)
    (hfew : ((backTo cpos (starEach (e :: es) X.env)).all (fun x => !x.1) && (backToKw cpos (keywordEach [] X.env)).all (fun x => x.1.isSome)
      && decide ((e :: es).length + ([] : List Keyword).length + (if ([] : List Keyword).isEmpty then 0 else 1) < 30)) = true := by rfl)
    (hline : (apos.endLine == cpos.line) = true := by rfl) (hs : starEach (e :: es) X.env = (false, eval e X.env) :: starEach es X.env := by rfl) (hplain : (backTo cpos (starEach es X.env)).any (·.1) = false := by rfl) :
    SE X w W c (.Call (.Attribute o name apos) (e :: es) [] cpos) (.bm oo mo ms) := by
  refine PE.imp (pe_bm (r := fun x xs H Q => rOC X w oo (x :: xs) H Q) pa slot hty (fun pins s σ H x xs v us Q I rx rs q => hm q.1 pins s σ H x xs v us Q I rx rs q.2) ho ha hbase hfew hline hs hplain) fun σ H Q ⟨ι, ρ, g, rl, re, h⟩ => ?_
  unfold evE at h
  refine go_E rl re h fun ι1 g1 d v H1 x1 rl1 re1 r1 h1 => ?_
  split at h1
  · rename_i hr
    subst hT
    refine ⟨rcv_ty E.hK rl1 r1 hr, go_A rl1 re1 h1 fun ι2 g2 ds vs H2 x2 rl2 re2 r2 h2 => ?_⟩
    exact rOC_of E rl2 (.cons (r1.mono x2 rl1.cells) r2) h2
  · exact False.elim h1
theorem s_bm0 {oo : Op} {T id : String} {name : Str} {apos cpos : Pos} (E : EOk X w c) (hT : T = rcvT oo) (pa : PlainAttrs T) (slot : Slot T name id)
    (hty : typeOf (.builtin id) = pure (.type "method_descriptor")) (hm : (calmOp oo = false ∨ X.calm = true) → MtR X id (fun x xs H Q => rO w oo (x :: xs) H Q)) (ho : SE X w W c o mo)
    (hbase : attributeBase o name X.env (eval o X.env) = eval o X.env := by rfl) (hline : (apos.endLine == cpos.line) = true := by rfl) : SE X w W c (.Call (.Attribute o name apos) [] [] cpos) (.bm oo mo []) := by
  refine PE.imp (pe_bm0 (r := fun x xs H Q => rOC X w oo (x :: xs) H Q) pa slot hty (fun pins s σ H x xs v us Q I rx rs q => hm q.1 pins s σ H x xs v us Q I rx rs q.2) ho hbase hline) fun σ H Q ⟨ι, ρ, g, rl, re, h⟩ => ?_
  unfold evE at h
  refine go_E rl re h fun ι1 g1 d v H1 x1 rl1 re1 r1 h1 => ?_
  split at h1
  · rename_i hr
    subst hT
    refine ⟨rcv_ty E.hK rl1 r1 hr, ?_⟩
    have e0 : evEs c [] ρ g1 = .ok [] g1 := by unfold evEs; rfl
    rw [e0] at h1
    exact rOC_of E rl1 (.cons r1 .nil) h1
  · exact False.elim h1

/-! ### formatted texts -/
/-- a part {x} -/
theorem s_fs (E : EOk X w c) (ha : SE X w W c a ma) : SE X w W c (.FormattedValue a (-1) none pos) (.op .fs [ma]) := by
  refine PE.imp (pe_fmt ha) fun σ H Q h => ?_
  obtain ⟨ι, ρ, g, rl, re, h⟩ := one_of E h
  refine ⟨ι, ρ, g, rl, re, h.imp fun v H1 q => ?_⟩
  obtain ⟨W, σ0, ι, g, d, rl, r, h⟩ := rO1 q.2
  cases r with
  | str z =>
    have h' : FinE w W ι g.length H1 σ0 (if z.length ≤ sizeLine then .ok (.str z) g else .bad) Q := h
    split at h'
    · rename_i hz
      exact .inl ⟨z, rfl, hz, h'.here rl (.str _)⟩
    · exact False.elim h'
  | int i =>
    have h' : FinE w W ι g.length H1 σ0 (if i.natAbs.log2 < 1920 then .ok (.str (toString i)) g else .bad) Q := h
    split at h'
    · rename_i hz
      exact .inr ⟨i, rfl, hz, h'.here rl (.str _)⟩
    · exact False.elim h'
  | _ => exact False.elim h
inductive SJ (X : Cx) (w : Wd) (W : WX) (c : Cfg) : List Expr → List ME → Prop where
  | nil : SJ X w W c [] []
  | cons {e : Expr} {m : ME} {es : List Expr} {ms : List ME} (h : SE X w W c e m) (r : SJ X w W c es ms) : SJ X w W c (e :: es) (m :: ms)
theorem SJ.pj (h : SJ X w W c es ms) : PJ X es (ms.map fun m => tE w W (evE c m)) := by
  induction h with
  | nil => exact .nil
  | cons h r ih => exact .cons h ih
theorem js_run (ms : List ME) : ∀ (acc : Str) (ι : Iota) (H : Hp) (g : G) (Q : Str → Hp → Prop), Rel w ι g H → RelE w ι g.length H ρ σ →
    FinR (rEq Str) w W ι g.length H σ (evJ c ms acc ρ g) Q → tJs (ms.map fun m => tE w W (evE c m)) acc σ H Q := by
  induction ms with
  | nil =>
    intro acc ι H g Q rl re h
    unfold evJ at h
    exact FinR.here h rl rfl
  | cons m ms ih =>
    intro acc ι H g Q rl re h
    unfold evJ at h
    show tE w W (evE c m) σ H _
    refine go_E rl re h fun ι1 g1 d v H1 x1 rl1 re1 r1 h1 => ?_
    cases r1 with
    | str y =>
      dsimp only at h1
      split at h1
      · rename_i hz
        exact ⟨y, rfl, hz, ih _ ι1 H1 g1 Q rl1 re1 h1⟩
      · exact False.elim h1
    | _ => exact False.elim h1
theorem s_js {v1 v2 : Expr} (h : SJ X w W c (v1 :: v2 :: rest) ms) : SE X w W c (.JoinedStr (v1 :: v2 :: rest) pos) (.js ms) := by
  refine PE.imp (pe_joined h.pj) fun σ H Q ⟨ι, ρ, g, rl, re, h⟩ => ?_
  unfold evE at h
  refine js_run ms _ ι H g _ rl re ?_
  have q := FinR.bind (Rl := rEq Str) h
  refine q.imp fun s H1 ⟨ι1, g1, d, x, a, b, q⟩ => ?_
  have e : d = s := b
  subst e
  exact FinR.here q a (.str _)

/-! ### a op1 b op2 e -/
theorem s_chain {o1 o2 : Op} {op1 op2 : CmpOp} (E : EOk X w c) (h1 : OpR X (compareOp op1) (fun x y H Q => rO w o1 [x, y] H Q)) (h2 : OpR X (compareOp op2) (fun x y H Q => rO w o2 [x, y] H Q)) (ha : SE X w W c a ma) (hb : SE X w W c b mb) (he : SE X w W c e m)
    (hm : lastMarks [op1, op2] [b, e] = false := by with_unfolding_all rfl) : SE X w W c (.Compare a [op1, op2] [b, e] pos) (.chain o1 o2 ma mb m) := by
  refine PE.imp (pe_chain h1 h2 ha hb he hm) fun σ H Q ⟨ι, ρ, g, rl, re, h⟩ => ?_
  unfold evE at h
  refine go_E rl re h fun ι1 g1 d v H1 x1 rl1 re1 r1 h1 => ?_
  refine go_E rl1 re1 h1 fun ι2 g2 d2 v2 H2 x2 rl2 re2 r2 h2 => ?_
  have r1' := r1.mono x2 rl1.cells
  refine ⟨W, σ, ι2, g2, [d, d2], rl2, .cons r1' (.cons r2 .nil), (FinR.bind (Rl := rD w) h2).imp fun z H3 ⟨ι3, g3, dz, x3, rl3, rz, h3⟩ => ?_⟩
  cases rz with
  | bl k =>
    refine ⟨k, rfl, ?_⟩
    cases k with
    | true =>
      refine go_E rl3 (re2.mono x3 rl2.cells) h3 fun ι4 g4 d4 v4 H4 x4 rl4 re4 r4 h4 => ?_
      exact ⟨W, σ, ι4, g4, [d2, d4], rl4, .cons ((r2.mono x3 rl2.cells).mono x4 rl3.cells) (.cons r4 .nil), h4⟩
    | false => exact FinR.here (v := .bl false) h3 rl3 (.bl _)
  | _ => exact False.elim h3

/-! ### {} -/
theorem new_dict {W : WX} {t : Bool} {Q : VK} (rl : Rel w ι g H) (h : FinE w W ι g.length H σ (newD t [] [] g) Q) : ∀ p, H p = none → Q (.ref p) (upd H p (.dK [])) := by
  intro p hp
  cases t with
  | true =>
    have h' : FinE w W ι g.length H σ (.ok (.ref g.length) (g ++ [.dct [] []])) Q := h
    have hl : (g ++ [Cell.dct [] []]).length = g.length + 1 := by simp
    have x : Ext ι g.length H (iotaSet ι g.length p) (g.length + 1) (upd H p (.dK [])) := Ext.push hp
    have r' := rl.push (c := .dct [] []) (o := .dK []) hp ⟨[], upd_same, rfl, .nil⟩
    have q := h' (iotaSet ι g.length p) (upd H p (.dK [])) (.ref p)
    rw [hl] at q
    refine q x r' ?_
    have e : iotaSet ι g.length p g.length = p := iotaSet_same
    have k := RelD.ref (K := w.K) (ι := iotaSet ι g.length p) (H := upd H p (.dK [])) g.length (Nat.lt_succ_self _)
    rw [e] at k
    exact k
  | false =>
    have h' : FinE w W ι g.length H σ (.ok (.dct [] []) g) Q := h
    have x : Ext ι g.length H ι g.length (upd H p (.dK [])) := Ext.alloc hp
    refine h' ι _ _ x (rl.alloc hp) (.dct upd_same ⟨fun n hn e => ?_, fun hb => rl.hid p hb hp⟩ rfl .nil)
    obtain ⟨o, h1, _⟩ := rl.cells n hn
    rw [e, hp] at h1; cases h1
theorem s_dct0 {tr : Bool} : SE X w W c (.Dict [] [] pos) (.dct tr [] []) := by
  refine PE.imp pe_dnewK fun σ H Q ⟨ι, ρ, g, rl, re, h⟩ => ?_
  unfold evE at h
  exact new_dict rl h

/-! ### e.f of an object -/
theorem fld_rel {K : KH} {N : Nat} {f : Str} : ∀ {fs : List (Str × D)} {fv : List (Str × V)} {d : D}, fv.map (·.1) = fs.map (·.1) → RelDs K ι N H (fs.map (·.2)) (fv.map (·.2)) → fs.lookup f = some d → ∃ v, fv.lookup f = some v ∧ RelD K ι N H d v
  | [], _, _, _, _, e => by cases e
  | (k, d0) :: fs, [], _, he, _, _ => by cases he
  | (k, d0) :: fs, (k2, v0) :: fv, d, he, rs, e => by
    rw [List.map_cons, List.map_cons, List.cons.injEq] at he
    obtain ⟨h1, h2⟩ := he
    have h1 : k2 = k := h1
    subst h1
    rw [List.map_cons, List.map_cons] at rs
    cases rs with
    | cons r rs =>
      rw [List.lookup_cons] at e
      rw [List.lookup_cons]
      cases q : f == k2 with
      | true =>
        rw [q] at e
        cases e
        exact ⟨v0, rfl, r⟩
      | false =>
        rw [q] at e
        exact fld_rel h2 rs e
theorem fld_none {f : Str} : ∀ {fs : List (Str × D)} {fv : List (Str × V)}, fv.map (·.1) = fs.map (·.1) → fs.lookup f = none → fv.lookup f = none
  | [], [], _, _ => rfl
  | [], _ :: _, he, _ => by cases he
  | (k, d0) :: fs, [], he, _ => by cases he
  | (k, d0) :: fs, (k2, v0) :: fv, he, e => by
    rw [List.map_cons, List.map_cons, List.cons.injEq] at he
    obtain ⟨h1, h2⟩ := he
    have h1 : k2 = k := h1
    subst h1
    rw [List.lookup_cons] at e ⊢
    cases q : f == k2 with
    | true => rw [q] at e; cases e
    | false => rw [q] at e; exact fld_none h2 e
theorem s_fld {f : Str} {k : Nat} (E : EOk X w c) (c1 : Cls w.K.K (w.cl k)) (c2 : NoAttr w.K.K (w.cl k) f) (ha : SE X w W c a ma) (hb : attributeBase a f X.env (eval a X.env) = eval a X.env := by rfl) : SE X w W c (.Attribute a f pos) (.fld k f ma) := by
  refine PE.imp (pe_fld ha hb) fun σ H Q ⟨ι, ρ, g, rl, re, h⟩ => ?_
  unfold evE at h
  refine go_E rl re h fun ι1 g1 d v H1 x1 rl1 re1 r1 h1 => ?_
  cases r1 with
  | ref n hn =>
    dsimp only at h1
    split at h1
    · rename_i k fs q
      split at h1
      · rename_i hk
        subst hk
        obtain ⟨dx, fv, k1, k2, k3⟩ := rl1.cell n _ q
        cases q2 : fs.lookup f with
        | none => rw [q2] at h1; exact False.elim h1
        | some d =>
          rw [q2] at h1
          obtain ⟨u, e1, e2⟩ := fld_rel k2 k3 q2
          rw [E.hK]
          exact ⟨_, _, dx, fv, u, rfl, k1, c1, c2, e1, FinR.here h1 rl1 e2⟩
      · exact False.elim h1
    · exact False.elim h1
  | _ => exact False.elim h1
end
end M3
/-! L3Obj: what a def promises (with the guards, calm or hot), its calls, its body -/
namespace M3
open PySem L2 PyProof.Rows

structure RoomG (hot : Bool) (k : Nat) (A : Around) : Prop where
  hd : hot = false → A.handled = none
  dp : A.depth + 3 * k + 5 < recursionLimit
  un : A.units + 16 * k + 200 < cLine
  gd : A.guards = some []
theorem RoomG.mono {hot : Bool} {j k : Nat} {A : Around} (r : RoomG hot k A) (h : j ≤ k) : RoomG hot j A := ⟨r.hd, by have := r.dp; omega, by have := r.un; omega, r.gd⟩
theorem RoomG.deeper {hot : Bool} {k : Nat} {A : Around} (r : RoomG hot (k + 1) A) (env : PySem.Env) (hg : (A.deeper env).guards = some []) : RoomG hot k (A.deeper env) :=
  ⟨r.hd, by have := r.dp; show A.depth + 1 + 3 * k + 5 < _; omega, by have := r.un; show A.units + 3 + 16 * k + 200 < _; omega, hg⟩
theorem RoomG.depth {hot : Bool} {k : Nat} {A : Around} (r : RoomG hot k A) : A.depth < recursionLimit := by have := r.dp; omega
/-- the handled exception stands (in an except suite) -/
def HotS (hot : Bool) (A : Around) (outer : List PySem.Env) (H : Hp) (s : Shared) : Prop := hot = true → ∃ p : Addr × Obj, L2H.Hot1 A p ∧ L2H.PinOk outer H s p
structure FnG (hot : Bool) (P : Program) (wd : World) (K : PySem.W.Frag) (mg : Str → Option Value) (base : Heap) (k : Nat) (f : Addr) (fd : FuncData) (ps : List Str) (sp : Sp) : Prop where
  len : ∀ vs H Q E, sp vs H Q E → vs.length = ps.length
  run : ∀ (A : Around) (outer : List PySem.Env) (s : Shared) (H : Hp) (args : Args) (us : List Value) (vs : List V) (Q : VK) (E : XK), RoomG hot k A → HotS hot A outer H s → Env0 P wd K mg base A outer s H → BindsTo s fd args (ps.zip us) → Vals vs us → sp vs H Q E →
    codeAny (model P wd) A (.call (.ref f) args) (CR (L2N.CX P wd) outer P wd H s Q E) s
/-- the context of a def's body -/
abbrev cxG (hot : Bool) (pn : List (Addr × Obj)) (P : Program) (wd : World) (K : PySem.W.Frag) (mg : Str → Option Value) (base : Heap) (N : List Str) (qual : Str) (scope : Scope) (f : Addr) (cd : Value) (A : Around) (outer : List PySem.Env) (s : Shared) (H : Hp) (E : XK) : Cx :=
  { cxOf (L2N.CX P wd) P wd K mg base N qual scope f cd A outer s H E with calm := !hot, pn := pn }
theorem fn_ofG (hot : Bool) {P : Program} {wd : World} {K : PySem.W.Frag} {mg : Str → Option Value} {base : Heap} {k : Nat} {f : Addr} {name qual : Str} {params : Arguments} {body : List Stmt} {scope : Scope} {dV kV doc pm cdv ct oc : Value} {an od : Option Addr}
    {osl : Array (Option Value)} {N ps : List Str} {sp : Sp} (lk : K.lookup f = some ⟨oc, od, .func (PySem.W.fnOf name qual params body scope dV kV doc pm an cdv ct), osl⟩) (hcd : PySem.W.codeIn K cdv qual = true) (S : FnScope N ps scope)
    (len : ∀ vs H Q E, sp vs H Q E → vs.length = ps.length)
    (hbody : ∀ (A : Around) (outer : List PySem.Env) (s : Shared) (H : Hp) (vs : List V) (Q : VK) (E : XK) (pn : List (Addr × Obj)), RoomG hot k (A.deeper (envOfC qual scope s.heap.objs.size f cdv)) → (hot = true → ∃ p, L2H.Hot1 A p ∧ p ∈ pn) → sp vs H Q E →
      ∃ t, PSs (cxG hot pn P wd K mg base N qual scope f cdv A outer s H E) body t ∧ t { nx := fun _ H' => Q .non H', rt := Q } (L2.start N vs) H)
    (hgd : ∀ (A : Around) (env : PySem.Env), A.guards = some [] → (A.deeper env).guards = some []) :
    FnG hot P wd K mg base (k + 1) f (PySem.W.fnOf name qual params body scope dV kV doc pm an cdv ct) ps sp := by
  refine ⟨len, fun A outer s H args us vs Q E hr hh e0 hb r hsp => ?_⟩
  have hl := len _ _ _ _ hsp
  have KX : K.In s.heap := e0.mod.kin.keeps fun b o e => (e0.bs b o e).1
  have lim : s.heap.NoLimit := e0.mod.nolimit.keeps fun b o e => (e0.bs b o e).1
  have hkind : ∀ y ∈ ps.zip us, scope.names.lookup y.1 = some .local ∨ (scope.names.lookup y.1 = some .cell ∧ ((cellsFrom (s.heap.objs.size + 1) scope.names []).lookup y.1).isSome = true) := fun ⟨n, v⟩ hy => by
    rcases S.par n (List.of_mem_zip hy).1 with q | q
    · exact .inl q
    · exact .inr ⟨q, PySem.W.cellsFrom_some _ _ _ (.inl q)⟩
  refine codeAny_call_function hr.depth (KX _ _ lk) rfl S.co S.gen rfl (PySem.W.codeRec_of KX hcd) (hb _ _ _ _ ?_)
  refine wpAny_newFunctionEnv_cells S.kind hkind fun env he s1 x => ?_
  subst he
  refine ⟨lim.keeps x.toInCall.keep, codeAny_func ?_⟩
  have main : ∀ pn : List (Addr × Obj), (hot = true → ∃ p, L2H.Hot1 A p ∧ p ∈ pn) → L2.Inv (cxG hot pn P wd K mg base N qual scope f cdv A outer s H E) [] (L2.start N vs) H s1 →
      wpAny (model P wd) (A.deeper (envOfC qual scope s.heap.objs.size f cdv)) (execs body (envOfC qual scope s.heap.objs.size f cdv)) (fun fl s' => match fl with
        | .ret u => CE outer P wd H s Q u s' | .next => CE outer P wd H s Q .none s' | _ => False)
        (cxG hot pn P wd K mg base N qual scope f cdv A outer s H E).xe s1 := by
    intro pn hp I
    obtain ⟨t, ht, hq⟩ := hbody A outer s H vs Q E pn (hr.deeper _ (hgd _ _ hr.gd)) hp hsp
    have fin : ∀ {σ' : L2.St} {H' : Hp} {v : V} {u : Value} {s' : Shared}, L2.Inv (cxG hot pn P wd K mg base N qual scope f cdv A outer s H E) [] σ' H' s' → RelV v u → Q v H' → CE outer P wd H s Q u s' :=
      fun {σ' H' v u s'} J rv q => ⟨v, H', J.os, J.bare, J.base, J.hok, rv, q⟩
    refine wpAny_mono (ht.run [] s1 (L2.start N vs) H _ I hq) (fun fl s' hs => ?_) fun e s' hs => hs
    cases fl with
    | ret u =>
      obtain ⟨v, σ', H', J, rv, q⟩ := hs
      exact fin J rv q
    | next =>
      obtain ⟨σ', H', J, q⟩ := hs
      exact fin (v := V.non) (u := Value.none) J rfl q
    | brk =>
      obtain ⟨_, _, _, q⟩ := hs
      exact False.elim q
    | cont =>
      obtain ⟨_, _, _, q⟩ := hs
      exact False.elim q
  have all : ∃ pn, (hot = true → ∃ p, L2H.Hot1 A p ∧ p ∈ pn) ∧ L2.Inv (cxG hot pn P wd K mg base N qual scope f cdv A outer s H E) [] (L2.start N vs) H s1 := by
    cases hot with
    | false => exact ⟨[], fun z => Bool.noConfusion z, inv_start S (hr.hd rfl) e0 hl r x⟩
    | true =>
      obtain ⟨p, h1, h2⟩ := hh rfl
      exact ⟨[p], fun _ => ⟨p, h1, List.mem_singleton.mpr rfl⟩, L2H.inv_startH S h2 e0 hl r x⟩
  obtain ⟨pn, hp, I⟩ := all
  refine wpAny_mono (main pn hp I) (fun fl s' hs => ?_) fun e s' hs => hs
  cases fl with
  | ret u => exact hs
  | next => exact hs
  | brk => exact False.elim hs
  | cont => exact False.elim hs
end M3
/-! L3Run: the defs of a table keep their promise; their calls -/
namespace M3
open PySem L2 PyProof.Rows

theorem deeper_guards (A : Around) (env : PySem.Env) (h : A.guards = some []) : (A.deeper env).guards = some [] := h
/-- the fixed things of a law: the program, the world, the written part, the module's names -/
structure Ws where
  P : Program
  wd : World
  K : PySem.W.Frag
  mg : Str → Option Value
  base : Heap
  cl : Nat → Addr
  tab : Nat → Option Fn
  L : Nat
  /-- the defs that are called within except suites -/
  okH : Nat → Prop
abbrev Ws.w (Z : Ws) (hid : List Addr) : Wd := ⟨⟨Z.K, hid⟩, Z.cl, none⟩
/-- the promise of def f, n calls deep -/
def spM (Z : Ws) (hot : Bool) (n f : Nat) : Sp := fun vs H Q E => ∃ hid ι g ds, Rel (Z.w hid) ι g H ∧ RelDs (Z.w hid).K ι (List.length g) H ds vs ∧
  FinR (rD (Z.w hid)) (Z.w hid) (fun cls d _ H => E cls d H) ι g.length H [] (callM Z.tab Z.L (!hot) n f ds g) Q
/-- a def of the text -/
structure Def where
  f : Addr
  fd : FuncData
  ps : List Str
/-- the defs keep their promise, n calls deep -/
def Lev (Z : Ws) (hot : Bool) (dfs : Nat → Def) (ok : Nat → Prop) (n : Nat) : Prop := ∀ f, ok f → FnG hot Z.P Z.wd Z.K Z.mg Z.base (2 * n + 2) (dfs f).f (dfs f).fd (dfs f).ps (spM Z hot n f)

/-- what is known of the context, for calls -/
structure COk (Z : Ws) (X : Cx) (w : Wd) (W : WX) (c : Cfg) (hot : Bool) (n : Nat) (dfs : Nat → Def) (ok : Nat → Prop) : Prop where
  E : EOk X w c
  P : X.prog = Z.P
  wd : X.w = Z.wd
  K : X.K = Z.K
  mg : X.mg = Z.mg
  base : X.base = Z.base
  cl : w.cl = Z.cl
  calm : c.calm = !hot
  call : c.call = callM Z.tab Z.L (!hot) n
  room : RoomG hot (2 * n + 3) X.A
  hotc : hot = true → L2H.HotC X
  tk : L2N.Takes X W
  lev : Lev Z hot dfs ok n
  levH : Lev Z true dfs Z.okH n
  hcall : c.hcall = callM Z.tab Z.L false n
  exn : hot = false → w.exn = none
  nd : X.N.Nodup
  po : PassesOwn (model X.prog X.w) X.A X.env X.xe

/-- how a call's arguments are put: a place among them, or a default -/
inductive SelU (us : List Value) : List (Nat ⊕ D) → List Value → Prop where
  | nil : SelU us [] []
  | arg {i : Nat} {u : Value} {sel : List (Nat ⊕ D)} {xs : List Value} (h : us[i]? = some u) (r : SelU us sel xs) : SelU us (.inl i :: sel) (u :: xs)
  | dft {d : D} {u : Value} {v : V} {sel : List (Nat ⊕ D)} {xs : List Value} (h : RelV v u) (k : ∀ (K : KH) (ι : Iota) (N : Nat) (H : Hp), RelD K ι N H d v) (r : SelU us sel xs) : SelU us (.inr d :: sel) (u :: xs)
theorem vals_get : ∀ {vs : List V} {us : List Value} {i : Nat} {v : V} {u : Value}, Vals vs us → vs[i]? = some v → us[i]? = some u → RelV v u
  | _, _, 0, _, _, .cons r _, h1, h2 => by simp at h1 h2; subst h1 h2; exact r
  | _, _, i + 1, _, _, .cons _ t, h1, h2 => vals_get (i := i) t (by simpa using h1) (by simpa using h2)
theorem SelU.to {K : KH} {ι : Iota} {N : Nat} {H : Hp} {ds : List D} {vs : List V} {us : List Value} (rs : RelDs K ι N H ds vs) (r : Vals vs us) {sel : List (Nat ⊕ D)} {us' : List Value} (s : SelU us sel us') :
    ∀ {ds' : List D}, selD ds sel = some ds' → ∃ vs', RelDs K ι N H ds' vs' ∧ Vals vs' us' := by
  induction s with
  | nil =>
    intro ds' e
    cases e
    exact ⟨[], .nil, .nil⟩
  | @arg i u sel xs h t ih =>
    intro ds' e
    rw [selD] at e
    cases q1 : ds[i]? with
    | none => rw [q1] at e; cases e
    | some d => cases q2 : selD ds sel with
      | none => rw [q1, q2] at e; cases e
      | some es =>
        rw [q1, q2] at e
        cases e
        obtain ⟨v, h1, h2⟩ := rs.get q1
        obtain ⟨vs', k1, k2⟩ := ih q2
        exact ⟨v :: vs', .cons h2 k1, .cons (vals_get r h1 h) k2⟩
  | @dft d u v sel xs h k t ih =>
    intro ds' e
    rw [selD] at e
    cases q2 : selD ds sel with
    | none => rw [q2] at e; cases e
    | some es =>
      rw [q2] at e
      cases e
      obtain ⟨vs', k1, k2⟩ := ih q2
      exact ⟨v :: vs', .cons (k _ _ _ _) k1, .cons h k2⟩
/-- how a call binds -/
def KB (K : PySem.W.Frag) (fd : FuncData) (ps ks : List Str) (na nk : Nat) (sel : List (Nat ⊕ D)) : Prop :=
  ∀ (s : Shared) (us ws : List Value), K.In s.heap → us.length = na → ws.length = nk → ∃ us', BindsTo s fd ⟨us, ks.zip ws⟩ (ps.zip us') ∧ SelU (us ++ ws) sel us'

section
variable {Z : Ws} {X : Cx} {w : Wd} {W : WX} {c : Cfg} {hot : Bool} {n : Nat} {dfs : Nat → Def} {ok : Nat → Prop} {ι : Iota} {H : Hp} {σ : L2.St} {ρ : Env} {g : G}
variable {pins : List (Addr × Obj)} {s : Shared}
theorem w_K (C : COk Z X w W c hot n dfs ok) : (Z.w w.K.hid).K = w.K := by
  have h1 := C.E.hK.symm.trans C.K
  show (⟨Z.K, w.K.hid⟩ : KH) = w.K
  rw [← h1]
theorem rel_dn (C : COk Z X w W c hot n dfs ok) (r : Rel w ι g H) : Rel (Z.w w.K.hid) ι g H := by
  refine ⟨r.inj, fun n c h => ?_, fun b hb => r.hid b hb, fun x hx => by cases hx⟩
  have q := r.cell n c h
  have e := w_K C
  cases c with
  | lst xs => obtain ⟨vs, h1, h2⟩ := q; exact ⟨vs, h1, by rw [e]; exact h2⟩
  | dct ks ds => obtain ⟨kvs, h1, h2, h3⟩ := q; exact ⟨kvs, h1, h2, by rw [e]; exact h3⟩
  | ins k fs => obtain ⟨dx, fv, h1, h2, h3⟩ := q; exact ⟨dx, fv, by rw [h1, C.cl], h2, by rw [e]; exact h3⟩
theorem rel_up (C : COk Z X w W c hot n dfs ok) {ι' : Iota} {g' : G} {H' : Hp} (r0 : Rel w ι g H) (x : Ext ι g.length H ι' g'.length H') (r : Rel (Z.w w.K.hid) ι' g' H') : Rel w ι' g' H' := by
  refine ⟨r.inj, fun n c h => ?_, fun b hb => r.hid b hb, fun y hy => (r0.exn y hy).mono x r0.cells⟩
  have q := r.cell n c h
  have e := w_K C
  cases c with
  | lst xs => obtain ⟨vs, h1, h2⟩ := q; exact ⟨vs, h1, by rw [← e]; exact h2⟩
  | dct ks ds => obtain ⟨kvs, h1, h2, h3⟩ := q; exact ⟨kvs, h1, h2, by rw [← e]; exact h3⟩
  | ins k fs => obtain ⟨dx, fv, h1, h2, h3⟩ := q; exact ⟨dx, fv, by rw [h1, C.cl], h2, by rw [← e]; exact h3⟩
theorem fin_dn (C : COk Z X w W c hot n dfs ok) (rl : Rel w ι g H) {r : R D} {Q : VK} (h : FinE w W ι g.length H σ r Q) : FinR (rD (Z.w w.K.hid)) (Z.w w.K.hid) (fun cls d _ H => WE W σ cls d H) ι g.length H [] r Q := by
  have e := w_K C
  cases r with
  | ok d g1 => exact fun ι' H' v x r rv => h ι' H' v x (rel_up C rl x r) (by show RelD w.K ι' g1.length H' d v; rw [← e]; exact rv)
  | exc k fs g1 =>
    intro ι' H' dx x r rv
    have q := h ι' H' dx x (rel_up C rl x r) (by show ExcAt w.K ι' g1.length H' fs dx; rw [← e]; exact rv)
    rw [C.cl] at q
    exact q
  | bad => exact h
/-- a def of the table is called -/
theorem run_G (C : COk Z X w W c hot n dfs ok) {f : Nat} (hf : ok f) {m : Nat} (hm : 2 * n + 1 = m + 1) {Q : VK} {us ws : List Value} {ks : List Str} {us' : List Value} {vs' : List V} {ds' : List D} (I : L2.Inv X pins σ H s)
    (b : BindsTo s (dfs f).fd ⟨us, ks.zip ws⟩ ((dfs f).ps.zip us')) (r : Vals vs' us') (rl : Rel w ι g H) (rs : RelDs w.K ι g.length H ds' vs') (h : FinE w W ι g.length H σ (c.call f ds' g) Q) :
    wpAny (model X.prog X.w) X.A (call (.ref (dfs f).f) us (ks.zip ws)) (EP X pins σ Q) X.xe s := by
  have F := C.lev f hf
  rw [← C.P, ← C.wd, ← C.K, ← C.mg, ← C.base] at F
  have sp : spM Z hot n f vs' H Q (WE W σ) := by
    refine ⟨w.K.hid, ι, g, ds', rel_dn C rl, ?_, ?_⟩
    · rw [w_K C]; exact rs
    · rw [← C.call]
      exact fin_dn C rl h
  have hs : HotS hot X.A X.stack H s := fun z => by
    obtain ⟨p, h1, h2⟩ := C.hotc z
    have P1 := I.pin p (List.mem_append_left _ h2)
    exact ⟨p, h1, ⟨P1.1, P1.2.1, fun hm => (List.mem_cons.mp (I.stkSub p.1 hm)).elim P1.2.2.1 P1.2.2.2.1, P1.2.2.2.2⟩⟩
  refine wpAny_call (codeAny_mono (F.run X.A X.stack s H ⟨us, ks.zip ws⟩ us' vs' Q (WE W σ) (C.room.mono (Nat.le_succ _)) hs I.env0 b r sp) fun r s' hq => ?_)
  cases r with
  | error e => exact L2N.passAt C.tk σ pins H s e s' I hq
  | ok fl =>
    cases fl with
    | ret u => exact I.after hq
    | next => exact False.elim hq
    | brk => exact False.elim hq
    | cont => exact False.elim hq

/-! ### keywords' values -/
abbrev SK' (X : Cx) (w : Wd) (W : WX) (c : Cfg) (kws : List Keyword) (ms : List ME) : Prop := PK X kws (tA w W (evEs c ms))
theorem PK.imp {kws : List Keyword} {t t' : TA} (h : PK X kws t) (k : ∀ σ H Q, t' σ H Q → t σ H Q) : PK X kws t' := ⟨fun ps pins s σ H Q I q => h.run ps pins s σ H Q I (k σ H Q q)⟩
theorem skw_nil : SK' X w W c [] [] := by
  refine PK.imp pk_nil fun σ H Q ⟨ι, ρ, g, rl, re, h⟩ => ?_
  unfold evEs at h
  exact FinR.here h rl .nil
theorem skw_cons {nm : Option Str} {e : Expr} {kpos : Pos} {m : ME} {kws : List Keyword} {ms : List ME} (ha : SE X w W c e m) (hr : SK' X w W c kws ms) : SK' X w W c (⟨nm, e, kpos⟩ :: kws) (m :: ms) := by
  refine PK.imp (pk_cons ha hr) fun σ H Q ⟨ι, ρ, g, rl, re, h⟩ => ?_
  unfold evEs at h
  refine go_E rl re h fun ι1 g1 d v H1 x1 rl1 re1 r1 h1 => ?_
  refine go_A rl1 re1 h1 fun ι2 g2 ds vs H2 x2 rl2 re2 r2 h2 => ?_
  exact FinR.here h2 rl2 (.cons (r1.mono x2 rl1.cells) r2)

/-! ### f(..) -/
variable {e : Expr} {es : List Expr} {kws : List Keyword} {ms mk : List ME} {pos : Pos} {x : Str} {p : Pos} {ks : List Str} {sel : List (Nat ⊕ D)}
theorem call_core (C : COk Z X w W c hot n dfs ok) {f : Nat} (hf : ok f) (hb : KB Z.K (dfs f).fd (dfs f).ps ks ms.length mk.length sel) {first : List Value} {Q : VK} {us ws : List Value} {vs zs : List V} {ds es : List D} (I : L2.Inv X pins σ H s)
    (rl : Rel w ι g H) (ru : Vals vs us) (rw' : Vals zs ws) (rd : RelDs w.K ι g.length H ds vs) (rz : RelDs w.K ι g.length H es zs)
    (h : FinE w W ι g.length H σ (if ds.length = ms.length ∧ es.length = mk.length then (match selD (ds ++ es) sel with | some xs => c.call f xs g | none => .bad) else .bad) Q) :
    wpAny (model X.prog X.w) X.A (call (.ref (dfs f).f) us (ks.zip ws)) (EP X pins σ Q) X.xe s := by
  split at h
  · rename_i hl
    cases q : selD (ds ++ es) sel with
    | none => rw [q] at h; exact False.elim h
    | some xs =>
      rw [q] at h
      obtain ⟨us', b, su⟩ := hb s us ws (by rw [← C.K]; exact I.kIn) (by rw [← ru.length, ← rd.length]; exact hl.1) (by rw [← rw'.length, ← rz.length]; exact hl.2)
      obtain ⟨vs', k1, k2⟩ := su.to (rd.append rz) (ru.append rw') q
      exact run_G C hf rfl I b k2 rl k1 h
  · exact False.elim h
/-- f(e, .., k = v) -/
theorem s_call {f : Nat} (C : COk Z X w W c hot n dfs ok) (hf : ok f) (hb : KB Z.K (dfs f).fd (dfs f).ps ks ms.length mk.length sel) (hm : Z.mg x = some (.ref (dfs f).f)) (hk : PySem.W.keepIn Z.K (.ref (dfs f).f) = true)
    (ha : SA X w W c (e :: es) ms) (hkw : SK' X w W c kws mk) (hg : Gl X x := by rfl) (hall : (backToKw pos (keywordEach kws X.env)).all (·.1.isSome) = true := by rfl) (hks : (backToKw pos (keywordEach kws X.env)).filterMap (·.1) = ks := by rfl)
    (hdb : (x == ("__debug__" : Str)) = false := by decide) (he : starEach (e :: es) X.env = (false, eval e X.env) :: starEach es X.env := by rfl)
    (hpl : ((backTo pos (starEach (e :: es) X.env)).any (·.1) || (backToKw pos (keywordEach kws X.env)).any (·.1.isNone)) = false := by rfl) :
    SE X w W c (.Call (.Name x p) (e :: es) kws pos) (.call f ms mk sel) := by
  refine ⟨fun pins s σ H Q I ⟨ι, ρ, g, rl, re, h⟩ => ?_⟩
  rw [← C.mg] at hm
  rw [← C.K] at hk
  refine wpAny_Call_Name_kw (ld_glob I hg hm ?_ hdb)
  unfold evE at h
  refine PySem.W.callWith_KW (h₀ := X.base) I.ok.mod.kin hk hall (thn (ha.run pos pins s σ H (fun vs H1 => ∃ ι1 g1 ds, Rel w ι1 g1 H1 ∧ RelE w ι1 g1.length H1 ρ σ ∧ RelDs w.K ι1 g1.length H1 ds vs ∧ _) I (go_A rl re h fun ι1 g1 ds vs H1 x1 rl1 re1 r1 h1 => ⟨ι1, g1, ds, rl1, re1, r1, h1⟩)) fun us s1 ⟨vs, H1, I1, ru, ι1, g1, ds, rl1, re1, r1, h1⟩ => ?_) hpl he
  refine thn (hkw.run pos pins s1 σ H1 _ I1 (go_A rl1 re1 h1 fun ι2 g2 es' zs H2 x2 rl2 re2 r2 h2 => ⟨ι2, g2, es', rl2, x2, r2, h2⟩ : tA w W (evEs c mk) σ H1 fun zs H2 => ∃ ι2 g2 es', Rel w ι2 g2 H2 ∧ Ext ι1 g1.length H1 ι2 g2.length H2 ∧ RelDs w.K ι2 g2.length H2 es' zs ∧ _)) fun ws s2 ⟨zs, H2, I2, rz, ι2, g2, es', rl2, x2, r2, h2⟩ => ⟨I2.kIn, ?_⟩
  rw [hks]
  exact call_core (first := []) C hf hb I2 rl2 ru rz (r1.mono x2 rl1.cells) r2 h2
theorem s_call0 {f : Nat} (C : COk Z X w W c hot n dfs ok) (hf : ok f) (hb : KB Z.K (dfs f).fd (dfs f).ps ks 0 mk.length sel) (hm : Z.mg x = some (.ref (dfs f).f)) (hk : PySem.W.keepIn Z.K (.ref (dfs f).f) = true)
    (hkw : SK' X w W c kws mk) (hg : Gl X x := by rfl) (hall : (backToKw pos (keywordEach kws X.env)).all (·.1.isSome) = true := by rfl) (hks : (backToKw pos (keywordEach kws X.env)).filterMap (·.1) = ks := by rfl)
    (hdb : (x == ("__debug__" : Str)) = false := by decide) (hpl : ((backTo pos (starEach [] X.env)).any (·.1) || (backToKw pos (keywordEach kws X.env)).any (·.1.isNone)) = false := by rfl) :
    SE X w W c (.Call (.Name x p) [] kws pos) (.call f [] mk sel) := by
  refine ⟨fun pins s σ H Q I ⟨ι, ρ, g, rl, re, h⟩ => ?_⟩
  rw [← C.mg] at hm
  rw [← C.K] at hk
  refine wpAny_Call_Name_kw (ld_glob I hg hm ?_ hdb)
  unfold evE at h
  have e0 : evEs c [] ρ g = .ok [] g := by unfold evEs; rfl
  rw [e0] at h
  refine PySem.W.callWith_KW0 (h₀ := X.base) I.ok.mod.kin hk hall (thn (hkw.run pos pins s σ H (fun zs H2 => ∃ ι2 g2 es', Rel w ι2 g2 H2 ∧ RelDs w.K ι2 g2.length H2 es' zs ∧ _) I (go_A rl re h fun ι2 g2 es' zs H2 x2 rl2 re2 r2 h2 => ⟨ι2, g2, es', rl2, r2, h2⟩)) fun ws s2 ⟨zs, H2, I2, rz, ι2, g2, es', rl2, r2, h2⟩ => ⟨I2.kIn, ?_⟩) hpl
  rw [hks]
  exact call_core (first := []) (ms := []) C hf hb I2 rl2 .nil rz .nil r2 h2
end
end M3
/-! L3Mk: methods of own classes, new objects, a def's body -/
namespace M3
open PySem L2 PyProof.Rows
section
variable {Z : Ws} {X : Cx} {w : Wd} {W : WX} {c : Cfg} {hot : Bool} {n : Nat} {dfs : Nat → Def} {ok : Nat → Prop} {ι : Iota} {H : Hp} {σ : L2.St} {ρ : Env} {g : G}
variable {pins : List (Addr × Obj)} {s : Shared}
variable {e o : Expr} {es : List Expr} {kws : List Keyword} {mo : ME} {ms mk : List ME} {pos apos : Pos} {x m : Str} {p : Pos} {ks : List Str} {sel : List (Nat ⊕ D)}
theorem meth_core (C : COk Z X w W c hot n dfs ok) {f : Nat} (hf : ok f) (hb : KB Z.K (dfs f).fd (dfs f).ps ks (ms.length + 1) mk.length sel) {Q : VK} {a : Addr} {k : Nat} {us ws : List Value} {vs zs : List V} {ds es : List D} (I : L2.Inv X pins σ H s)
    (rl : Rel w ι g H) (ra : RelD w.K ι g.length H (.ref k) (.ref a)) (ru : Vals vs us) (rw' : Vals zs ws) (rd : RelDs w.K ι g.length H ds vs) (rz : RelDs w.K ι g.length H es zs)
    (h : FinE w W ι g.length H σ (if ds.length = ms.length ∧ es.length = mk.length then (match selD (.ref k :: (ds ++ es)) sel with | some xs => c.call f xs g | none => .bad) else .bad) Q) :
    wpAny (model X.prog X.w) X.A (call (.ref (dfs f).f) (.ref a :: us) (ks.zip ws)) (EP X pins σ Q) X.xe s := by
  split at h
  · rename_i hl
    cases q : selD (.ref k :: (ds ++ es)) sel with
    | none => rw [q] at h; exact False.elim h
    | some xs =>
      rw [q] at h
      obtain ⟨us', b, su⟩ := hb s (.ref a :: us) ws (by rw [← C.K]; exact I.kIn) (by rw [List.length_cons, ← ru.length, ← rd.length, hl.1]) (by rw [← rw'.length, ← rz.length]; exact hl.2)
      obtain ⟨vs', k1, k2⟩ := su.to (.cons ra (rd.append rz)) (.cons rfl (ru.append rw')) q
      exact run_G C hf rfl I b k2 rl k1 h
  · exact False.elim h
theorem meth_pre {o' : ME} {kk : Nat → G → R D} {k : Nat} {Q : VK} {R : V → Hp → Prop} {f : Nat} (C : COk Z X w W c hot n dfs ok) (rl : Rel w ι g H) (re : RelE w ι g.length H ρ σ)
    (h : FinE w W ι g.length H σ ((evE c o' ρ g).bind fun x g1 => match x with
      | .ref n => match g1[n]? with
        | some (.ins k' fs) => if k' = k ∧ fs.lookup m = none then kk n g1 else .bad
        | _ => .bad
      | _ => .bad) Q)
    (hR : ∀ ι1 (g1 : G) H1 i dx fv, Ext ι g.length H ι1 g1.length H1 → Rel w ι1 g1 H1 → RelE w ι1 g1.length H1 ρ σ → i < g1.length → H1 (ι1 i) = some (.ins (w.cl k) dx fv) → fv.lookup m = none → FinE w W ι1 g1.length H1 σ (kk i g1) Q → R (.ref (ι1 i)) H1) :
    tE w W (evE c o') σ H R := by
  refine go_E rl re h fun ι1 g1 d v H1 x1 rl1 re1 r1 h1 => ?_
  cases r1 with
  | ref i hi =>
    dsimp only at h1
    split at h1
    · rename_i k' fs q
      split at h1
      · rename_i hk
        obtain ⟨h2, h3⟩ := hk
        subst h2
        obtain ⟨dx, fv, k1, k2, k3⟩ := rl1.cell i _ q
        exact hR ι1 g1 H1 i dx fv x1 rl1 re1 hi k1 (fld_none k2 h3) h1
      · exact False.elim h1
    · exact False.elim h1
  | _ => exact False.elim h1
/-- o.m(e, .., k = v) -/
theorem s_meth {f k : Nat} {pl : Sem Bool} (C : COk Z X w W c hot n dfs ok) (hf : ok f) (hb : KB Z.K (dfs f).fd (dfs f).ps ks (ms.length + 1) mk.length sel) (hc : Cls Z.K (Z.cl k)) (hm : Meth Z.K (Z.cl k) m (dfs f).f)
    (ho : SE X w W c o mo) (ha : SA X w W c (e :: es) ms) (hkw : SK' X w W c kws mk) (hall : (backToKw pos (keywordEach kws X.env)).all (·.1.isSome) = true := by rfl) (hks : (backToKw pos (keywordEach kws X.env)).filterMap (·.1) = ks := by rfl)
    (he : starEach (e :: es) X.env = (false, eval e X.env) :: starEach es X.env := by rfl)
    (hpl : ((backTo pos (starEach (e :: es) X.env)).any (·.1) || (backToKw pos (keywordEach kws X.env)).any (·.1.isNone)) = false := by rfl)
    (ht : eval (.Call (.Attribute o m apos) (e :: es) kws pos) X.env = (do
      let ov ← eval o X.env
      standAt apos.atName
      let (f, first) ← holding [ov] (getMethod ov m pl)
      callWith pos f first (backTo pos (starEach (e :: es) X.env)) (backToKw pos (keywordEach kws X.env))) := by rfl) :
    SE X w W c (.Call (.Attribute o m apos) (e :: es) kws pos) (.meth k f m mo ms mk sel) := by
  refine ⟨fun pins s σ H Q I ⟨ι, ρ, g, rl, re, h⟩ => ?_⟩
  have hc' := hc
  have hm' := hm
  rw [← C.cl, ← C.K] at hc' hm'
  unfold evE at h
  refine PySem.W.methodCall_KW (pl := pl) (thn (ho.run pins s σ H (fun v H1 => ∃ ι1 g1 i dx fv, v = .ref (ι1 i) ∧ Rel w ι1 g1 H1 ∧ RelE w ι1 g1.length H1 ρ σ ∧ i < g1.length ∧ H1 (ι1 i) = some (.ins (w.cl k) dx fv) ∧ fv.lookup m = none ∧
    FinE w W ι1 g1.length H1 σ ((evEs c ms ρ g1).bind fun ds g2 => (evEs c mk ρ g2).bind fun es g3 =>
            if ds.length = ms.length ∧ es.length = mk.length then (match selD (.ref i :: (ds ++ es)) sel with | some xs => c.call f xs g3 | none => .bad) else .bad) Q) I
    (meth_pre (f := f) C rl re h fun ι1 g1 H1 i dx fv x1 rl1 re1 hi k1 k2 h1 => ⟨ι1, g1, i, dx, fv, rfl, rl1, re1, hi, k1, k2, h1⟩)) fun u s1 ⟨v, H1, I1, rx, ι1, g1, i, dx, fv, ev, rl1, re1, hi, k1, k2, h1⟩ => ?_) ht
  subst ev
  obtain rfl : u = Value.ref (ι1 i) := rx
  refine getmeth_ok I1 k1 hc' hm' k2 ?_
  refine PySem.W.callWith_KW (first := [.ref (ι1 i)]) (h₀ := X.base) I.ok.mod.kin hm'.kp hall (thn (ha.run pos pins s1 σ H1 (fun vs H2 => ∃ ι2 g2 ds, Rel w ι2 g2 H2 ∧ RelE w ι2 g2.length H2 ρ σ ∧ Ext ι1 g1.length H1 ι2 g2.length H2 ∧ RelDs w.K ι2 g2.length H2 ds vs ∧ _) I1
    (go_A rl1 re1 h1 fun ι2 g2 ds vs H2 x2 rl2 re2 r2 h2 => ⟨ι2, g2, ds, rl2, re2, x2, r2, h2⟩)) fun us s2 ⟨vs, H2, I2, ru, ι2, g2, ds, rl2, re2, x2, r2, h2⟩ => ?_) hpl he
  refine thn (hkw.run pos pins s2 σ H2 _ I2 (go_A rl2 re2 h2 fun ι3 g3 es' zs H3 x3 rl3 re3 r3 h3 => ⟨ι3, g3, es', rl3, x3, r3, h3⟩ : tA w W (evEs c mk) σ H2 fun zs H3 => ∃ ι3 g3 es', Rel w ι3 g3 H3 ∧ Ext ι2 g2.length H2 ι3 g3.length H3 ∧ RelDs w.K ι3 g3.length H3 es' zs ∧ _)) fun ws s3 ⟨zs, H3, I3, rz, ι3, g3, es', rl3, x3, r3, h3⟩ => ⟨I3.kIn, ?_⟩
  rw [hks]
  have ra : RelD w.K ι3 g3.length H3 (.ref i) (.ref (ι1 i)) := ((RelD.ref (K := w.K) (H := H1) i hi).mono x2 rl1.cells).mono x3 rl2.cells
  exact meth_core C hf hb I3 rl3 ra ru rz (r2.mono x3 rl2.cells) r3 h3
theorem s_meth0 {f k : Nat} {pl : Sem Bool} (C : COk Z X w W c hot n dfs ok) (hf : ok f) (hb : KB Z.K (dfs f).fd (dfs f).ps ks 1 mk.length sel) (hc : Cls Z.K (Z.cl k)) (hm : Meth Z.K (Z.cl k) m (dfs f).f)
    (ho : SE X w W c o mo) (hkw : SK' X w W c kws mk) (hall : (backToKw pos (keywordEach kws X.env)).all (·.1.isSome) = true := by rfl) (hks : (backToKw pos (keywordEach kws X.env)).filterMap (·.1) = ks := by rfl)
    (hpl : ((backTo pos (starEach [] X.env)).any (·.1) || (backToKw pos (keywordEach kws X.env)).any (·.1.isNone)) = false := by rfl)
    (ht : eval (.Call (.Attribute o m apos) [] kws pos) X.env = (do
      let ov ← eval o X.env
      standAt apos.atName
      let (f, first) ← holding [ov] (getMethod ov m pl)
      callWith pos f first (backTo pos (starEach [] X.env)) (backToKw pos (keywordEach kws X.env))) := by rfl) :
    SE X w W c (.Call (.Attribute o m apos) [] kws pos) (.meth k f m mo [] mk sel) := by
  refine ⟨fun pins s σ H Q I ⟨ι, ρ, g, rl, re, h⟩ => ?_⟩
  have hc' := hc
  have hm' := hm
  rw [← C.cl, ← C.K] at hc' hm'
  unfold evE at h
  refine PySem.W.methodCall_KW (pl := pl) (thn (ho.run pins s σ H (fun v H1 => ∃ ι1 g1 i dx fv, v = .ref (ι1 i) ∧ Rel w ι1 g1 H1 ∧ RelE w ι1 g1.length H1 ρ σ ∧ i < g1.length ∧ H1 (ι1 i) = some (.ins (w.cl k) dx fv) ∧ fv.lookup m = none ∧
    FinE w W ι1 g1.length H1 σ ((evEs c [] ρ g1).bind fun ds g2 => (evEs c mk ρ g2).bind fun es g3 =>
            if ds.length = ([] : List ME).length ∧ es.length = mk.length then (match selD (.ref i :: (ds ++ es)) sel with | some xs => c.call f xs g3 | none => .bad) else .bad) Q) I
    (meth_pre (f := f) C rl re h fun ι1 g1 H1 i dx fv x1 rl1 re1 hi k1 k2 h1 => ⟨ι1, g1, i, dx, fv, rfl, rl1, re1, hi, k1, k2, h1⟩)) fun u s1 ⟨v, H1, I1, rx, ι1, g1, i, dx, fv, ev, rl1, re1, hi, k1, k2, h1⟩ => ?_) ht
  subst ev
  obtain rfl : u = Value.ref (ι1 i) := rx
  refine getmeth_ok I1 k1 hc' hm' k2 ?_
  have e0 : evEs c [] ρ g1 = .ok [] g1 := by unfold evEs; rfl
  rw [e0] at h1
  refine PySem.W.callWith_KW0 (first := [.ref (ι1 i)]) (h₀ := X.base) I.ok.mod.kin hm'.kp hall (thn (hkw.run pos pins s1 σ H1 (fun zs H3 => ∃ ι3 g3 es', Rel w ι3 g3 H3 ∧ Ext ι1 g1.length H1 ι3 g3.length H3 ∧ RelDs w.K ι3 g3.length H3 es' zs ∧ _) I1
    (go_A rl1 re1 h1 fun ι3 g3 es' zs H3 x3 rl3 re3 r3 h3 => ⟨ι3, g3, es', rl3, x3, r3, h3⟩)) fun ws s3 ⟨zs, H3, I3, rz, ι3, g3, es', rl3, x3, r3, h3⟩ => ⟨I3.kIn, ?_⟩) hpl
  rw [hks]
  have ra : RelD w.K ι3 g3.length H3 (.ref i) (.ref (ι1 i)) := (RelD.ref (K := w.K) (H := H1) i hi).mono x3 rl1.cells
  exact meth_core (ms := []) C hf hb I3 rl3 ra .nil rz .nil r3 h3

/-! ### C(..) -/
theorem make_guards (A : Around) (C : Addr) (us : List Value) (kw : List (Str × Value)) (h : A.guards = some []) : (A.under (.builtin "type.__call__" ⟨.ref C :: us, kw⟩)).guards = some [] := by
  show pushGuards (Code.builtin "type.__call__" { pos := Value.ref C :: us, kw := kw }).guards A.guards = _
  rw [h]
  rfl
theorem RoomG.make {hot : Bool} {k : Nat} {A : Around} (r : RoomG hot (k + 1) A) (C : Addr) (us : List Value) (kw : List (Str × Value)) : RoomG hot k (A.under (.builtin "type.__call__" ⟨.ref C :: us, kw⟩)) :=
  ⟨r.hd, by have := r.dp; rw [make_depth]; omega, by have := r.un; rw [make_units]; omega, make_guards A C us kw r.gd⟩
theorem make_core (C : COk Z X w W c hot n dfs ok) {f k : Nat} (hf : ok f) (hb : KB Z.K (dfs f).fd (dfs f).ps ks (ms.length + 1) mk.length sel) (M : Mk Z.K (Z.cl k) (dfs f).f) {Q : VK} {us ws : List Value} {vs zs : List V} {ds es : List D} (I : L2.Inv X pins σ H s)
    (rl : Rel w ι g H) (ru : Vals vs us) (rw' : Vals zs ws) (rd : RelDs w.K ι g.length H ds vs) (rz : RelDs w.K ι g.length H es zs)
    (h : FinE w W ι g.length H σ (if ds.length = ms.length ∧ es.length = mk.length then (match selD (.ref g.length :: (ds ++ es)) sel with
        | some xs => (c.call f xs (g ++ [.ins k []])).bind fun r g3 => match r with | .non => .ok (.ref g.length) g3 | _ => .bad
        | none => .bad) else .bad) Q) :
    wpAny (model X.prog X.w) X.A (call (.ref (Z.cl k)) us (ks.zip ws)) (EP X pins σ Q) X.xe s := by
  split at h
  · rename_i hl
    cases q : selD (.ref g.length :: (ds ++ es)) sel with
    | none => rw [q] at h; exact False.elim h
    | some xs =>
      rw [q] at h
      have F := C.lev f hf
      rw [← C.P, ← C.wd, ← C.K, ← C.mg, ← C.base] at F
      rw [← C.K] at M
      have hsz := I.hok.fresh (Nat.le_refl s.heap.objs.size)
      have hsz1 := I.hok.fresh (Nat.le_succ s.heap.objs.size)
      have hne : s.heap.objs.size ≠ s.heap.objs.size + 1 := Nat.ne_of_lt (Nat.lt_succ_self _)
      have I2 := Inv.made (C := Z.cl k) I
      have rl1 := rl.alloc (o := .own (s.heap.objs.size + 1)) hsz
      have hx1 : upd H s.heap.objs.size (.own (s.heap.objs.size + 1)) (s.heap.objs.size + 1) = none := by rw [upd_ne hne.symm]; exact hsz1
      have x1 : Ext ι g.length H ι g.length (upd H s.heap.objs.size (.own (s.heap.objs.size + 1))) := Ext.alloc hsz
      have x2 : Ext ι g.length (upd H s.heap.objs.size (.own (s.heap.objs.size + 1))) (iotaSet ι g.length (s.heap.objs.size + 1)) (g.length + 1) (upd (upd H s.heap.objs.size (.own (s.heap.objs.size + 1))) (s.heap.objs.size + 1) (.ins (Z.cl k) s.heap.objs.size [])) := Ext.push hx1
      have rl2 : Rel w (iotaSet ι g.length (s.heap.objs.size + 1)) (g ++ [.ins k []]) (upd (upd H s.heap.objs.size (.own (s.heap.objs.size + 1))) (s.heap.objs.size + 1) (.ins (Z.cl k) s.heap.objs.size [])) :=
        rl1.push (c := .ins k []) hx1 ⟨_, [], by rw [upd_same, C.cl], rfl, .nil⟩
      have hl2 : (g ++ [Cell.ins k []]).length = g.length + 1 := by simp
      have x3 := x1.trans x2
      have up := fun {ds vs} (z : RelDs w.K ι g.length H ds vs) => z.mono x3 rl.cells
      have r0 : RelD w.K (iotaSet ι g.length (s.heap.objs.size + 1)) (g.length + 1) (upd (upd H s.heap.objs.size (.own (s.heap.objs.size + 1))) (s.heap.objs.size + 1) (.ins (Z.cl k) s.heap.objs.size [])) (.ref g.length) (.ref (s.heap.objs.size + 1)) := by
        have z := RelD.ref (K := w.K) (ι := iotaSet ι g.length (s.heap.objs.size + 1)) (H := (upd (upd H s.heap.objs.size (.own (s.heap.objs.size + 1))) (s.heap.objs.size + 1) (.ins (Z.cl k) s.heap.objs.size []))) g.length (Nat.lt_succ_self _)
        rw [iotaSet_same] at z
        exact z
      obtain ⟨us', b, su⟩ := hb { s with heap := (s.heap.push PySem.W.emptyDict).push (PySem.W.instObj (Z.cl k) s.heap.objs.size) } (.ref (s.heap.objs.size + 1) :: us) ws (by rw [← C.K]; exact I2.kIn) (by rw [List.length_cons, ← ru.length, ← rd.length, hl.1]) (by rw [← rw'.length, ← rz.length]; exact hl.2)
      obtain ⟨vs', k1, k2⟩ := su.to (.cons r0 ((up rd).append (up rz))) (.cons rfl (ru.append rw')) q
      have h3 : FinE w W (iotaSet ι g.length (s.heap.objs.size + 1)) (g ++ [Cell.ins k []]).length (upd (upd H s.heap.objs.size (.own (s.heap.objs.size + 1))) (s.heap.objs.size + 1) (.ins (Z.cl k) s.heap.objs.size [])) σ (c.call f xs (g ++ [.ins k []])) (fun v H2 => v = .non ∧ Q (.ref (s.heap.objs.size + 1)) H2) := by
        rw [hl2]
        refine (FinR.bind (Rl := rD w) (FinR.from x3 h)).imp fun v H2 ⟨ι1, g1, d, e, rl4, rv, hq⟩ => ?_
        cases rv with
        | non =>
          refine ⟨rfl, ?_⟩
          have e1 : ι1 g.length = s.heap.objs.size + 1 := by rw [e.same g.length (Nat.lt_succ_self _), iotaSet_same]
          have hlt : g.length < g1.length := Nat.lt_of_lt_of_le (Nat.lt_succ_self _) e.le
          have z := RelD.ref (K := w.K) (ι := ι1) (H := H2) g.length hlt
          rw [e1] at z
          exact FinR.here hq rl4 z
        | _ => exact False.elim hq
      have sp : spM Z hot n f vs' (upd (upd H s.heap.objs.size (.own (s.heap.objs.size + 1))) (s.heap.objs.size + 1) (.ins (Z.cl k) s.heap.objs.size [])) (fun v H2 => v = .non ∧ Q (.ref (s.heap.objs.size + 1)) H2) (WE W σ) := by
        refine ⟨w.K.hid, iotaSet ι g.length (s.heap.objs.size + 1), g ++ [.ins k []], xs, rel_dn C rl2, ?_, ?_⟩
        · rw [w_K C, hl2]; exact k1
        · rw [← C.call]
          exact fin_dn C rl2 h3
      have hs : HotS hot (X.A.under (.builtin "type.__call__" ⟨.ref (Z.cl k) :: us, ks.zip ws⟩)) X.stack (upd (upd H s.heap.objs.size (.own (s.heap.objs.size + 1))) (s.heap.objs.size + 1) (.ins (Z.cl k) s.heap.objs.size [])) { s with heap := (s.heap.push PySem.W.emptyDict).push (PySem.W.instObj (Z.cl k) s.heap.objs.size) } := fun z => by
        obtain ⟨p, h1, h2⟩ := C.hotc z
        have P1 := I2.pin p (List.mem_append_left _ h2)
        exact ⟨p, h1, ⟨P1.1, P1.2.1, fun hm => (List.mem_cons.mp (I2.stkSub p.1 hm)).elim P1.2.2.1 P1.2.2.2.1, P1.2.2.2.2⟩⟩
      refine wpAny_call (make_map (f := (dfs f).f) I.kIn M.makes M.init (beq_iff_eq.mp M.fn) (codeAny_mono (F.run _ X.stack _ _ ⟨Value.ref (s.heap.objs.size + 1) :: us, ks.zip ws⟩ us' vs' _ (WE W σ) (C.room.make (Z.cl k) us (ks.zip ws)) hs
        (I2.env0.make (Z.cl k) us (ks.zip ws)) b k2 sp) fun r s' hq' => ?_))
      cases r with
      | error e => exact L2N.passAt C.tk σ pins _ _ e s' I2 hq'
      | ok fl =>
        cases fl with
        | ret u =>
          obtain ⟨v, H', I3, rv, ev, q3⟩ := I2.after hq'
          subst ev
          exact ⟨rv, ⟨V.ref (s.heap.objs.size + 1), H', I3, rfl, q3⟩⟩
        | next => exact False.elim hq'
        | brk => exact False.elim hq'
        | cont => exact False.elim hq'
  · exact False.elim h
theorem s_mk0 {f k : Nat} (C : COk Z X w W c hot n dfs ok) (hf : ok f) (hb : KB Z.K (dfs f).fd (dfs f).ps ks 1 mk.length sel) (M : Mk Z.K (Z.cl k) (dfs f).f) (hm : Z.mg x = some (.ref (Z.cl k)))
    (hkw : SK' X w W c kws mk) (hg : Gl X x := by rfl) (hall : (backToKw pos (keywordEach kws X.env)).all (·.1.isSome) = true := by rfl) (hks : (backToKw pos (keywordEach kws X.env)).filterMap (·.1) = ks := by rfl)
    (hdb : (x == ("__debug__" : Str)) = false := by decide) (hpl : ((backTo pos (starEach [] X.env)).any (·.1) || (backToKw pos (keywordEach kws X.env)).any (·.1.isNone)) = false := by rfl) :
    SE X w W c (.Call (.Name x p) [] kws pos) (.mk k f [] mk sel) := by
  refine ⟨fun pins s σ H Q I ⟨ι, ρ, g, rl, re, h⟩ => ?_⟩
  rw [← C.mg] at hm
  have hk : PySem.W.keepIn X.K (.ref (Z.cl k)) = true := by rw [C.K]; exact M.kp
  refine wpAny_Call_Name_kw (ld_glob I hg hm ?_ hdb)
  unfold evE at h
  have e0 : evEs c [] ρ g = .ok [] g := by unfold evEs; rfl
  rw [e0] at h
  refine PySem.W.callWith_KW0 (h₀ := X.base) I.ok.mod.kin hk hall (thn (hkw.run pos pins s σ H (fun zs H2 => ∃ ι2 g2 es', Rel w ι2 g2 H2 ∧ RelDs w.K ι2 g2.length H2 es' zs ∧ _) I (go_A rl re h fun ι2 g2 es' zs H2 x2 rl2 re2 r2 h2 => ⟨ι2, g2, es', rl2, r2, h2⟩)) fun ws s2 ⟨zs, H2, I2, rz, ι2, g2, es', rl2, r2, h2⟩ => ⟨I2.kIn, ?_⟩) hpl
  rw [hks]
  exact make_core (ms := []) C hf hb M I2 rl2 .nil rz .nil r2 h2
theorem s_mk {f k : Nat} (C : COk Z X w W c hot n dfs ok) (hf : ok f) (hb : KB Z.K (dfs f).fd (dfs f).ps ks (ms.length + 1) mk.length sel) (M : Mk Z.K (Z.cl k) (dfs f).f) (hm : Z.mg x = some (.ref (Z.cl k)))
    (ha : SA X w W c (e :: es) ms) (hkw : SK' X w W c kws mk) (hg : Gl X x := by rfl) (hall : (backToKw pos (keywordEach kws X.env)).all (·.1.isSome) = true := by rfl) (hks : (backToKw pos (keywordEach kws X.env)).filterMap (·.1) = ks := by rfl)
    (hdb : (x == ("__debug__" : Str)) = false := by decide) (he : starEach (e :: es) X.env = (false, eval e X.env) :: starEach es X.env := by rfl)
    (hpl : ((backTo pos (starEach (e :: es) X.env)).any (·.1) || (backToKw pos (keywordEach kws X.env)).any (·.1.isNone)) = false := by rfl) :
    SE X w W c (.Call (.Name x p) (e :: es) kws pos) (.mk k f ms mk sel) := by
  refine ⟨fun pins s σ H Q I ⟨ι, ρ, g, rl, re, h⟩ => ?_⟩
  rw [← C.mg] at hm
  have hk : PySem.W.keepIn X.K (.ref (Z.cl k)) = true := by rw [C.K]; exact M.kp
  refine wpAny_Call_Name_kw (ld_glob I hg hm ?_ hdb)
  unfold evE at h
  refine PySem.W.callWith_KW (h₀ := X.base) I.ok.mod.kin hk hall (thn (ha.run pos pins s σ H (fun vs H1 => ∃ ι1 g1 ds, Rel w ι1 g1 H1 ∧ RelE w ι1 g1.length H1 ρ σ ∧ RelDs w.K ι1 g1.length H1 ds vs ∧ _) I (go_A rl re h fun ι1 g1 ds vs H1 x1 rl1 re1 r1 h1 => ⟨ι1, g1, ds, rl1, re1, r1, h1⟩)) fun us s1 ⟨vs, H1, I1, ru, ι1, g1, ds, rl1, re1, r1, h1⟩ => ?_) hpl he
  refine thn (hkw.run pos pins s1 σ H1 _ I1 (go_A rl1 re1 h1 fun ι2 g2 es' zs H2 x2 rl2 re2 r2 h2 => ⟨ι2, g2, es', rl2, x2, r2, h2⟩ : tA w W (evEs c mk) σ H1 fun zs H2 => ∃ ι2 g2 es', Rel w ι2 g2 H2 ∧ Ext ι1 g1.length H1 ι2 g2.length H2 ∧ RelDs w.K ι2 g2.length H2 es' zs ∧ _)) fun ws s2 ⟨zs, H2, I2, rz, ι2, g2, es', rl2, x2, r2, h2⟩ => ⟨I2.kIn, ?_⟩
  rw [hks]
  exact make_core C hf hb M I2 rl2 ru rz (r1.mono x2 rl1.cells) r2 h2
end
end M3
/-! L3For: what loops walk, targets, for, while -/
namespace M3
open PySem L2 PyProof.Rows

abbrev Wd.wh (w : Wd) (B : List Addr) : Wd := ⟨⟨w.K.K, B ++ w.K.hid⟩, w.cl, w.exn⟩
section
variable {K : PySem.W.Frag} {hid B : List Addr} {ι : Iota} {N : Nat} {H : Hp}
theorem Rd.some {a : Addr} {u : HO} (h : Rd H a u) : H a ≠ none := by
  rcases h with h | ⟨o, h⟩ <;> rw [h] <;> simp
mutual
theorem RelD.hide (hB : ∀ b ∈ B, H b = none) : ∀ {d : D} {v : V}, RelD ⟨K, hid⟩ ι N H d v → RelD ⟨K, B ++ hid⟩ ι N H d v
  | _, _, .non => .non
  | _, _, .bl b => .bl b
  | _, _, .int i => .int i
  | _, _, .str s => .str s
  | _, _, .tup h hs => .tup h (RelDs.hide hB hs)
  | _, _, .lst h hs => .lst (h.elim (fun z => .inl ⟨z.1, z.2.1, fun y => (List.mem_append.mp y).elim (fun q => Rd.some z.1 (hB _ q)) z.2.2⟩) .inr) (RelDs.hide hB hs)
  | _, _, .dct h hn hk hs => .dct h ⟨hn.1, fun z => (List.mem_append.mp z).elim (fun q => by rw [hB _ q] at h; cases h) hn.2⟩ hk (RelDs.hide hB hs)
  | _, _, .ref n h => .ref n h
theorem RelDs.hide (hB : ∀ b ∈ B, H b = none) : ∀ {d : List D} {v : List V}, RelDs ⟨K, hid⟩ ι N H d v → RelDs ⟨K, B ++ hid⟩ ι N H d v
  | _, _, .nil => .nil
  | _, _, .cons r rs => .cons (RelD.hide hB r) (RelDs.hide hB rs)
end
mutual
theorem RelD.unhide : ∀ {d : D} {v : V}, RelD ⟨K, B ++ hid⟩ ι N H d v → RelD ⟨K, hid⟩ ι N H d v
  | _, _, .non => .non
  | _, _, .bl b => .bl b
  | _, _, .int i => .int i
  | _, _, .str s => .str s
  | _, _, .tup h hs => .tup h (RelDs.unhide hs)
  | _, _, .lst h hs => .lst (h.elim (fun z => .inl ⟨z.1, z.2.1, fun y => z.2.2 (List.mem_append_right _ y)⟩) .inr) (RelDs.unhide hs)
  | _, _, .dct h hn hk hs => .dct h ⟨hn.1, fun z => hn.2 (List.mem_append_right _ z)⟩ hk (RelDs.unhide hs)
  | _, _, .ref n h => .ref n h
theorem RelDs.unhide : ∀ {d : List D} {v : List V}, RelDs ⟨K, B ++ hid⟩ ι N H d v → RelDs ⟨K, hid⟩ ι N H d v
  | _, _, .nil => .nil
  | _, _, .cons r rs => .cons (RelD.unhide r) (RelDs.unhide rs)
end
end
section
variable {w : Wd} {B : List Addr} {ι ι' : Iota} {N N' : Nat} {H H' : Hp} {g g' : G}
theorem CellOk.map {w w' : Wd} (hcl : w'.cl = w.cl) (hm : ∀ {ds vs}, RelDs w.K ι N H ds vs → RelDs w'.K ι' N' H' ds vs) {a : Addr} (ha : H' a = H a) {c : Cell} (h : CellOk w ι N H a c) : CellOk w' ι' N' H' a c := by
  cases c with
  | lst xs => obtain ⟨vs, h1, h2⟩ := h; exact ⟨vs, by rw [ha]; exact h1, hm h2⟩
  | dct ks ds => obtain ⟨kvs, h1, h2, h3⟩ := h; exact ⟨kvs, by rw [ha]; exact h1, h2, hm h3⟩
  | ins k fs => obtain ⟨dx, fv, h1, h2, h3⟩ := h; exact ⟨dx, fv, by rw [ha, hcl]; exact h1, h2, hm h3⟩
theorem Rel.unhide (r : Rel (w.wh B) ι g H) : Rel w ι g H :=
  ⟨r.inj, fun n c h => CellOk.map (w := w.wh B) (w' := w) rfl (fun z => RelDs.unhide (hid := w.K.hid) (B := B) z) rfl (r.cell n c h), fun b hb => r.hid b (List.mem_append_right _ hb), fun y hy => let ⟨fv, h1, h2, h3⟩ := r.exn y hy; ⟨fv, h1, h2, RelDs.unhide (B := B) h3⟩⟩
theorem RelE.unhide {ρ : Env} {σ : L2.St} (e : RelE (w.wh B) ι N H ρ σ) : RelE w ι N H ρ σ := ⟨e.1, fun i d h => let ⟨v, h1, h2⟩ := e.2 i d h; ⟨v, h1, RelD.unhide h2⟩, e.3⟩
theorem RelE.hide {ρ : Env} {σ : L2.St} (hB : ∀ b ∈ B, H b = none) (e : RelE w ι N H ρ σ) : RelE (w.wh B) ι N H ρ σ := ⟨e.1, fun i d h => let ⟨v, h1, h2⟩ := e.2 i d h; ⟨v, h1, RelD.hide hB h2⟩, e.3⟩

/-! ### what is walked -/
/-- the iterator yields xs as long as the watched lists stand -/
def Wk (w : Wd) (J : It) (xs : List D) (wt : Watch) (ι0 : Iota) (N0 : Nat) (H0 : Hp) : Prop :=
  ∀ (B : List Addr), (∀ b ∈ B, H0 b = none) → ∀ (i : Nat) (ι : Iota) (g : G) (H : Hp), Ext ι0 N0 H0 ι g.length H → Rel (w.wh B) ι g H → Stands g wt →
    (xs.length ≤ i → J.stop i H) ∧ ∀ d, xs[i]? = some d → J.go i H ∧ ∀ x H', J.yld i H x H' → Ext ι g.length H ι g.length H' ∧ Rel (w.wh B) ι g H' ∧ RelD (w.wh B).K ι g.length H' d x
abbrev rWk (w : Wd) : RL (List D × Watch) It := fun ι N H p J => Wk w J p.1 p.2 ι N H
/-- the reading of a loop's source -/
def tI (w : Wd) (W : WX) (f : Env → G → R (List D × Watch)) : TI := fun σ H R => ∃ ι ρ g, Rel w ι g H ∧ RelE w ι g.length H ρ σ ∧ FinR (rWk w) w W ι g.length H σ (f ρ g) R
noncomputable def evI (c : Cfg) (sk : SK) (src : List ME) (ρ : Env) (g : G) : R (List D × Watch) := (evEs c src ρ g).bind fun ds g1 => match srcM sk ds g1 with | some p => .ok p g1 | none => .bad
abbrev SI (X : Cx) (w : Wd) (W : WX) (c : Cfg) (tg iter : Expr) (sk : SK) (src : List ME) : Prop := PI X tg iter (tI w W (evI c sk src))
theorem PI.imp {X : Cx} {tg iter : Expr} {t t' : TI} (h : PI X tg iter t) (k : ∀ σ H Q, t' σ H Q → t σ H Q) : PI X tg iter t' := ⟨fun pins s σ H Q I q => h.run pins s σ H Q I (k σ H Q q)⟩
theorem wk_list {K : PySem.W.Frag} (hK : K = w.K.K) (rl : Rel w ι g H) {d : D} {v : V} {xs : List D} (r : RelD w.K ι g.length H d v) (e : lstOf g d = some xs) : ∃ a, v = .ref a ∧ (∃ vs, SqL K H a vs) ∧ Wk w (Itl K a) xs (watchOf d xs) ι g.length H := by
  subst hK
  -- how the list stands later on
  have later : ∃ a, v = .ref a ∧ (∃ vs, RdK w.K.K H a vs) ∧ ∀ (B : List Addr), (∀ b ∈ B, H b = none) → ∀ (ι1 : Iota) (g1 : G) (H1 : Hp), Ext ι g.length H ι1 g1.length H1 → Rel (w.wh B) ι1 g1 H1 → Stands g1 (watchOf d xs) → ∃ vs, RdK w.K.K H1 a vs ∧ RelDs (w.wh B).K ι1 g1.length H1 xs vs := by
    cases r with
    | lst h1 h3 =>
      simp only [lstOf, Option.some.injEq] at e
      subst e
      exact ⟨_, rfl, ⟨_, h1.rd⟩, fun B hB ι1 g1 H1 x r1 _ => ⟨_, (h1.mono x).rd, (RelDs.hide hB h3).mono x rl.cells⟩⟩
    | ref n hn =>
      have q : g[n]? = some (.lst xs) := by
        simp only [lstOf] at e
        have q : g[n]? = some g[n] := List.getElem?_eq_getElem hn
        rw [q] at e
        cases k : g[n] with
        | lst ys => rw [k] at e; cases e; rw [q, k]
        | dct _ _ => rw [k] at e; cases e
        | ins _ _ => rw [k] at e; cases e
      obtain ⟨_, vs0, h0, _⟩ := cell_lst rl q
      refine ⟨_, rfl, ⟨vs0, .inl (.inl h0)⟩, fun B hB ι1 g1 H1 x r1 st => ?_⟩
      have q1 : g1[n]? = some (.lst xs) := st (n, xs) (by simp [watchOf])
      obtain ⟨_, vs, h1, h2⟩ := cell_lst r1 q1
      rw [x.same n hn] at h1
      exact ⟨vs, .inl (.inl h1), h2⟩
    | _ => simp [lstOf] at e
  obtain ⟨a, rfl, ⟨vs0, h0⟩, L⟩ := later
  refine ⟨a, rfl, ⟨vs0, h0.sq⟩, fun B hB i ι1 g1 H1 x r1 st => ?_⟩
  obtain ⟨vs, h1, h2⟩ := L B hB ι1 g1 H1 x r1 st
  refine ⟨fun hi => ⟨vs, h1.sq, by rw [← h2.length]; exact hi⟩, fun d hd => ?_⟩
  obtain ⟨u, e1, e2⟩ := h2.get hd
  refine ⟨⟨vs, u, h1.sq, e1⟩, fun y H' hy => ?_⟩
  obtain ⟨rfl, hy⟩ := hy
  have e3 := hy vs h1.sq
  rw [e1] at e3
  cases e3
  exact ⟨Ext.refl _ _ _, r1, e2⟩
theorem wk_tup {K : PySem.W.Frag} (hK : K = w.K.K) (rl : Rel w ι g H) {v : V} {xs : List D} (r : RelD w.K ι g.length H (.tup xs) v) : ∃ a, v = .ref a ∧ (∃ vs, SqT K H a vs) ∧ Wk w (Itt K a) xs [] ι g.length H := by
  subst hK
  cases r with
  | @tup a vs xs h hs =>
    refine ⟨a, rfl, ⟨vs, h⟩, fun B hB i ι1 g1 H1 x r1 st => ?_⟩
    have h1 : SqT w.K.K H1 a vs := x.tup (fun n hn vs e => by obtain ⟨o, k1, k2⟩ := rl.cells n hn; rw [k1] at e; cases e; exact k2) (fun n hn ob vs e => by obtain ⟨o, k1, k2⟩ := rl.cells n hn; rw [k1] at e; cases e; exact k2) h
    have h2 := (RelDs.hide hB hs).mono x rl.cells
    refine ⟨fun hi => ⟨vs, h1, by rw [← h2.length]; exact hi⟩, fun d hd => ?_⟩
    obtain ⟨u, e1, e2⟩ := h2.get hd
    refine ⟨⟨vs, u, h1, e1⟩, fun y H' hy => ?_⟩
    obtain ⟨rfl, hy⟩ := hy
    have e3 := hy vs h1
    rw [e1] at e3
    cases e3
    exact ⟨Ext.refl _ _ _, r1, e2⟩
theorem wk_str (z : Str) : Wk w (Its z) (z.cps.toList.map fun c => .str ⟨#[c]⟩) [] ι N H := by
  intro B hB i ι1 g1 H1 x r1 st
  refine ⟨fun hi => (show z.cps.size ≤ i by simpa using hi), fun d hd => ?_⟩
  rw [List.getElem?_map] at hd
  obtain ⟨c, e1, rfl⟩ := Option.map_eq_some_iff.mp hd
  rw [Array.getElem?_toList] at e1
  refine ⟨(Array.getElem?_eq_some_iff.mp e1).1, fun y H' hy => ?_⟩
  obtain ⟨rfl, c2, e2, rfl⟩ := hy
  rw [e1] at e2
  cases e2
  exact ⟨Ext.refl _ _ _, r1, .str _⟩
theorem wk_rng (lo : Int) (n : Nat) : Wk w (Itr lo n) ((List.range n).map fun (k : Nat) => D.int (lo + (k : Int))) [] ι N H := by
  intro B hB i ι1 g1 H1 x r1 st
  refine ⟨fun hi => (show n ≤ i by simpa using hi), fun d hd => ?_⟩
  rw [List.getElem?_map] at hd
  obtain ⟨c, e1, rfl⟩ := Option.map_eq_some_iff.mp hd
  obtain ⟨hi, e2⟩ := List.getElem?_eq_some_iff.mp e1
  rw [List.getElem_range] at e2
  subst e2
  refine ⟨(show i < n by simpa using hi), fun y H' hy => ?_⟩
  obtain ⟨rfl, rfl⟩ := hy
  exact ⟨Ext.refl _ _ _, r1, .int _⟩
end
/-- a value that is walked: a list, a tuple, a text -/
def iSeq (K : PySem.W.Frag) (tl : TE) : TI := fun σ H R => tl σ H fun x H1 => (∃ a, x = .ref a ∧ (∃ xs, SqL K H1 a xs) ∧ R (Itl K a) H1) ∨ (∃ a, x = .ref a ∧ (∃ xs, SqT K H1 a xs) ∧ R (Itt K a) H1) ∨ (∃ z, x = .str z ∧ R (Its z) H1)
theorem pi_seq {X : Cx} {tg l : Expr} {tl : TE} (hl : PE X l tl) : PI X tg l (iSeq X.K tl) := by
  refine ⟨fun pins s σ H R I h => ?_⟩
  refine thn (hl.run pins s σ H _ I h) fun v s1 ⟨x, H1, I1, r1, q1⟩ => ?_
  rcases q1 with ⟨a, rfl, ⟨xs, hq⟩, q⟩ | ⟨a, rfl, ⟨xs, hq⟩, q⟩ | ⟨z, rfl, q⟩
  · cases r1
    obtain ⟨its, rv, p, hz⟩ := I1.list hq
    refine wpAny_pyIter_list p.isList ?_
    refine ⟨s1.heap.objs.size, [s1.heap.objs.size], _, _, H1, rfl, I1.kept (t' := s1.toks) fun b o e => Heap.get?_push_of_some _ e, turn_list a _, ⟨_, Heap.get?_push_size _ rfl, rfl, rfl⟩, fun b hb => ?_, q⟩
    have e : b = s1.heap.objs.size := by simpa using hb
    subst e
    exact I1.fpOk (Nat.le_refl _) (I1.hok.fresh (Nat.le_refl _))
  · cases r1
    obtain ⟨its, rv, p, hz⟩ := I1.tuple hq
    refine wpAny_pyIter_tuple (show s1.heap.IsTuple a its.toArray from p) ?_
    refine ⟨s1.heap.objs.size, [s1.heap.objs.size], _, _, H1, rfl, I1.kept (t' := s1.toks) fun b o e => Heap.get?_push_of_some _ e, turn_tuple a _, ⟨_, Heap.get?_push_size _ rfl, rfl, rfl⟩, fun b hb => ?_, q⟩
    have e : b = s1.heap.objs.size := by simpa using hb
    subst e
    exact I1.fpOk (Nat.le_refl _) (I1.hok.fresh (Nat.le_refl _))
  · obtain ⟨t, rfl⟩ := r1
    cases ha : z.cps.all (· < 128)
    · exact wpAny_pyIter_wide ha (pi_one (tk := s1.toks) I1 _ (turn_str _ z t "str_iterator" (.inr rfl)) ⟨_, Heap.get?_push_size _ rfl, rfl, rfl⟩ q)
    · exact wpAny_pyIter_ascii ha (pi_one (tk := s1.toks) I1 _ (turn_str _ z t "str_ascii_iterator" (.inl rfl)) ⟨_, Heap.get?_push_size _ rfl, rfl, rfl⟩ q)
section
variable {X : Cx} {w : Wd} {W : WX} {c : Cfg} {tg e a b : Expr} {m ma mb : ME} {ms : List ME}
/-- a source's values have come: what it walks -/
theorem go_I (sk : SK) (ds : List D) {ι : Iota} {H : Hp} {σ : L2.St} {g : G} {R : It → Hp → Prop} {xs : List D} {wt : Watch} {J : It} (rl : Rel w ι g H) (h : FinR (rWk w) w W ι g.length H σ (match srcM sk ds g with | some p => .ok p g | none => .bad) R)
    (e : srcM sk ds g = some (xs, wt)) (k : Wk w J xs wt ι g.length H) : R J H := by
  rw [e] at h
  exact FinR.here h rl k
theorem si_seq (E : EOk X w c) (ha : SE X w W c e m) : SI X w W c tg e .seq [m] := by
  refine PI.imp (pi_seq ha) fun σ H Q ⟨ι, ρ, g, rl, re, h⟩ => ?_
  unfold evI at h
  rw [evEs_one, R.bind_assoc] at h
  refine go_E rl re h fun ι1 g1 d v H1 x1 rl1 re1 r1 h1 => ?_
  have h1 : FinR (rWk w) w W ι1 g1.length H1 σ (match srcM .seq [d] g1 with | some p => .ok p g1 | none => .bad) Q := h1
  have viaL : ∀ ys, lstOf g1 d = some ys → srcM .seq [d] g1 = some (ys, watchOf d ys) → (∃ a, v = .ref a ∧ (∃ xs, SqL X.K H1 a xs) ∧ Q (Itl X.K a) H1) := by
    intro ys e1 e2
    obtain ⟨a, e3, e4, k⟩ := wk_list E.hK rl1 r1 e1
    exact ⟨a, e3, e4, go_I .seq [d] rl1 h1 e2 k⟩
  cases r1 with
  | str z => exact .inr (.inr ⟨z, rfl, go_I .seq [.str z] rl1 h1 rfl (wk_str z)⟩)
  | tup k1 k2 =>
    obtain ⟨a, e3, e4, k⟩ := wk_tup E.hK rl1 (.tup k1 k2)
    exact .inr (.inl ⟨a, e3, e4, go_I .seq [.tup _] rl1 h1 rfl k⟩)
  | lst k1 k3 => exact .inl (viaL _ rfl rfl)
  | ref n hn =>
    cases q : lstOf g1 (.ref n) with
    | none =>
      have e2 : srcM .seq [.ref n] g1 = none := by show (lstOf g1 (.ref n)).map _ = none; rw [q]; rfl
      rw [e2] at h1
      exact False.elim h1
    | some ys => exact .inl (viaL ys q (by show (lstOf g1 (.ref n)).map _ = _; rw [q]; rfl))
  | _ => exact False.elim h1
theorem si_rng1 {p pos : Pos} (E : EOk X w c) (hm : X.mg "range" = none) (ha : SE X w W c a ma) (hg : Gl X "range" := by rfl) (hs : starEach [a] X.env = (false, eval a X.env) :: starEach [] X.env := by rfl) : SI X w W c tg (.Call (.Name "range" p) [a] [] pos) .rng1 [ma] := by
  refine PI.imp (pi_range1 hg hm (pa_cons ha pa_nil hs) hs) fun σ H Q ⟨ι, ρ, g, rl, re, h⟩ => ?_
  unfold evI at h
  rw [evEs_one, R.bind_assoc] at h
  refine go_E rl re h fun ι1 g1 d v H1 x1 rl1 re1 r1 h1 => ?_
  have h1 : FinR (rWk w) w W ι1 g1.length H1 σ (match srcM .rng1 [d] g1 with | some p => .ok p g1 | none => .bad) Q := h1
  cases r1 with
  | int n =>
    by_cases hn : -(2 ^ 62) ≤ n ∧ n < 2 ^ 62
    · refine ⟨n, rfl, hn.1, hn.2, go_I .rng1 [.int n] rl1 h1 ?_ (wk_rng 0 n.toNat)⟩
      show (if -(2 ^ 62) ≤ n ∧ n < 2 ^ 62 then _ else _) = _
      rw [if_pos hn]
    · have e2 : srcM .rng1 [.int n] g1 = none := if_neg hn
      rw [e2] at h1
      exact False.elim h1
  | _ => exact False.elim h1
theorem si_rng2 {p pos : Pos} (E : EOk X w c) (hm : X.mg "range" = none) (ha : SE X w W c a ma) (hb : SE X w W c b mb) (hg : Gl X "range" := by rfl) (hs : starEach [a, b] X.env = (false, eval a X.env) :: starEach [b] X.env := by rfl) (hs2 : starEach [b] X.env = (false, eval b X.env) :: starEach [] X.env := by rfl) :
    SI X w W c tg (.Call (.Name "range" p) [a, b] [] pos) .rng2 [ma, mb] := by
  refine PI.imp (pi_range2 hg hm (pa_cons ha (pa_cons hb pa_nil hs2) hs) (by rw [hs, hs2]; rfl) hs2) fun σ H Q ⟨ι, ρ, g, rl, re, h⟩ => ?_
  unfold evI at h
  rw [evEs_two, R.bind_assoc] at h
  refine go_E rl re h fun ι1 g1 d v H1 x1 rl1 re1 r1 h1 => ?_
  rw [R.bind_assoc] at h1
  refine go_E rl1 re1 h1 fun ι2 g2 d2 v2 H2 x2 rl2 re2 r2 h2 => ?_
  have h2 : FinR (rWk w) w W ι2 g2.length H2 σ (match srcM .rng2 [d, d2] g2 with | some p => .ok p g2 | none => .bad) Q := h2
  cases r1 with
  | int n => cases r2 with
    | int k =>
      by_cases hn : -(2 ^ 62) ≤ n ∧ n < 2 ^ 62 ∧ -(2 ^ 62) ≤ k ∧ k < 2 ^ 62
      · refine ⟨n, k, rfl, hn, go_I .rng2 [.int n, .int k] rl2 h2 ?_ (wk_rng n (k - n).toNat)⟩
        show (if -(2 ^ 62) ≤ n ∧ n < 2 ^ 62 ∧ -(2 ^ 62) ≤ k ∧ k < 2 ^ 62 then _ else _) = _
        rw [if_pos hn]
      · have e2 : srcM .rng2 [.int n, .int k] g2 = none := if_neg hn
        rw [e2] at h2
        exact False.elim h2
    | _ => exact False.elim h2
  | _ => exact False.elim h2
end
end M3
/-! L3Lc: targets, comprehensions -/
namespace M3
open PySem L2 PyProof.Rows

/-! ### targets -/
def assignV : List Nat → List V → L2.St → L2.St
  | i :: is, v :: vs, σ => assignV is vs (σ.set i (some v))
  | _, _, σ => σ
def gNames : List Nat → TGs
  | [] => gNil
  | i :: is => gCons (gName i) (gNames is)
theorem gNames_to : ∀ (is : List Nat) (vs : List V) (σ : L2.St) (H : Hp) (Q : L2.St → Hp → Prop), vs.length = is.length → Q (assignV is vs σ) H → gNames is vs σ H Q
  | [], [], σ, H, Q, _, q => ⟨rfl, q⟩
  | [], _ :: _, _, _, _, h, _ => by simp at h
  | _ :: _, [], _, _, _, h, _ => by simp at h
  | i :: is, v :: vs, σ, H, Q, h, q => ⟨v, vs, rfl, gNames_to is vs _ H Q (by simpa using h) q⟩
section
variable {w : Wd} {ι : Iota} {N : Nat} {H : Hp}
theorem RelE.assign : ∀ {is : List Nat} {ds : List D} {vs : List V} {ρ : Env} {σ : L2.St}, RelDs w.K ι N H ds vs → RelE w ι N H ρ σ → RelE w ι N H (assignT is ds ρ) (assignV is vs σ)
  | [], _, _, _, _, _, e => by simpa [assignT, assignV] using e
  | i :: is, _, _, ρ, σ, .nil, e => by simpa [assignT, assignV] using e
  | i :: is, _, _, ρ, σ, .cons (d := d) (v := v) (ds := ds) (vs := vs) r rs, e => by
    have h := RelE.assign (is := is) rs (e.set r i)
    show RelE w ι N H (assignT (i :: is) (d :: ds) ρ) (assignV is vs (σ.set i (some v)))
    have q : assignT (i :: is) (d :: ds) ρ = assignT is ds (ρ.set i (some d)) := rfl
    rw [q]
    exact h
theorem wipe_set {σ : L2.St} {i : Nat} {o : Option V} : ∀ {vs : List Nat}, i ∈ vs → L2.wipe (σ.set i o) vs = L2.wipe σ vs
  | v :: vs, h => by
    show (L2.wipe (σ.set i o) vs).set v none = (L2.wipe σ vs).set v none
    by_cases hi : i ∈ vs
    · rw [wipe_set hi]
    · have e : i = v := by
        rcases List.mem_cons.mp h with e | e
        · exact e
        · exact absurd e hi
      subst e
      have q : ∀ (us : List Nat) (τ : L2.St), (L2.wipe (τ.set i o) us).set i none = (L2.wipe τ us).set i none := by
        intro us
        induction us with
        | nil => intro τ; show ((τ.set i o).set i none) = τ.set i none; rw [List.set_set]
        | cons u us ih =>
          intro τ
          show ((L2.wipe (τ.set i o) us).set u none).set i none = ((L2.wipe τ us).set u none).set i none
          by_cases hu : u = i
          · subst hu
            rw [List.set_set, List.set_set]
            exact ih τ
          · rw [List.set_comm _ _ hu, List.set_comm _ _ hu, ih τ]
      exact q vs σ
theorem wipe_assign : ∀ {is : List Nat} {vs : List V} {σ : L2.St} {us : List Nat}, (∀ i ∈ is, i ∈ us) → L2.wipe (assignV is vs σ) us = L2.wipe σ us
  | [], _, _, _, _ => by simp [assignV]
  | _ :: _, [], _, _, _ => by simp [assignV]
  | i :: is, v :: vs, σ, us, h => by
    show L2.wipe (assignV is vs (σ.set i (some v))) us = _
    rw [wipe_assign fun j hj => h j (List.mem_cons_of_mem _ hj), wipe_set (h i List.mem_cons_self)]
end
def idxT : Tgt → List Nat
  | .nm i => [i]
  | .tp is => is
/-- the reading of a target -/
def tG (w : Wd) (tgt : Tgt) : TG := fun v σ H Q => ∃ ι d ρ ρ' , ∃ g : G, Rel w ι g H ∧ RelE w ι g.length H ρ σ ∧ RelD w.K ι g.length H d v ∧ bindT g tgt d ρ = some ρ' ∧ ∀ σ', RelE w ι g.length H ρ' σ' → (∀ us, (∀ i ∈ idxT tgt, i ∈ us) → L2.wipe σ' us = L2.wipe σ us) → Q σ' H
abbrev SG (X : Cx) (w : Wd) (tg : Expr) (tgt : Tgt) : Prop := PG X tg (tG w tgt)
section
variable {X : Cx} {w : Wd} {pos : Pos}
theorem PG.imp {tg : Expr} {t t' : TG} (h : PG X tg t) (k : ∀ v σ H Q, t' v σ H Q → t v σ H Q) : PG X tg t' := ⟨fun pins s σ H v u Q I r q => h.run pins s σ H v u Q I r (k v σ H Q q)⟩
theorem sg_nm (i : Nat) {x : Str} (hN : X.N.Nodup) (hi : X.N[i]? = some x := by rfl) (hx : Loc X.env.scope x := by first | exact .inl rfl | exact .inr rfl) (hf : X.fn x = true ∨ X.env.scope.names.lookup x = some .local := by first | exact .inl rfl | exact .inr rfl) : SG X w (.Name x pos) (.nm i) := by
  refine PG.imp (pg_name hN hi hx hf) fun v σ H Q ⟨ι, d, ρ, ρ', g, rl, re, r, e, h⟩ => ?_
  cases e
  exact h _ (re.set r i) fun us hu => wipe_set (hu i (by simp [idxT]))
theorem sgs_nil : PGs X [] (gNames []) := pgs_nil
theorem sgs_cons (i : Nat) {x : Str} {p : Pos} {es : List Expr} {is : List Nat} (hN : X.N.Nodup) (hr : PGs X es (gNames is)) (hi : X.N[i]? = some x := by rfl) (hx : Loc X.env.scope x := by first | exact .inl rfl | exact .inr rfl)
    (hf : X.fn x = true ∨ X.env.scope.names.lookup x = some .local := by first | exact .inl rfl | exact .inr rfl)
    (hs : (assignEach (.Name x p :: es) X.env).map (·.2) = assign (.Name x p) X.env :: (assignEach es X.env).map (·.2) := by rfl) : PGs X (.Name x p :: es) (gNames (i :: is)) := pgs_cons (pg_name hN hi hx hf) hr hs
theorem pg_or {tg : Expr} {t u : TG} (h1 : PG X tg t) (h2 : PG X tg u) : PG X tg (fun v σ H Q => t v σ H Q ∨ u v σ H Q) := ⟨fun pins s σ H v w Q I r q => q.elim (h1.run pins s σ H v w Q I r) (h2.run pins s σ H v w Q I r)⟩
theorem sg_tp {es : List Expr} {k : Nat} {is : List Nat} {n : Nat} (hK : X.K = w.K.K) (hc : X.calm = true) (hr : PGs X es (gNames is)) (hl : is.length = n := by rfl) (hn : (assignEach es X.env).length = n := by rfl) (hst : (assignEach es X.env).findIdx? (·.1) = none := by rfl) : SG X w (.Tuple es k pos) (.tp is) := by
  subst hl
  refine PG.imp (pg_or (pg_tup hc hr hn hst) (pg_lst hc hr hn hst)) fun v σ H Q ⟨ι, d, ρ, ρ', g, rl, re, r, e, h⟩ => ?_
  have e' : (match seqOf g d with | some xs => if xs.length = is.length then some (assignT is xs ρ) else none | none => none) = some ρ' := e
  cases q : seqOf g d with
  | none => rw [q] at e'; cases e'
  | some xs =>
    rw [q] at e'
    dsimp only at e'
    split at e'
    · rename_i hl
      cases e'
      have fin : ∀ vs, RelDs w.K ι g.length H xs vs → gNames is vs σ H Q := fun vs rs => gNames_to is vs σ H Q (by rw [← rs.length]; exact hl) (h _ (re.assign rs) fun us hu => wipe_assign hu)
      cases r with
      | tup k1 k2 =>
        cases q
        rw [← hK] at k1
        exact .inl ⟨_, _, rfl, k1, by rw [← k2.length]; exact hl, fin _ k2⟩
      | lst k1 k3 =>
        cases q
        have k1 := k1.rd.sq
        rw [← hK] at k1
        exact .inr ⟨_, _, rfl, k1, by rw [← k3.length]; exact hl, fin _ k3⟩
      | ref n hn =>
        obtain ⟨a, vs, e1, k1, k2⟩ := lst_at rl (.ref n hn) q
        cases e1
        have k1 := k1.sq
        rw [← hK] at k1
        exact .inr ⟨_, _, rfl, k1, by rw [← k2.length]; exact hl, fin _ k2⟩
      | _ => cases q
    · cases e'
end

/-! ### comprehensions -/
abbrev Wf : WX := fun _ _ _ _ => False
theorem PE.ex {α : Type} {X : Cx} {e : Expr} {t : α → TE} (h : ∀ a, PE X e (t a)) : PE X e (fun σ H Q => ∃ a, t a σ H Q) := ⟨fun pins s σ H Q I ⟨a, q⟩ => (h a).run pins s σ H Q I q⟩
theorem PG.ex {α : Type} {X : Cx} {e : Expr} {t : α → TG} (h : ∀ a, PG X e (t a)) : PG X e (fun v σ H Q => ∃ a, t a v σ H Q) := ⟨fun pins s σ H v u Q I r ⟨a, q⟩ => (h a).run pins s σ H v u Q I r q⟩
theorem PTs.ex {α : Type} {X : Cx} {e : List Expr} {t : α → TT} (h : ∀ a, PTs X e (t a)) : PTs X e (fun σ H Q => ∃ a, t a σ H Q) := ⟨fun pins s σ H Q I ⟨a, q⟩ => (h a).run pins s σ H Q I q⟩
theorem PTs.imp {X : Cx} {e : List Expr} {t t' : TT} (h : PTs X e t) (k : ∀ σ H Q, t' σ H Q → t σ H Q) : PTs X e t' := ⟨fun pins s σ H Q I q => h.run pins s σ H Q I (k σ H Q q)⟩
abbrev STs (X : Cx) (w : Wd) (W : WX) (c : Cfg) (ifs : List Expr) (ms : List ME) : Prop := PTs X ifs (tT w W (evTs c ms))
section
variable {X : Cx} {w : Wd} {W : WX} {c : Cfg} {e : Expr} {m : ME}
theorem sts_nil : STs X w W c [] [] := by
  refine PTs.imp pts_nil fun σ H Q ⟨ι, ρ, g, rl, re, h⟩ => ?_
  unfold evTs at h
  exact FinR.here h rl rfl
theorem sts_one (h : SB X w W c e m) : STs X w W c [e] [m] := by
  refine PTs.imp (pts_one h) fun σ H Q ⟨ι, ρ, g, rl, re, h⟩ => ⟨ι, ρ, g, rl, re, ?_⟩
  have e1 : evTs c [m] ρ g = evB c m ρ g := by
    unfold evB
    rw [evTs]
    congr 1
    funext d g1
    cases q : truM g1 d with
    | none => rfl
    | some k => cases k with
      | true => show evTs c [] ρ g1 = _; rw [evTs]
      | false => rfl
  rw [e1] at h
  exact h
end
section
variable {w : Wd} {ι ι' : Iota} {N N' : Nat} {H H' : Hp} {g : G} {D : Addr} {o : HO}
theorem Ext.over (x : Ext ι N H ι' N' H') (hD : H D = none) : Ext ι N H ι' N' (upd H' D o) where
  le := x.le
  same := x.same
  new := x.new
  keep := fun b u e hn => by rw [upd_ne (ne_of_none e hD)]; exact x.keep b u e hn
  there := fun b e => by
    by_cases hb : b = D
    · rw [hb, upd_same]; simp
    · rw [upd_ne hb]; exact x.there b e
/-- nothing that is tracked hangs on the object at D, which is a list -/
structure Off (w : Wd) (ι : Iota) (N : Nat) (H : Hp) (D : Addr) : Prop where
  hid : D ∈ w.K.hid
  cell : ∀ n, n < N → ι n ≠ D
  lst : ∃ xs, H D = some (.lst xs)
mutual
theorem RelD.over (h : Off w ι N H D) : ∀ {d : M3.D} {v : V}, RelD w.K ι N H d v → RelD w.K ι N (upd H D o) d v
  | _, _, .non => .non
  | _, _, .bl b => .bl b
  | _, _, .int i => .int i
  | _, _, .str s => .str s
  | _, _, .tup k hs => by
    refine .tup ?_ (RelDs.over h hs)
    obtain ⟨ys, e⟩ := h.lst
    rcases k with (k | ⟨ob, k⟩) | k
    · exact .inl (.inl (by rw [upd_ne (fun z => by rw [z, e] at k; cases k)]; exact k))
    · exact .inl (.inr ⟨ob, by rw [upd_ne (fun z => by rw [z, e] at k; cases k)]; exact k⟩)
    · exact .inr k
  | _, _, .lst k hs => by
    refine .lst ?_ (RelDs.over h hs)
    rcases k with ⟨k | ⟨ob, k⟩, hn⟩ | k
    · exact .inl ⟨.inl (by rw [upd_ne (fun z => hn.2 (by rw [z]; exact h.hid))]; exact k), hn⟩
    · exact .inl ⟨.inr ⟨ob, by rw [upd_ne (fun z => hn.2 (by rw [z]; exact h.hid))]; exact k⟩, hn⟩
    · exact .inr k
  | _, _, .dct k hn hk hs => .dct (by rw [upd_ne (fun z => hn.2 (by rw [z]; exact h.hid))]; exact k) hn hk (RelDs.over h hs)
  | _, _, .ref n k => .ref n k
theorem RelDs.over (h : Off w ι N H D) : ∀ {d : List M3.D} {v : List V}, RelDs w.K ι N H d v → RelDs w.K ι N (upd H D o) d v
  | _, _, .nil => .nil
  | _, _, .cons r rs => .cons (RelD.over h r) (RelDs.over h rs)
end
theorem Rel.over (r : Rel w ι g H) (h : Off w ι g.length H D) : Rel w ι g (upd H D o) :=
  ⟨r.inj, fun n c e => CellOk.map (w := w) (w' := w) rfl (fun z => RelDs.over h z) (upd_ne (h.cell n (List.getElem?_eq_some_iff.mp e).1)) (r.cell n c e), fun b hb => by
    by_cases z : b = D
    · rw [z, upd_same]; simp
    · rw [upd_ne z]; exact r.hid b hb, fun y hy => by
    obtain ⟨fv, h1, h2, h3⟩ := r.exn y hy
    obtain ⟨ys, e⟩ := h.lst
    exact ⟨fv, by rw [upd_ne (fun z => by rw [z, e] at h1; cases h1)]; exact h1, h2, RelDs.over h h3⟩⟩
mutual
theorem RelD.adopt {K : PySem.W.Frag} {hid B : List Addr} (hB : D ∈ B) : ∀ {d : M3.D} {v : V}, RelD ⟨K, B ++ hid⟩ ι N H d v → RelD ⟨K, hid⟩ (iotaSet ι N D) (N + 1) H d v
  | _, _, .non => .non
  | _, _, .bl b => .bl b
  | _, _, .int i => .int i
  | _, _, .str s => .str s
  | _, _, .tup k hs => .tup k (RelDs.adopt hB hs)
  | _, _, .lst k hs => .lst (k.elim (fun y => .inl ⟨y.1, fun n hl z => by
      by_cases q : n = N
      · rw [q, iotaSet_same] at z; exact y.2.2 (by rw [← z]; exact List.mem_append_left _ hB)
      · rw [iotaSet_ne q] at z; exact y.2.1 n (by omega) z, fun z => y.2.2 (List.mem_append_right _ z)⟩) .inr) (RelDs.adopt hB hs)
  | _, _, .dct k hn hk hs => .dct k ⟨fun n hl z => by
      by_cases q : n = N
      · rw [q, iotaSet_same] at z; exact hn.2 (by rw [← z]; exact List.mem_append_left _ hB)
      · rw [iotaSet_ne q] at z; exact hn.1 n (by omega) z, fun z => hn.2 (List.mem_append_right _ z)⟩ hk (RelDs.adopt hB hs)
  | _, _, .ref n h => by
    have e : iotaSet ι N D n = ι n := iotaSet_ne (Nat.ne_of_lt h)
    rw [← e]
    exact .ref n (by omega)
theorem RelDs.adopt {K : PySem.W.Frag} {hid B : List Addr} (hB : D ∈ B) : ∀ {d : List M3.D} {v : List V}, RelDs ⟨K, B ++ hid⟩ ι N H d v → RelDs ⟨K, hid⟩ (iotaSet ι N D) (N + 1) H d v
  | _, _, .nil => .nil
  | _, _, .cons r rs => .cons (RelD.adopt hB r) (RelDs.adopt hB rs)
end
/-- the list in the making becomes a cell -/
theorem Rel.adopt (r : Rel (w.wh [D]) ι g H) (hc : ∀ n, n < g.length → ι n ≠ D) {xs : List M3.D} {vs : List V} (h : H D = some (.lst vs)) (rs : RelDs (w.wh [D]).K ι g.length H xs vs) : Rel w (iotaSet ι g.length D) (g ++ [.lst xs]) H := by
  have hl : (g ++ [Cell.lst xs]).length = g.length + 1 := by simp
  refine ⟨fun m n hm hn e => ?_, fun n k e => ?_, fun b hb => r.hid b (List.mem_append_right _ hb), fun y hy => ?_⟩
  rotate_left 2
  · obtain ⟨fv, h1, h2, h3⟩ := r.exn y hy
    rw [hl]
    exact ⟨fv, h1, h2, RelDs.adopt (B := [D]) (by simp) h3⟩
  · rw [hl] at hm hn
    by_cases h1 : m = g.length <;> by_cases h2 : n = g.length
    · rw [h1, h2]
    · rw [h1, iotaSet_same, iotaSet_ne h2] at e
      exact absurd e.symm (hc n (by omega))
    · rw [h2, iotaSet_same, iotaSet_ne h1] at e
      exact absurd e (hc m (by omega))
    · rw [iotaSet_ne h1, iotaSet_ne h2] at e
      exact r.inj m n (by omega) (by omega) e
  · rw [hl]
    by_cases h1 : n < g.length
    · rw [List.getElem?_append_left h1] at e
      rw [iotaSet_ne (Nat.ne_of_lt h1)]
      exact CellOk.map (w := w.wh [D]) (w' := w) rfl (fun z => RelDs.adopt (by simp) z) rfl (r.cell n k e)
    · have h2 : n < g.length + 1 := by
        have := (List.getElem?_eq_some_iff.mp e).1
        rwa [hl] at this
      have q : n = g.length := by omega
      subst q
      rw [List.getElem?_append_right (Nat.le_refl _), Nat.sub_self] at e
      simp at e
      subst e
      rw [iotaSet_same]
      exact ⟨vs, h, RelDs.adopt (by simp) rs⟩
end
end M3
/-! L3Cmp: the list comprehension -/
namespace M3
open PySem L2 PyProof.Rows
section
variable {Z : Ws} {X : Cx} {w : Wd} {W : WX} {c : Cfg} {hot : Bool} {n : Nat} {dfs : Nat → Def} {ok : Nat → Prop} {ι : Iota} {H : Hp} {σ : L2.St} {ρ : Env} {g : G}
theorem wipe_wipe {σ : L2.St} {us : List Nat} : ∀ {vs : List Nat}, (∀ i ∈ vs, i ∈ us) → L2.wipe (L2.wipe σ vs) us = L2.wipe σ us
  | [], _ => rfl
  | v :: vs, h => by
    show L2.wipe ((L2.wipe σ vs).set v none) us = _
    rw [wipe_set (h v List.mem_cons_self), wipe_wipe fun i hi => h i (List.mem_cons_of_mem _ hi)]
theorem takes_f {X : Cx} : L2N.Takes X Wf := fun _ _ ⟨_, _, _, _, _, _, _, _, _, _, _, _, _, _, _, _, z⟩ => z.elim
theorem COk.blk (C : COk Z X w W c hot n dfs ok) (hc : X.calm = true) (s : Shared) (H : Hp) (scope : Scope) (cenv : PySem.Env) (fp B : List Addr) : COk Z (X.blk s H scope cenv fp) (w.wh B) Wf c hot n dfs ok where
  E := ⟨C.E.hK, C.E.un, C.E.gd, C.E.cm⟩
  P := C.P
  wd := C.wd
  K := C.K
  mg := C.mg
  base := C.base
  cl := C.cl
  calm := C.calm
  call := C.call
  room := C.room
  hotc := fun z => by
    have h1 := C.E.cm
    rw [hc, C.calm, z] at h1
    cases h1
  tk := takes_f
  lev := C.lev
  levH := C.levH
  hcall := C.hcall
  exn := C.exn
  nd := C.nd
  po := PassesOwn.never
theorem COk.cold (C : COk Z X w W c hot n dfs ok) (hc : X.calm = true) : hot = false := by
  have h1 := C.E.cm
  rw [hc, C.calm] at h1
  cases hot with
  | false => rfl
  | true => cases h1
theorem COk.exn' (C : COk Z X w W c hot n dfs ok) (hc : X.calm = true) : w.exn = none := C.exn (C.cold hc)
/-- a turn of the comprehension -/
noncomputable def turnM (c : Cfg) (cs : List ME) (e : ME) (ρ : Env) (g : G) : R (Option D) := (evTs c cs ρ g).bind fun b g2 => if b then (evE c e ρ g2).bind fun y g3 => .ok (some y) g3 else .ok none g2
theorem Ext.off {w : Wd} {ι ι' : Iota} {N N' : Nat} {H H' : Hp} {D : Addr} {xs : List V} (x : Ext ι N H ι' N' H') (h : H D = some (.lst xs)) (hn : ∀ n, n < N → ι n ≠ D) : H' D = some (.lst xs) ∧ ∀ n, n < N' → ι' n ≠ D := ⟨x.keep _ _ h hn, x.fresh h hn⟩
theorem lc_loop {J : It} {xs : List D} {wt : Watch} {cs : List ME} {e : ME} {tgt : Tgt} {t : Bool} {vs : List Nat} {Q : VK} {τ : L2.St} (rl : Rel w ι g H) (re : RelE w ι g.length H ρ (L2.wipe σ vs)) (hv : ∀ i ∈ idxT tgt, i ∈ vs) (k : Wk w J xs wt ι g.length H)
    (h : FinE w W ι g.length H τ ((compM (turnM c cs e) tgt ρ wt xs [] g).bind fun ys g2 => newL t ys g2) Q) (Dd : Addr) (hD : H Dd = none) :
    ∃ Wv : Nat → Nat → Hp → Prop, (∃ m, Wv 0 m (upd H Dd (.lst []))) ∧ ∀ i m H, Wv i m H →
      (J.stop i H ∧ Q (.ref Dd) H) ∨ (J.go i H ∧ ∃ Nx : Hp → Prop, (∀ H', Nx H' → ∃ m', m' < m ∧ Wv (i + 1) m' H') ∧ ∀ x H', J.yld i H x H' → (∃ B, tG (w.wh B) tgt x (L2.wipe σ vs) H' fun σ2 H2 => L2.wipe σ2 vs = L2.wipe σ vs ∧ ∃ B, tT (w.wh B) Wf (evTs c cs) σ2 H2 fun b H3 =>
        if b = true then (∃ B, tE (w.wh B) Wf (evE c e) σ2 H3 fun y H4 => ∃ acc, H4 Dd = some (.lst acc) ∧ acc.length < sizeLine ∧ Nx (upd H4 Dd (.lst (acc ++ [y])))) else Nx H3)) := by
  have hB : ∀ b ∈ [Dd], H b = none := fun b hb => by rw [List.mem_singleton.mp hb]; exact hD
  let Wv : Nat → Nat → Hp → Prop := fun i m H1 => m = xs.length - i ∧ i ≤ xs.length ∧ ∃ (ι' : Iota) (g' : G) (acc : List D) (av : List V), Ext ι g.length H ι' g'.length H1 ∧ Rel (w.wh [Dd]) ι' g' H1 ∧ H1 Dd = some (.lst av) ∧ (∀ n, n < g'.length → ι' n ≠ Dd) ∧
    RelDs (w.wh [Dd]).K ι' g'.length H1 acc av ∧ FinE w W ι g.length H τ ((compM (turnM c cs e) tgt ρ wt (xs.drop i) acc g').bind fun ys g2 => newL t ys g2) Q
  refine ⟨Wv, ⟨xs.length, by simp, Nat.zero_le _, ι, g, [], [], ?_, ?_, upd_same, ?_, .nil, h⟩, ?_⟩
  · exact Ext.alloc hD
  · have r1 : Rel (w.wh [Dd]) ι g (upd H Dd (.lst [])) := by
      have r2 := rl.alloc (o := .lst []) hD
      refine ⟨r2.inj, fun n c e => ?_, fun b hb => ?_, fun y hy => let ⟨fv, h1, h2, h3⟩ := rl.exn y hy; ExcAt.mono ⟨fv, h1, h2, RelDs.hide hB h3⟩ (Ext.alloc hD) rl.cells⟩
      · refine CellOk.map (w := w) (w' := w.wh [Dd]) rfl (fun z => (RelDs.hide hB z).mono (Ext.alloc hD) rl.cells) (upd_ne ?_) (rl.cell n c e)
        intro z
        obtain ⟨u, h1, _⟩ := rl.cells n (List.getElem?_eq_some_iff.mp e).1
        rw [z, hD] at h1; cases h1
      · rcases List.mem_append.mp hb with hb | hb
        · rw [List.mem_singleton.mp hb, upd_same]; simp
        · exact r2.hid b hb
    exact r1
  · intro n hn z
    obtain ⟨u, h1, _⟩ := rl.cells n hn
    rw [z, hD] at h1; cases h1
  · rintro i m H1 ⟨rfl, hi, ι', g', acc, av, x, r, hd, hn, ra, hq⟩
    have re1 : RelE (w.wh [Dd]) ι' g'.length H1 ρ (L2.wipe σ vs) := (RelE.hide hB re).mono x rl.cells
    by_cases hlt : i < xs.length
    · have hdr : xs.drop i = xs[i] :: xs.drop (i + 1) := List.drop_eq_getElem_cons hlt
      have hx : xs[i]? = some xs[i] := List.getElem?_eq_getElem hlt
      rw [hdr] at hq
      unfold compM at hq
      split at hq
      · rename_i st
        obtain ⟨_, kk⟩ := k [Dd] hB i ι' g' H1 x r st
        obtain ⟨k1, k2⟩ := kk _ hx
        refine .inr ⟨k1, fun H2 => Wv (i + 1) (xs.length - (i + 1)) H2, fun H2 z => ⟨xs.length - (i + 1), by omega, z⟩, fun y H2 hy => ?_⟩
        obtain ⟨x1, r1, rd⟩ := k2 y H2 hy
        cases qb : bindT g' tgt xs[i] ρ with
        | none => rw [qb] at hq; exact False.elim hq
        | some ρ' =>
          rw [qb] at hq
          dsimp only at hq
          refine ⟨[Dd], ι', xs[i], ρ, ρ', g', r1, re1.mono x1 r.cells, rd, qb, fun σ2 re2 hw => ⟨(hw vs hv).trans (wipe_wipe fun _ z => z), [Dd], ι', ρ', g', r1, re2, ?_⟩⟩
          obtain ⟨hd1, hn1⟩ := Ext.off (w := w) x1 hd hn
          have ra1 := ra.mono x1 r.cells
          cases qt : evTs c cs ρ' g' with
          | bad => 
            have e1 : turnM c cs e ρ' g' = .bad := by unfold turnM; rw [qt]; rfl
            rw [e1] at hq; exact False.elim hq
          | exc k fs g2 =>
            have e1 : turnM c cs e ρ' g' = .exc k fs g2 := by unfold turnM; rw [qt]; rfl
            rw [e1] at hq; exact False.elim hq
          | ok b g2 =>
            intro ι2 H3 b' x2 r2 eb
            have eb : b = b' := eb
            subst eb
            obtain ⟨hd2, hn2⟩ := Ext.off (w := w) x2 hd1 hn1
            have ra2 := ra1.mono x2 r1.cells
            cases b with
            | false =>
              have e1 : turnM c cs e ρ' g' = .ok none g2 := by unfold turnM; rw [qt]; rfl
              rw [e1] at hq
              show Wv (i + 1) _ H3
              exact ⟨rfl, hlt, ι2, g2, acc, av, (x.trans x1).trans x2, r2, hd2, hn2, ra2, hq⟩
            | true =>
              refine ⟨[Dd], ι2, ρ', g2, r2, re2.mono x2 r1.cells, ?_⟩
              cases qe : evE c e ρ' g2 with
              | bad =>
                have e1 : turnM c cs e ρ' g' = .bad := by unfold turnM; rw [qt]; show (evE c e ρ' g2).bind _ = _; rw [qe]; rfl
                rw [e1] at hq; exact False.elim hq
              | exc k fs g3 =>
                have e1 : turnM c cs e ρ' g' = .exc k fs g3 := by unfold turnM; rw [qt]; show (evE c e ρ' g2).bind _ = _; rw [qe]; rfl
                rw [e1] at hq; exact False.elim hq
              | ok y g3 =>
                have e1 : turnM c cs e ρ' g' = .ok (some y) g3 := by unfold turnM; rw [qt]; show (evE c e ρ' g2).bind _ = _; rw [qe]; rfl
                rw [e1] at hq
                dsimp only at hq
                intro ι3 H4 v x3 r3 rv
                obtain ⟨hd3, hn3⟩ := Ext.off (w := w) x3 hd2 hn2
                have ra3 := ra2.mono x3 r2.cells
                split at hq
                · rename_i hz
                  have of : Off (w.wh [Dd]) ι3 g3.length H4 Dd := ⟨by simp, hn3, av, hd3⟩
                  refine ⟨av, hd3, by rw [← ra.length]; exact hz, ?_⟩
                  show Wv (i + 1) _ _
                  exact ⟨rfl, hlt, ι3, g3, acc ++ [y], av ++ [v], (((x.trans x1).trans x2).trans x3).over hD, r3.over of, upd_same, hn3, RelDs.over of (ra3.append (.cons rv .nil)), hq⟩
                · exact False.elim hq
      · exact False.elim hq
    · have ei : i = xs.length := by omega
      have hdr : xs.drop i = [] := List.drop_eq_nil_of_le (by omega)
      rw [hdr] at hq
      unfold compM at hq
      split at hq
      · rename_i st
        obtain ⟨k1, _⟩ := k [Dd] hB i ι' g' H1 x r st
        refine .inl ⟨k1 (by omega), ?_⟩
        have nh : Dd ∉ w.K.hid := fun z => rl.hid Dd z hD
        cases t with
        | false =>
          have hq : FinE w W ι g.length H τ (.ok (.lst acc) g') Q := hq
          exact hq ι' H1 (.ref Dd) x r.unhide (.lst (.inl ⟨.inl hd, hn, nh⟩) (RelDs.unhide (B := [Dd]) ra))
        | true =>
          have hq : FinE w W ι g.length H τ (.ok (.ref g'.length) (g' ++ [.lst acc])) Q := hq
          have hl : (g' ++ [Cell.lst acc]).length = g'.length + 1 := by simp
          have q := hq (iotaSet ι' g'.length Dd) H1 (.ref Dd)
          rw [hl] at q
          refine q ⟨Nat.le_succ_of_le x.le, fun n h => ?_, fun n h1 h2 => ?_, x.keep, x.there⟩ (Rel.adopt r hn hd ra) ?_
          · rw [iotaSet_ne (Nat.ne_of_lt (Nat.lt_of_lt_of_le h x.le))]
            exact x.same n h
          · by_cases hg : n = g'.length
            · rw [hg, iotaSet_same]; exact hD
            · rw [iotaSet_ne hg]; exact x.new n h1 (by omega)
          · have e : iotaSet ι' g'.length Dd g'.length = Dd := iotaSet_same
            have kk := RelD.ref (K := w.K) (ι := iotaSet ι' g'.length Dd) (H := H1) g'.length (Nat.lt_succ_self _)
            rw [e] at kk
            exact kk
      · exact False.elim hq

/-- [elt for tg in iter if ..] -/
theorem s_lc {elt tg iter : Expr} {ifs : List Expr} {scope : Scope} {own : List (Str × Nat)} {pos : Pos} {sk : SK} {src cs : List ME} {tgt : Tgt} {e : ME} {t : Bool} {vs : List Nat} (C : COk Z X w W c hot n dfs ok) (hc : X.calm = true) (hi : SI X w W c tg iter sk src)
    (ho : BlkOk X.N X.env.scope scope own) (hvs : own.map (·.2) = vs) (hv : ∀ i ∈ idxT tgt, i ∈ vs)
    (hg : ∀ (s : Shared) (H : Hp) (Ca : Addr) (cl : List (Str × Addr)) (fp B : List Addr), SG (X.blk s H scope (compEnvC scope cl Ca X.env) fp) (w.wh B) tg tgt)
    (ht : ∀ (s : Shared) (H : Hp) (Ca : Addr) (cl : List (Str × Addr)) (fp B : List Addr), COk Z (X.blk s H scope (compEnvC scope cl Ca X.env) fp) (w.wh B) Wf c hot n dfs ok → STs (X.blk s H scope (compEnvC scope cl Ca X.env) fp) (w.wh B) Wf c ifs cs)
    (he : ∀ (s : Shared) (H : Hp) (Ca : Addr) (cl : List (Str × Addr)) (fp B : List Addr), COk Z (X.blk s H scope (compEnvC scope cl Ca X.env) fp) (w.wh B) Wf c hot n dfs ok → SE (X.blk s H scope (compEnvC scope cl Ca X.env) fp) (w.wh B) Wf c elt e)
    (hs : ∀ x, foldedSetIterable iter X.env x = pure x := by intro _; rfl) : SE X w W c (.ListComp elt [⟨tg, iter, ifs, 0⟩] scope pos) (.comp t vs sk src tgt cs e) := by
  subst hvs
  refine PE.imp (pe_lc hc C.nd hi ho (fun s H Ca cl fp => PG.ex fun B => hg s H Ca cl fp B) (fun s H Ca cl fp => PTs.ex fun B => ht s H Ca cl fp B (C.blk hc s H scope _ fp B)) (fun s H Ca cl fp => PE.ex fun B => he s H Ca cl fp B (C.blk hc s H scope _ fp B)) hs) fun σ H Q ⟨ι, ρ, g, rl, re, h⟩ => ?_
  unfold evE at h
  rw [if_pos (by rw [← C.E.cm]; exact hc)] at h
  refine ⟨ι, ρ, g, rl, re, ?_⟩
  unfold evI
  cases q : evEs c src ρ g with
  | bad => rw [q] at h; exact False.elim h
  | exc k fs g1 => rw [q] at h; exact h
  | ok ds g1 =>
    rw [q] at h
    simp only [R.bind_ok] at h ⊢
    cases q2 : srcM sk ds g1 with
    | none => rw [q2] at h; exact False.elim h
    | some p =>
      obtain ⟨xs, wt⟩ := p
      rw [q2] at h
      intro ι1 H1 J x r1 k Dd hD
      exact lc_loop r1 ((re.mono x rl.cells).wipe (C.exn' hc) _) hv k (FinR.from x h) Dd hD
end
end M3
/-! L3Stm: statements -/
namespace M3
open PySem L2 PyProof.Rows
section
variable {Z : Ws} {X : Cx} {w : Wd} {W : WX} {c : Cfg} {hot : Bool} {n : Nat} {dfs : Nat → Def} {ok : Nat → Prop} {ι : Iota} {H : Hp} {σ : L2.St} {ρ : Env} {g : G} {D : Ends}
theorem go_SE {f : Env → G → R M3.D} {k : M3.D → G → S} {P : V → Hp → Prop} (rl : Rel w ι g H) (re : RelE w ι g.length H ρ σ) (h : FinS w W ι g.length H ((f ρ g).thn ρ k) D)
    (hp : ∀ ι1 (g1 : G) d v H1, Ext ι g.length H ι1 g1.length H1 → Rel w ι1 g1 H1 → RelE w ι1 g1.length H1 ρ σ → RelD w.K ι1 g1.length H1 d v → FinS w W ι1 g1.length H1 (k d g1) D → P v H1) : tE w W f σ H P :=
  ⟨ι, ρ, g, rl, re, (FinS.thn (Rl := rD w) rl re h).imp fun v H1 ⟨ι1, g1, d, x, a, b, re1, q⟩ => hp ι1 g1 d v H1 x a re1 b q⟩
theorem go_SA {f : Env → G → R (List M3.D)} {k : List M3.D → G → S} {P : List V → Hp → Prop} (rl : Rel w ι g H) (re : RelE w ι g.length H ρ σ) (h : FinS w W ι g.length H ((f ρ g).thn ρ k) D)
    (hp : ∀ ι1 (g1 : G) d v H1, Ext ι g.length H ι1 g1.length H1 → Rel w ι1 g1 H1 → RelE w ι1 g1.length H1 ρ σ → RelDs w.K ι1 g1.length H1 d v → FinS w W ι1 g1.length H1 (k d g1) D → P v H1) : tA w W f σ H P :=
  ⟨ι, ρ, g, rl, re, (FinS.thn (Rl := rDs w) rl re h).imp fun v H1 ⟨ι1, g1, d, x, a, b, re1, q⟩ => hp ι1 g1 d v H1 x a re1 b q⟩
theorem go_ST {f : Env → G → R Bool} {k : Bool → G → S} {P : Bool → Hp → Prop} (rl : Rel w ι g H) (re : RelE w ι g.length H ρ σ) (h : FinS w W ι g.length H ((f ρ g).thn ρ k) D)
    (hp : ∀ ι1 (g1 : G) b H1, Ext ι g.length H ι1 g1.length H1 → Rel w ι1 g1 H1 → RelE w ι1 g1.length H1 ρ σ → FinS w W ι1 g1.length H1 (k b g1) D → P b H1) : tT w W f σ H P :=
  ⟨ι, ρ, g, rl, re, (FinS.thn (Rl := rEq Bool) rl re h).imp fun v H1 ⟨ι1, g1, d, x, a, b, re1, q⟩ => by
    have e : d = v := b
    subst e
    exact hp ι1 g1 d H1 x a re1 q⟩
theorem FinS.here {ρ : Env} {g : G} (h : FinS w W ι g.length H (.nx ρ g) D) (r : Rel w ι g H) (e : RelE w ι g.length H ρ σ) : D.nx σ H := h ι H σ (Ext.refl _ _ _) r e
theorem FinS.rt' {d : M3.D} {v : V} {g : G} (h : FinS w W ι g.length H (.rt d g) D) (r : Rel w ι g H) (k : RelD w.K ι g.length H d v) : D.rt v H := h ι H v (Ext.refl _ _ _) r k
abbrev SS (X : Cx) (w : Wd) (W : WX) (c : Cfg) (st : Stmt) (m : MS) : Prop := PS X st (tS w W (evS c m))
abbrev SSs (X : Cx) (w : Wd) (W : WX) (c : Cfg) (sts : List Stmt) (ms : List MS) : Prop := PSs X sts (tS w W (evSs c ms))
variable {e o i t : Expr} {me mo mi mt : ME} {es : List Expr} {ms : List ME} {pos : Pos} {st : Stmt} {sts a b : List Stmt} {m : MS} {mss ma mb : List MS}
theorem ss_nil : SSs X w W c [] [] := by
  refine PSs.imp pss_nil fun D σ H ⟨ι, ρ, g, rl, re, h⟩ => ?_
  unfold evSs at h
  exact FinS.here h rl re
theorem ss_cons (h1 : SS X w W c st m) (h2 : SSs X w W c sts mss) : SSs X w W c (st :: sts) (m :: mss) := by
  refine PSs.imp (pss_cons h1 h2) fun D σ H ⟨ι, ρ, g, rl, re, h⟩ => ?_
  unfold evSs at h
  refine ⟨ι, ρ, g, rl, re, ?_⟩
  exact FinS.nxt h
theorem st_pass : SS X w W c (.Pass pos) .pass := by
  refine PS.imp ps_pass fun D σ H ⟨ι, ρ, g, rl, re, h⟩ => ?_
  unfold evS at h
  exact FinS.here h rl re
theorem st_brk : SS X w W c (.Break pos) .brk := by
  refine PS.imp ps_break fun D σ H ⟨ι, ρ, g, rl, re, h⟩ => ?_
  unfold evS at h
  exact h ι H σ (Ext.refl _ _ _) rl re
theorem st_cont : SS X w W c (.Continue pos) .cont := by
  refine PS.imp ps_continue fun D σ H ⟨ι, ρ, g, rl, re, h⟩ => ?_
  unfold evS at h
  exact h ι H σ (Ext.refl _ _ _) rl re
theorem st_retN : SS X w W c (.Return none pos) .retN := by
  refine PS.imp ps_retN fun D σ H ⟨ι, ρ, g, rl, re, h⟩ => ?_
  unfold evS at h
  exact FinS.rt' h rl .non
theorem st_ret (he : SE X w W c e me) : SS X w W c (.Return (some e) pos) (.ret me) := by
  refine PS.imp (ps_ret he) fun D σ H ⟨ι, ρ, g, rl, re, h⟩ => ?_
  unfold evS at h
  exact go_SE rl re h fun ι1 g1 d v H1 x1 rl1 re1 r1 h1 => FinS.rt' h1 rl1 r1
theorem st_ex (he : SE X w W c e me) (hs : swapsWith e none pos.line X.env = pure false := by rfl) : SS X w W c (.Expr e pos) (.ex me) := by
  refine PS.imp (ps_expr he hs) fun D σ H ⟨ι, ρ, g, rl, re, h⟩ => ?_
  unfold evS at h
  exact go_SE rl re h fun ι1 g1 d v H1 x1 rl1 re1 r1 h1 => FinS.here h1 rl1 re1
theorem st_if (ht : SB X w W c t mt) (ha : SSs X w W c a ma) (hb : SSs X w W c b mb) : SS X w W c (.If t a b pos) (.ite mt ma mb) := by
  refine PS.imp (ps_if ht ha hb) fun D σ H ⟨ι, ρ, g, rl, re, h⟩ => ?_
  have e : evS c (.ite mt ma mb) ρ g = (evB c mt ρ g).thn ρ fun k g1 => if k then evSs c ma ρ g1 else evSs c mb ρ g1 := by
    unfold evB
    rw [evS]
    cases evE c mt ρ g with
    | bad => rfl
    | exc k fs g1 => rfl
    | ok d g1 =>
      simp only [R.thn_ok, R.bind_ok]
      cases truM g1 d with
      | none => rfl
      | some k => cases k <;> rfl
  rw [e] at h
  refine go_ST rl re h fun ι1 g1 k H1 x1 rl1 re1 h1 => ?_
  cases k with
  | true => exact ⟨ι1, ρ, g1, rl1, re1, h1⟩
  | false => exact ⟨ι1, ρ, g1, rl1, re1, h1⟩
/-- name = e -/
theorem st_asg (k : Nat) {x : Str} {pos' : Pos} (hN : X.N.Nodup) (he : SE X w W c e me) (hi : X.N[k]? = some x := by rfl) (hx : Loc X.env.scope x := by first | exact .inl rfl | exact .inr rfl) (hs : swapsWith e (some (.Name x pos')) pos.line X.env = pure false := by rfl)
    (hf : X.fn x = true ∨ X.env.scope.names.lookup x = some .local := by first | exact .inl rfl | exact .inr rfl) : SS X w W c (.Assign [.Name x pos'] e pos) (.asg k me) := by
  refine PS.imp (ps_set hN hi hx he hs hf) fun D σ H ⟨ι, ρ, g, rl, re, h⟩ => ?_
  unfold evS at h
  exact go_SE rl re h fun ι1 g1 d v H1 x1 rl1 re1 r1 h1 => FinS.here h1 rl1 (re1.set r1 k)
/-- a, b = e (no written pair) -/
theorem st_asgT {tg : Expr} {is : List Nat} (he : SE X w W c e me) (hg : SG X w tg (.tp is)) (hs : swapsWithSole [tg] e pos.line X.env = pure false := by rfl) (hw : swappedStores [tg] e X.env = pure none := by rfl)
    (h1 : (assignEach [tg] X.env).map (·.2) = [assign tg X.env] := by rfl) : SS X w W c (.Assign [tg] e pos) (.asgT is me) := by
  refine PS.imp (ps_asg he hg hs hw h1) fun D σ H ⟨ι, ρ, g, rl, re, h⟩ => ?_
  unfold evS at h
  split at h
  · refine go_SE rl re h fun ι1 g1 d v H1 x1 rl1 re1 r1 h1 => ?_
    cases q : bindT g1 (.tp is) d ρ with
    | none => rw [q] at h1; exact False.elim h1
    | some ρ1 =>
      rw [q] at h1
      exact ⟨ι1, d, ρ, ρ1, g1, rl1, re1, r1, q, fun σ' re' _ => FinS.here h1 rl1 re'⟩
  · exact False.elim h
/-- a, b = x, y -/
theorem st_par2 (i j : Nat) {x y : Str} {e1 e2 : Expr} {m1 m2 : ME} {px py pt : Pos} {kt k2 : Nat} {pt2 : Pos} (hc : X.calm = true) (hN : X.N.Nodup) (ha : SA X w W c [e1, e2] [m1, m2]) (hij : i ≠ j := by decide) (hi : X.N[i]? = some x := by rfl) (hj : X.N[j]? = some y := by rfl)
    (hx : X.env.scope.names.lookup x = some .local := by rfl) (hy : X.env.scope.names.lookup y = some .local := by rfl)
    (hw : swappedStores [.Tuple [.Name x px, .Name y py] kt pt] (.Tuple [e1, e2] k2 pt2) X.env = pure (some [x, y]) := by rfl)
    (hs : swapsWithSole [.Tuple [.Name x px, .Name y py] kt pt] (.Tuple [e1, e2] k2 pt2) pos.line X.env = pure false := by rfl) :
    SS X w W c (.Assign [.Tuple [.Name x px, .Name y py] kt pt] (.Tuple [e1, e2] k2 pt2) pos) (.par [i, j] [m1, m2]) := by
  refine PS.imp (ps_par hc hN hi hj hij hx hy ha hw hs) fun D σ H ⟨ι, ρ, g, rl, re, h⟩ => ?_
  unfold evS at h
  refine go_SA rl re h fun ι1 g1 ds vs H1 x1 rl1 re1 r1 h1 => ?_
  split at h1
  · rename_i hl
    have hl := hl.2
    match ds, vs, r1, hl with
    | [d1, d2], [v1, v2], .cons q1 (.cons q2 .nil), _ =>
      refine ⟨v1, v2, rfl, FinS.here h1 rl1 ?_⟩
      exact (re1.set q1 i).set q2 j
  · exact False.elim h1
theorem st_par3 (i j l : Nat) {x y z : Str} {e1 e2 e3 : Expr} {m1 m2 m3 : ME} {px py pz pt : Pos} {kt k2 : Nat} {pt2 : Pos} (hc : X.calm = true) (hN : X.N.Nodup) (ha : SA X w W c [e1, e2, e3] [m1, m2, m3]) (hij : i ≠ j := by decide) (hil : i ≠ l := by decide) (hjl : j ≠ l := by decide)
    (hi : X.N[i]? = some x := by rfl) (hj : X.N[j]? = some y := by rfl) (hl : X.N[l]? = some z := by rfl)
    (hx : X.env.scope.names.lookup x = some .local := by rfl) (hy : X.env.scope.names.lookup y = some .local := by rfl) (hz : X.env.scope.names.lookup z = some .local := by rfl)
    (hw : swappedStores [.Tuple [.Name x px, .Name y py, .Name z pz] kt pt] (.Tuple [e1, e2, e3] k2 pt2) X.env = pure (some [x, y, z]) := by rfl)
    (hs : swapsWithSole [.Tuple [.Name x px, .Name y py, .Name z pz] kt pt] (.Tuple [e1, e2, e3] k2 pt2) pos.line X.env = pure false := by rfl) :
    SS X w W c (.Assign [.Tuple [.Name x px, .Name y py, .Name z pz] kt pt] (.Tuple [e1, e2, e3] k2 pt2) pos) (.par [i, j, l] [m1, m2, m3]) := by
  refine PS.imp (ps_par3 hc hN hi hj hl hij hil hjl hx hy hz ha hw hs) fun D σ H ⟨ι, ρ, g, rl, re, h⟩ => ?_
  unfold evS at h
  refine go_SA rl re h fun ι1 g1 ds vs H1 x1 rl1 re1 r1 h1 => ?_
  split at h1
  · rename_i hl
    have hl := hl.2
    match ds, vs, r1, hl with
    | [d1, d2, d3], [v1, v2, v3], .cons q1 (.cons q2 (.cons q3 .nil)), _ =>
      refine ⟨v1, v2, v3, rfl, FinS.here h1 rl1 ?_⟩
      exact ((re1.set q1 i).set q2 j).set q3 l
  · exact False.elim h1
/-- o[i] = e, of a list -/
theorem st_iset {tpos : Pos} (ho : SE X w W c o mo) (hi : SE X w W c i mi) (he : SE X w W c e me) (hs : swapsWithSole [.Subscript o i tpos] e pos.line X.env = pure false := by rfl) (hw : swappedStores [.Subscript o i tpos] e X.env = pure none := by rfl)
    (h1 : (assignEach [.Subscript o i tpos] X.env).map (·.2) = [assign (.Subscript o i tpos) X.env] := by rfl)
    (ha : ∀ v, assign (.Subscript o i tpos) X.env v = (do
      let ov ← holding [v] (eval o X.env)
      let iv ← holding [v, ov] (eval i X.env)
      standAt tpos
      holding [v, ov, iv] (setItem ov iv v)
      release [v, ov, iv] []) := by intro _; rfl) : SS X w W c (.Assign [.Subscript o i tpos] e pos) (.iset mo mi me) := by
  refine PS.imp (ps_asg he (pg_sub ho hi set_list ha) hs hw h1) fun D σ H ⟨ι, ρ, g, rl, re, h⟩ => ?_
  unfold evS at h
  refine go_SE rl re h fun ι1 g1 d v H1 x1 rl1 re1 r1 h1 => ?_
  refine go_SE rl1 re1 h1 fun ι2 g2 x v2 H2 x2 rl2 re2 r2 h2 => ?_
  refine go_SE rl2 re2 h2 fun ι3 g3 j v3 H3 x3 rl3 re3 r3 h3 => ?_
  have r1' := (r1.mono x2 rl1.cells).mono x3 rl2.cells
  have r2' := r2.mono x3 rl2.cells
  cases r2' with
  | ref m hm =>
    dsimp only at h3
    split at h3
    · rename_i xs k q
      cases r3
      split at h3
      · rename_i l hl
        obtain ⟨_, vs, k1, k2⟩ := cell_lst rl3 q
        rw [k2.length] at hl
        refine ⟨_, vs, k, l, rfl, rfl, k1, hl, ?_⟩
        have x := Ext.write (ι := ι3) (N := g3.length) (H := H3) (o := .lst (vs.set l v)) hm
        have rl4 := rl3.write (c := .lst (xs.set l d)) (o := .lst (vs.set l v)) hm ⟨_, upd_same, (k2.set r1' l).mono x rl3.cells⟩
        have q := h3 ι3 (upd H3 (ι3 m) (.lst (vs.set l v))) σ
        rw [List.length_set] at q
        exact q x rl4 (re3.mono x rl3.cells)
      · exact False.elim h3
    · exact False.elim h3
  | _ => exact False.elim h3
theorem put_rel {K : KH} {N : Nat} {f : Str} {d : M3.D} {v : V} (r : RelD K ι N H d v) : ∀ {fs : List (Str × M3.D)} {fv : List (Str × V)}, fv.map (·.1) = fs.map (·.1) → RelDs K ι N H (fs.map (·.2)) (fv.map (·.2)) →
    (putF f v fv).map (·.1) = (putD f d fs).map (·.1) ∧ RelDs K ι N H ((putD f d fs).map (·.2)) ((putF f v fv).map (·.2))
  | [], [], _, _ => ⟨rfl, .cons r .nil⟩
  | [], _ :: _, he, _ => by cases he
  | (k, d0) :: fs, [], he, _ => by cases he
  | (k, d0) :: fs, (k2, v0) :: fv, he, rs => by
    rw [List.map_cons, List.map_cons, List.cons.injEq] at he
    obtain ⟨h1, h2⟩ := he
    have h1 : k2 = k := h1
    subst h1
    rw [List.map_cons, List.map_cons] at rs
    cases rs with
    | cons r0 rs =>
      obtain ⟨i1, i2⟩ := put_rel r h2 rs
      by_cases hk : k2 = f
      · rw [show putF f v ((k2, v0) :: fv) = (k2, v) :: fv from if_pos hk, show putD f d ((k2, d0) :: fs) = (k2, d) :: fs from if_pos hk]
        exact ⟨by rw [List.map_cons, List.map_cons, h2], .cons r rs⟩
      · rw [show putF f v ((k2, v0) :: fv) = (k2, v0) :: putF f v fv from if_neg hk, show putD f d ((k2, d0) :: fs) = (k2, d0) :: putD f d fs from if_neg hk]
        exact ⟨by rw [List.map_cons, List.map_cons, i1], .cons r0 i2⟩
/-- o.f = e -/
theorem st_fset {f : Str} {k : Nat} {pos' : Pos} (hK : X.K = w.K.K) (c1 : Cls w.K.K (w.cl k)) (c2 : NoAttr w.K.K (w.cl k) f) (ho : SE X w W c o mo) (he : SE X w W c e me) (hs : swapsWith e (some (.Attribute o f pos')) pos.line X.env = pure false := by rfl) :
    SS X w W c (.Assign [.Attribute o f pos'] e pos) (.fset k mo f me) := by
  refine PS.imp (ps_fld ho he hs) fun D σ H ⟨ι, ρ, g, rl, re, h⟩ => ?_
  unfold evS at h
  refine go_SE rl re h fun ι1 g1 d v H1 x1 rl1 re1 r1 h1 => ?_
  refine go_SE rl1 re1 h1 fun ι2 g2 x v2 H2 x2 rl2 re2 r2 h2 => ?_
  have r1' := r1.mono x2 rl1.cells
  cases r2 with
  | ref m hm =>
    dsimp only at h2
    split at h2
    · rename_i k' fs q
      split at h2
      · rename_i hk
        obtain ⟨rfl, hl⟩ := hk
        obtain ⟨dx, fv, k1, k2, k3⟩ := rl2.cell m _ q
        obtain ⟨p1, p2⟩ := put_rel (f := f) r1' k2 k3
        have hl2 : fv.length < 1000 := by
          have := congrArg List.length k2
          simp only [List.length_map] at this
          omega
        rw [hK]
        refine ⟨_, _, dx, fv, rfl, k1, c1, c2, hl2, ?_⟩
        have x := Ext.write (ι := ι2) (N := g2.length) (H := H2) (o := .ins (w.cl k') dx (putF f v fv)) hm
        have rl4 := rl2.write (c := .ins k' (putD f d fs)) (o := .ins (w.cl k') dx (putF f v fv)) hm ⟨dx, _, upd_same, p1, p2.mono x rl2.cells⟩
        have q := h2 ι2 (upd H2 (ι2 m) (.ins (w.cl k') dx (putF f v fv))) σ
        rw [List.length_set] at q
        exact q x rl4 (re2.mono x rl2.cells)
      · exact False.elim h2
    · exact False.elim h2
  | _ => exact False.elim h2

/-! ### for, while -/
theorem forM_ok {J : It} {xs : List M3.D} {wt : Watch} {tgt : Tgt} {body : List MS} (rl : Rel w ι g H) (re : RelE w ι g.length H ρ σ) (k : Wk w J xs wt ι g.length H)
    (h : FinS w W ι g.length H (forM (fun ρ' g' => evSs c body ρ' g') tgt wt xs ρ g) D) :
    ∃ Wv : Nat → Nat → L2.St → Hp → Prop, (∃ m, Wv 0 m σ H) ∧ ∀ i m σ H, Wv i m σ H →
      (J.stop i H ∧ D.nx σ H) ∨ (J.go i H ∧ ∃ N : L2.St → Hp → Prop, (∀ σ' H', N σ' H' → ∃ m', m' < m ∧ Wv (i + 1) m' σ' H') ∧ ∀ x H', J.yld i H x H' → tG w tgt x σ H' fun σ2 H2 => tS w W (evSs c body) { D with nx := N, ct := N, bk := D.nx } σ2 H2) := by
  let Wv : Nat → Nat → L2.St → Hp → Prop := fun i m σ1 H1 => m = xs.length - i ∧ i ≤ xs.length ∧ ∃ (ι' : Iota) (g' : G) (ρ' : Env), Ext ι g.length H ι' g'.length H1 ∧ Rel w ι' g' H1 ∧ RelE w ι' g'.length H1 ρ' σ1 ∧
    FinS w W ι' g'.length H1 (forM (fun ρ' g' => evSs c body ρ' g') tgt wt (xs.drop i) ρ' g') D
  refine ⟨Wv, ⟨xs.length, by simp, Nat.zero_le _, ι, g, ρ, Ext.refl _ _ _, rl, re, h⟩, ?_⟩
  rintro i m σ1 H1 ⟨rfl, hi, ι', g', ρ1, x, r, re1, hq⟩
  by_cases hlt : i < xs.length
  · have hdr : xs.drop i = xs[i] :: xs.drop (i + 1) := List.drop_eq_getElem_cons hlt
    have hx : xs[i]? = some xs[i] := List.getElem?_eq_getElem hlt
    rw [hdr] at hq
    unfold forM at hq
    split at hq
    · rename_i st
      obtain ⟨_, kk⟩ := k [] (fun _ z => by cases z) i ι' g' H1 x r st
      obtain ⟨k1, k2⟩ := kk _ hx
      refine .inr ⟨k1, fun σ2 H2 => Wv (i + 1) (xs.length - (i + 1)) σ2 H2, fun σ2 H2 z => ⟨xs.length - (i + 1), by omega, z⟩, fun y H2 hy => ?_⟩
      obtain ⟨x1, r1, rd⟩ := k2 y H2 hy
      cases qb : bindT g' tgt xs[i] ρ1 with
      | none => rw [qb] at hq; exact False.elim hq
      | some ρ2 =>
        rw [qb] at hq
        dsimp only at hq
        refine ⟨ι', xs[i], ρ1, ρ2, g', r1, re1.mono x1 r.cells, rd, qb, fun σ2 re2 _ => ⟨ι', ρ2, g', r1, re2, ?_⟩⟩
        have hq := FinS.from x1 hq
        cases qs : evSs c body ρ2 g' with
        | nx ρ3 g3 =>
          rw [qs] at hq
          exact fun ι3 H3 σ3 x3 r3 re3 => ⟨rfl, hlt, ι3, g3, ρ3, (x.trans x1).trans x3, r3, re3, FinS.from x3 hq⟩
        | ct ρ3 g3 =>
          rw [qs] at hq
          exact fun ι3 H3 σ3 x3 r3 re3 => ⟨rfl, hlt, ι3, g3, ρ3, (x.trans x1).trans x3, r3, re3, FinS.from x3 hq⟩
        | bk ρ3 g3 => rw [qs] at hq; exact hq
        | rt d g3 => rw [qs] at hq; exact hq
        | exc k fs ρ3 g3 => rw [qs] at hq; exact hq
        | bad => rw [qs] at hq; exact hq
    · exact False.elim hq
  · have ei : i = xs.length := by omega
    have hdr : xs.drop i = [] := List.drop_eq_nil_of_le (by omega)
    rw [hdr] at hq
    unfold forM at hq
    split at hq
    · rename_i st
      obtain ⟨k1, _⟩ := k [] (fun _ z => by cases z) i ι' g' H1 x r st
      exact .inl ⟨k1 (by omega), FinS.here hq r re1⟩
    · exact False.elim hq
theorem st_for {tg iter : Expr} {sk : SK} {src : List ME} {tgt : Tgt} {body : List Stmt} {mb : List MS} (hcc : X.calm = c.calm) (hc : X.calm = true) (po : PassesOwn (model X.prog X.w) X.A X.env X.xe) (hi : SI X w W c tg iter sk src) (hg : SG X w tg tgt) (hb : SSs X w W c body mb)
    (hs : ∀ x, foldedSetIterable iter X.env x = pure x := by intro _; rfl) : SS X w W c (.For tg iter body [] pos) (.for_ tgt sk src mb) := by
  refine PS.imp (ps_for po hc hi hg hb hs) fun D σ H ⟨ι, ρ, g, rl, re, h⟩ => ?_
  unfold evS at h
  refine ⟨ι, ρ, g, rl, re, ?_⟩
  unfold evI
  cases q : evEs c src ρ g with
  | bad => rw [q] at h; exact False.elim h
  | exc k fs g1 =>
    rw [q] at h
    exact fun ι' H' dx x a b => h ι' H' dx σ x a (re.mono x rl.cells) b
  | ok ds g1 =>
    rw [q] at h
    simp only [R.thn_ok, R.bind_ok] at h ⊢
    cases q2 : srcM sk ds g1 with
    | none => rw [q2] at h; exact False.elim h
    | some p =>
      obtain ⟨xs, wt⟩ := p
      rw [q2] at h
      dsimp only at h
      rw [if_pos (Or.inl (hcc ▸ hc))] at h
      exact fun ι1 H1 J x r1 k => forM_ok r1 (re.mono x rl.cells) k (FinS.from x h)
theorem st_while {t : Expr} {body : List Stmt} {mb : List MS} (po : PassesOwn (model X.prog X.w) X.A X.env X.xe) (ht : SB X w W c t mt) (hb : SSs X w W c body mb) : SS X w W c (.While t body [] pos) (.while_ mt mb) := by
  refine PS.imp (ps_while po ht hb) fun D σ H ⟨ι, ρ, g, rl, re, h⟩ => ?_
  unfold evS at h
  refine ⟨fun m σ H => ∃ (ι : Iota) (ρ : Env) (g : G), Rel w ι g H ∧ RelE w ι g.length H ρ σ ∧ FinS w W ι g.length H (whileM (evB c mt) (fun ρ' g' => evSs c mb ρ' g') m ρ g) D, ⟨c.loop, ι, ρ, g, rl, re, h⟩, ?_⟩
  rintro m σ H ⟨ι, ρ, g, rl, re, h⟩
  cases m with
  | zero => unfold whileM at h; exact False.elim h
  | succ m =>
    unfold whileM at h
    refine go_ST rl re h fun ι1 g1 k H1 x1 rl1 re1 h1 => ?_
    cases k with
    | false =>
      rw [if_neg Bool.false_ne_true] at h1 ⊢
      exact FinS.here h1 rl1 re1
    | true =>
      rw [if_pos rfl] at h1 ⊢
      refine ⟨fun σ2 H2 => ∃ (ι : Iota) (ρ : Env) (g : G), Rel w ι g H2 ∧ RelE w ι g.length H2 ρ σ2 ∧ FinS w W ι g.length H2 (whileM (evB c mt) (fun ρ' g' => evSs c mb ρ' g') m ρ g) D, fun σ2 H2 z => ⟨m, Nat.lt_succ_self _, z⟩, ι1, ρ, g1, rl1, re1, ?_⟩
      cases qs : evSs c mb ρ g1 with
      | nx ρ3 g3 =>
        rw [qs] at h1
        exact fun ι3 H3 σ3 x3 r3 re3 => ⟨ι3, ρ3, g3, r3, re3, FinS.from x3 h1⟩
      | ct ρ3 g3 =>
        rw [qs] at h1
        exact fun ι3 H3 σ3 x3 r3 re3 => ⟨ι3, ρ3, g3, r3, re3, FinS.from x3 h1⟩
      | bk ρ3 g3 => rw [qs] at h1; exact h1
      | rt d g3 => rw [qs] at h1; exact h1
      | exc k fs ρ3 g3 => rw [qs] at h1; exact h1
      | bad => rw [qs] at h1; exact h1
end
end M3
/-! L3Exc: name = [..], raise, try, the caught exception -/
namespace M3
open PySem L2 PyProof.Rows
section
variable {Z : Ws} {X : Cx} {w : Wd} {W : WX} {c : Cfg} {hot : Bool} {n : Nat} {dfs : Nat → Def} {ok : Nat → Prop} {ι : Iota} {H : Hp} {σ : L2.St} {ρ : Env} {g : G} {D : Ends}
/-- name = [elt for tg in iter if ..] on one line, the name a local -/
theorem st_asgLc {i : Nat} {y : Str} {py spos : Pos} {elt tg iter : Expr} {ifs : List Expr} {scope : Scope} {own : List (Str × Nat)} {pos : Pos} {sk : SK} {src cs : List ME} {tgt : Tgt} {e : ME} {t : Bool} {vs : List Nat} (C : COk Z X w W c hot n dfs ok) (hc : X.calm = true)
    (hi : SI X w W c tg iter sk src) (ho : BlkOk X.N X.env.scope scope own) (hvs : own.map (·.2) = vs) (hv : ∀ i ∈ idxT tgt, i ∈ vs)
    (hg : ∀ (s : Shared) (H : Hp) (Ca : Addr) (cl : List (Str × Addr)) (fp B : List Addr), SG (X.blk s H scope (compEnvC scope cl Ca X.env) fp) (w.wh B) tg tgt)
    (ht : ∀ (s : Shared) (H : Hp) (Ca : Addr) (cl : List (Str × Addr)) (fp B : List Addr), COk Z (X.blk s H scope (compEnvC scope cl Ca X.env) fp) (w.wh B) Wf c hot n dfs ok → STs (X.blk s H scope (compEnvC scope cl Ca X.env) fp) (w.wh B) Wf c ifs cs)
    (he : ∀ (s : Shared) (H : Hp) (Ca : Addr) (cl : List (Str × Addr)) (fp B : List Addr), COk Z (X.blk s H scope (compEnvC scope cl Ca X.env) fp) (w.wh B) Wf c hot n dfs ok → SE (X.blk s H scope (compEnvC scope cl Ca X.env) fp) (w.wh B) Wf c elt e)
    (hsw : swapsWith (.ListComp elt [⟨tg, iter, ifs, 0⟩] scope pos) (some (.Name y py)) spos.line X.env = pure true)
    (hy : X.N[i]? = some y := by rfl) (hyl : X.env.scope.names.lookup y = some .local := by rfl)
    (hs : ∀ x, foldedSetIterable iter X.env x = pure x := by intro _; rfl) : SS X w W c (.Assign [.Name y py] (.ListComp elt [⟨tg, iter, ifs, 0⟩] scope pos) spos) (.asg i (.comp t vs sk src tgt cs e)) := by
  subst hvs
  refine PS.imp (ps_setLc hc C.nd hy hyl hsw hi ho (fun s H Ca cl fp => PG.ex fun B => hg s H Ca cl fp B) (fun s H Ca cl fp => PTs.ex fun B => ht s H Ca cl fp B (C.blk hc s H scope _ fp B)) (fun s H Ca cl fp => PE.ex fun B => he s H Ca cl fp B (C.blk hc s H scope _ fp B)) hs) fun D σ H ⟨ι, ρ, g, rl, re, h⟩ => ?_
  unfold evS at h
  have h' : tE w W (evE c (.comp t (own.map (·.2)) sk src tgt cs e)) σ H (fun v H1 => D.nx (σ.set i (some v)) H1) := go_SE rl re h fun ι1 g1 d v H1 x1 rl1 re1 r1 h1 => FinS.here h1 rl1 (re1.set r1 i)
  obtain ⟨ι, ρ, g, rl, re, h⟩ := h'
  unfold evE at h
  rw [if_pos (by rw [← C.E.cm]; exact hc)] at h
  refine ⟨ι, ρ, g, rl, re, ?_⟩
  unfold evI
  cases q : evEs c src ρ g with
  | bad => rw [q] at h; exact False.elim h
  | exc k fs g1 => rw [q] at h; exact h
  | ok ds g1 =>
    rw [q] at h
    simp only [R.bind_ok] at h ⊢
    cases q2 : srcM sk ds g1 with
    | none => rw [q2] at h; exact False.elim h
    | some p =>
      obtain ⟨xs, wt⟩ := p
      rw [q2] at h
      intro ι1 H1 J x r1 k Dd hD
      exact lc_loop (Q := fun v H1 => D.nx (σ.set i (some v)) H1) r1 ((re.mono x rl.cells).wipe (C.exn' hc) _) hv k (FinR.from x h) Dd hD

/-! ### raise C(e) -/
/-- the __init__ of an own exception of one field -/
def sp1 (C : Addr) (f : Str) : Sp := fun vs H Q _ => ∃ (a : Addr) (y : V), vs = [.ref a, y] ∧ H a = some (exo a C none) ∧ ∀ dx, H dx = none → dx ≠ a → Q .non (upd (upd H dx (exd dx [(f, y)])) a (exo a C (some dx)))
theorem mk_endN {pins : List (Addr × Obj)} {H1 H2 : Hp} {Q : XK} {hp hp2 h2 : Heap} {g1 g2 : Array GenState} {d1 d2 : Drawn} {t1 t2 : Nat} {os1 os2 : OsState} {a C d : Addr} {fs : List (Str × V)} (T : Raises X (.ref C)) (I1 : L2.Inv X pins σ H1 ⟨hp, g1, d1, t1, os1⟩)
    (ha : hp.objs.size ≤ a) (k : ∀ b o, hp.get? b = some o → hp2.get? b = some o) (un : Un (frs X.stack) [] (upd H1 a (exo a C none)) H2 hp2 h2) (hok : HOk X.prog X.w H2 h2) (ho : os2 = os1) (hb : AllBare g2)
    (ea : H2 a = some (exo a C (some d))) (ed : H2 d = some (exd d fs)) (hd1 : H1 d = none) (q : Q (.ref C) (some d) (upd (del H2 a) d (.xd fs))) : L2N.MkP X pins σ Q (.ref a) ⟨h2, g2, d2, t2, os2⟩ := by
  obtain ⟨t0, G, J, kG, ge, hoe, na⟩ := mk_end0 (d2 := d2) (t2 := t2) I1 ha k un hok ho hb ea ed hd1
  exact ⟨a, _, _, ⟨G, g2, d2, t2, os2⟩, _, .ref C, some d, rfl, J, kG, ge, hoe, ⟨rfl, rfl, fun vs e => by cases e; rfl⟩, rfl, rfl, na, rfl, hb, T, q⟩
theorem room_of {k : Nat} {A : Around} (r : RoomG false k A) : Room k A := ⟨r.hd rfl, r.dp, r.un⟩
theorem pmkN {CX : CXT} {x : Str} {e : Expr} {es : List Expr} {ta : TA} {p pos : Pos} {C fI : Addr} {k : Nat} {fd : FuncData} {ps : List Str} {sp : Sp} (T : OexC X.K C) (iC : PySem.W.findIn X.K (.ref C) "__init__" = some (some (.ref fI))) (tI : PySem.W.typeIn X.K (.ref fI) = some (.type "function"))
    (F1 : FnOk X.prog X.w X.K X.mg X.base CX k fI fd ps sp) (hr : Room (k + 1) X.A) (hb : Binds X.K fd ps []) (hx : Passes CX X (fun _ _ _ => False)) (hg : Gl X x) (hm : X.mg x = some (.ref C)) (ha : PA X (e :: es) ta)
    (hdb : (x == ("__debug__" : Str)) = false := by decide) (he : starEach (e :: es) X.env = (false, eval e X.env) :: starEach es X.env := by rfl) (hpl : (backTo pos (starEach es X.env)).any (·.1) = false := by rfl) :
    L2N.PMk X (.Call (.Name x p) (e :: es) [] pos) (tMkO C sp [] ta) := by
  intro pins s σ H Q I h
  obtain ⟨nm, q, N, bs, bm, sn, sub, ab, col, dd, k0, k1, k2, k3, k5, hC, hbm⟩ := T.cls
  refine wpAny_Call_Name_kw (ld_glob I hg hm ?_ hdb)
  refine PySem.W.callWith_K (h₀ := X.base) I.ok.mod.kin T.kC (thn (ha.run pos pins s σ H _ I h) fun us s1 ⟨vs, H1, I1, r1, hz, q1⟩ => ⟨I1.kIn, ?_⟩) he hpl
  show wpAny _ _ (call (.ref C) us) _ _ _
  obtain ⟨hp, g, dr, tk, os⟩ := s1
  have hsz : hp.objs.size ≤ hp.objs.size + 1 := Nat.le_succ _
  have hn : H1 (hp.objs.size + 1) = none := I1.hok.fresh hsz
  have hq := q1 (hp.objs.size + 1) hn
  rw [List.append_nil] at hq
  have kk : ∀ b o, hp.get? b = some o → ((hp.push (PySem.W.kdv_tup us)).push (PySem.HandSPX.excO C hp.objs.size)).get? b = some o := fun b o e => Heap.get?_push_of_some _ (Heap.get?_push_of_some _ e)
  have hget : ((hp.push (PySem.W.kdv_tup us)).push (PySem.HandSPX.excO C hp.objs.size)).get? (hp.objs.size + 1) = some (PySem.HandSPX.excO C hp.objs.size) := by heap_get
  have I2 : L2.Inv X pins σ (upd H1 (hp.objs.size + 1) (exo (hp.objs.size + 1) C none)) ⟨(hp.push (PySem.W.kdv_tup us)).push (PySem.HandSPX.excO C hp.objs.size), g, dr, tk, os⟩ :=
    I1.laid (t' := tk) (a := hp.objs.size + 1) (o := exo (hp.objs.size + 1) C none) (h' := (hp.push (PySem.W.kdv_tup us)).push (PySem.HandSPX.excO C hp.objs.size)) kk hsz (exo_ok hget)
  have r2 : Vals (V.ref (hp.objs.size + 1) :: vs) (Value.ref (hp.objs.size + 1) :: us) := .cons rfl r1
  have hl : (Value.ref (hp.objs.size + 1) :: us ++ []).length = ps.length := by
    have e := r2.length
    rw [F1.len _ _ _ _ hq] at e
    rw [List.append_nil]
    exact e.symm
  have hus : us.length ≤ sizeLine := by
    rw [← Paired.length r1, sizeLine_eq]
    omega
  have b2 := hb _ (Value.ref (hp.objs.size + 1) :: us) I2.kIn hl
  rw [List.append_nil] at b2
  refine wpAny_call (PySem.HandSPX.call_own F.excBase_ValueError (fun Y => PySem.HandSPX.refsVE_contains Y bm hbm) (I1.kIn _ _ hC) (PySem.W.looks_findIn I1.kIn iC) (fun self => PySem.W.bind_fn I1.kIn self tI) hus
    (codeAny_mono (F1.run _ X.stack _ _ ⟨Value.ref (hp.objs.size + 1) :: us, []⟩ (Value.ref (hp.objs.size + 1) :: us) _ _ (fun _ _ _ => False) (hr.make C us []) (I2.env0.make C us []) b2 r2 hq) fun r s' hq' => ?_))
  cases r with
  | error er => exact hx pins σ _ _ er s' I2 hq'
  | ok fl =>
    cases fl with
    | ret u =>
      obtain ⟨v, H2, os2, bare2, un2, hok2, rv, ev, d, fs, ea, ed, hd1, q2⟩ := hq'
      subst ev
      obtain ⟨h2, g2, d2, t2, os'⟩ := s'
      exact ⟨rv, mk_endN (raises_own T.exC T.tyC) I1 hsz kk un2 hok2 os2 bare2 ea ed hd1 q2⟩
    | next => exact False.elim hq'
    | brk => exact False.elim hq'
    | cont => exact False.elim hq'
/-- what is known of an own exception class with one field -/
structure XcOk (Z : Ws) (k : Nat) (f : Str) (fd : FuncData) : Prop where
  T : OexC Z.K (Z.cl k)
  init : ∃ fI, PySem.W.findIn Z.K (.ref (Z.cl k)) "__init__" = some (some (.ref fI)) ∧ PySem.W.typeIn Z.K (.ref fI) = some (.type "function") ∧ FnOk Z.P Z.wd Z.K Z.mg Z.base (L2N.CX Z.P Z.wd) 1 fI fd ["self", f] (sp1 (Z.cl k) f)
  bd : Binds Z.K fd ["self", f] []
theorem st_raise {k : Nat} {f x : Str} {fd : FuncData} {e : Expr} {me : ME} {p pos rpos : Pos} (C : COk Z X w W c hot n dfs ok) (hh : hot = false) (T : XcOk Z k f fd) (hm : Z.mg x = some (.ref (Z.cl k))) (he : SE X w W c e me) (hg : Gl X x := by rfl)
    (hdb : (x == ("__debug__" : Str)) = false := by decide) (hst : starEach [e] X.env = (false, eval e X.env) :: starEach [] X.env := by rfl) : SS X w W c (.Raise (some (.Call (.Name x p) [e] [] pos)) none rpos) (.raise k [f] [me]) := by
  subst hh
  have hc : X.calm = true := by rw [C.E.cm, C.calm]; rfl
  obtain ⟨fI, i1, i2, F1⟩ := T.init
  have T1 := T.T
  have Tb := T.bd
  rw [← C.P, ← C.wd, ← C.K, ← C.mg, ← C.base] at F1
  rw [← C.K] at T1 Tb i1 i2
  rw [← C.mg] at hm
  have hr : Room 2 X.A := room_of (C.room.mono (by omega))
  have hx : Passes (L2N.CX X.prog X.w) X (fun _ _ _ => False) := L2N.passes_call C.tk fun _ _ _ _ z => z.elim
  refine PS.imp (L2N.ps_raise hc C.tk (pmkN T1 i1 i2 F1 hr Tb hx hg hm (pa_cons he pa_nil hst) hdb hst)) fun D σ H ⟨ι, ρ, g, rl, re, h⟩ => ?_
  unfold evS at h
  rw [if_pos (by rw [← C.E.cm]; exact hc)] at h
  have e1 : evEs c [me] ρ g = (evE c me ρ g).bind fun d g1 => .ok [d] g1 := evEs_one c me ρ g
  have h2 : FinS w W ι g.length H ((evE c me ρ g).thn ρ fun d g1 => .exc k [(f, d)] ρ g1) D := by
    rw [e1] at h
    cases q : evE c me ρ g with
    | ok d g1 => rw [q] at h; exact h
    | exc k fs g1 => rw [q] at h; exact h
    | bad => rw [q] at h; exact h
  show tE w W (evE c me) σ H fun y H1 => [y].length ≤ 1000 ∧ _
  refine go_SE rl re h2 fun ι1 g1 d v H1 x1 rl1 re1 r1 h1 => ⟨(by show 1 ≤ 1000; decide), fun a ha => ?_⟩
  rw [List.append_nil]
  refine ⟨a, v, rfl, upd_same, fun dx hdx hne => ⟨rfl, dx, [(f, v)], upd_same, by rw [upd_ne hne, upd_same], ?_, ?_⟩⟩
  · rw [upd_ne hne] at hdx; exact hdx
  · have hdx1 : H1 dx = none := by rw [upd_ne hne] at hdx; exact hdx
    have eh : upd (del (upd (upd (upd H1 a (exo a (Z.cl k) none)) dx (exd dx [(f, v)])) a (exo a (Z.cl k) (some dx))) a) dx (.xd [(f, v)]) = upd H1 dx (.xd [(f, v)]) := by
      funext b
      by_cases h1 : b = dx
      · rw [h1, upd_same, upd_same]
      · rw [upd_ne h1, upd_ne h1]
        by_cases h2 : b = a
        · rw [h2, del_same, ha]
        · rw [del_ne h2, upd_ne h2, upd_ne h1, upd_ne h2]
    rw [eh]
    have x2 : Ext ι1 g1.length H1 ι1 g1.length (upd H1 dx (.xd [(f, v)])) := Ext.alloc hdx1
    rw [← C.cl]
    exact h1 ι1 _ dx σ x2 (rl1.alloc hdx1) (re1.mono x2 rl1.cells) ⟨[(f, v)], upd_same, rfl, .cons (r1.mono x2 rl1.cells) .nil⟩

/-! ### try: body, except x as n: suite -/
theorem PSs.exP {α : Type} {X : Cx} {st : List Stmt} {P : α → Prop} {t : α → TS} (h : ∀ a, P a → PSs X st (t a)) : PSs X st (fun D σ H => ∃ a, P a ∧ t a D σ H) := ⟨fun pins s σ H D I ⟨a, p, q⟩ => (h a p).run pins s σ H D I q⟩
abbrev Wd.ex (w : Wd) (x : Exn) : Wd := ⟨w.K, w.cl, some x⟩
theorem Rel.ex {x : Exn} (r : Rel w ι g H) (h : ExcAt w.K ι g.length H x.fs x.dx) : Rel (w.ex x) ι g H :=
  ⟨r.inj, fun n c h => CellOk.map (w := w) (w' := w.ex x) rfl (fun z => z) rfl (r.cell n c h), r.hid, fun y hy => by cases hy; exact h⟩
theorem Rel.unex {x : Exn} (hx : w.exn = none) (r : Rel (w.ex x) ι g H) : Rel w ι g H :=
  ⟨r.inj, fun n c h => CellOk.map (w := w.ex x) (w' := w) rfl (fun z => z) rfl (r.cell n c h), r.hid, fun y hy => by rw [hx] at hy; cases hy⟩
theorem RelE.unex {x : Exn} (hx : w.exn = none) {N : Nat} (r : RelE (w.ex x) ι N H ρ σ) : RelE w ι N H ρ σ := ⟨r.1, r.2, fun y hy => by rw [hx] at hy; cases hy⟩
/-- the configuration of a suite -/
abbrev Cfg.su (c : Cfg) (k : Nat) (fs : List (Str × M3.D)) : Cfg := { c with calm := false, call := c.hcall, cur := some (k, fs) }
theorem COk.suite {a : Addr} {oe : Obj} {pn : List (Addr × Obj)} {x : Exn} {d : Option Addr} {cls : Value} (C : COk Z X w W c hot n dfs ok) (hz : L2N.Zn cls d oe) (hf : ∃ vs, oe.data = .fields vs) (hx : x.a = a) (fs : List (Str × M3.D)) (k : Nat) :
    COk Z (X.suite a ((a, oe) :: pn)) (w.ex x) Wf (c.su k fs) true n dfs Z.okH where
  E := ⟨C.E.hK, C.E.un, C.E.gd, rfl⟩
  P := C.P
  wd := C.wd
  K := C.K
  mg := C.mg
  base := C.base
  cl := C.cl
  calm := rfl
  call := C.hcall
  room := ⟨fun z => (by cases z), C.room.dp, C.room.un, C.room.gd⟩
  hotc := fun _ => by
    obtain ⟨vs, hv⟩ := hf
    exact ⟨(a, oe), ⟨rfl, vs, hv, hz.2.2 vs hv⟩, List.mem_cons_self⟩
  tk := takes_f
  lev := C.levH
  levH := C.levH
  hcall := C.hcall
  exn := fun z => by cases z
  nd := C.nd
  po := PassesOwn.never
theorem st_try {x nm : Str} {cV : Value} {i : Nat} {body suite : List Stmt} {b₀ : Stmt} {np pos pos' : Pos} {mb mss : List MS} {kn cs : List Nat} (C : COk Z X w W c hot n dfs ok) (hs : X.stack = X.env :: X.outer) (hf : X.env.frame = some X.env.locals) (hc : X.calm = true)
    (hnm : Names X x cV) (hx : ∀ k ∈ kn, PySem.W.exmOne Z.K (.ref (Z.cl k)) cV = some (cs.contains k))
    (hb : ∀ (W' : WX) (pn : List (Addr × Obj)) (xe : Value → Shared → Prop), COk Z (X.tr pn xe) w W' c hot n dfs ok → SSs (X.tr pn xe) w W' c body mb)
    (hsu : ∀ (a : Addr) (oe : Obj) (pn : List (Addr × Obj)) (k : Nat) (fs : List (Str × M3.D)) (dx : Addr), k ∈ kn → cs.contains k = true → L2N.Zn (.ref (Z.cl k)) (some dx) oe → (∃ vs, oe.data = .fields vs) →
      COk Z (X.suite a ((a, oe) :: pn)) (w.ex ⟨a, k, dx, fs, i⟩) Wf (c.su k fs) true n dfs Z.okH → SSs (X.suite a ((a, oe) :: pn)) (w.ex ⟨a, k, dx, fs, i⟩) Wf (c.su k fs) (b₀ :: suite) mss)
    (hi : X.N[i]? = some nm := by rfl) (hln : X.env.kindOf nm = some .local := by rfl) :
    SS X w W c (.Try body [.ExceptHandler (some (.Name x np)) (some nm) (b₀ :: suite) pos'] [] [] pos) (.try_ mb kn [cs] [some i] [mss]) := by
  refine PS.imp (L2N.ps_try_as (ts := fun a cls d D σ H => ∃ p : Nat × List (Str × M3.D) × Addr, (p.1 ∈ kn ∧ cs.contains p.1 = true ∧ cls = .ref (Z.cl p.1) ∧ d = some p.2.2) ∧ tS (w.ex ⟨a, p.1, p.2.2, p.2.1, i⟩) Wf (evSs (c.su p.1 p.2.1) mss) D σ H) (tb := fun W' => tS w W' (evSs c mb)) hs hf C.nd hi hln hnm C.tk (fun W' pn xe tk po => ?_) fun a oe cls d pn hz hfl => PSs.exP fun p ⟨h1, h2, h3, h4⟩ => ?_) fun D σ H ⟨ι, ρ, g, rl, re, h⟩ => ?_
  · exact hb W' pn xe ⟨⟨C.E.hK, C.E.un, C.E.gd, C.E.cm⟩, C.P, C.wd, C.K, C.mg, C.base, C.cl, C.calm, C.call, C.room, (fun z => by
      have h1 := C.E.cm
      rw [hc, C.calm, z] at h1
      cases h1), tk, C.lev, C.levH, C.hcall, C.exn, C.nd, po⟩
  · subst h3 h4
    exact hsu a oe pn p.1 p.2.1 p.2.2 h1 h2 hz hfl (C.suite (x := ⟨a, p.1, p.2.2, p.2.1, i⟩) hz hfl rfl _ _)
  · have hxn := C.exn' hc
    unfold evS at h
    rw [if_pos (by rw [← C.E.cm]; exact hc)] at h
    refine ⟨ι, ρ, g, rl, re, ?_⟩
    cases q : evSs c mb ρ g with
    | nx ρ1 g1 => rw [q] at h; exact h
    | rt d g1 => rw [q] at h; exact h
    | bk ρ1 g1 => rw [q] at h; exact h
    | ct ρ1 g1 => rw [q] at h; exact h
    | bad => rw [q] at h; exact h
    | exc k fs ρ1 g1 =>
      rw [q] at h
      dsimp only at h
      intro ι1 H1 dx σ1 x1 rl1 re1 hex
      have hcl : w.cl k = Z.cl k := by rw [C.cl]
      split at h
      · rename_i hk
        refine ⟨cs.contains k, ?_, fun hy a na => ⟨(k, fs, dx), ⟨hk.1, hy, by rw [hcl], rfl⟩, ?_⟩, fun hno => ?_⟩
        · rw [hcl, C.K]; exact hx k hk.1
        · -- the suite runs
          have e1 : clauseOf k [cs] 0 = some 0 := by unfold clauseOf; rw [if_pos hy]
          rw [e1] at h
          have h : FinS w W ι g.length H (((evSs (c.su k fs) mss (ρ1.set i none) g1).nox).gone (some i)) D := h
          have hlen := hk.2
          simp only [List.all_cons, List.all_nil, Bool.and_true, decide_eq_true_eq] at hlen
          have re2 := re1.unset hxn i (some (.ref a))
          have re3 : RelE (w.ex ⟨a, k, dx, fs, i⟩) ι1 g1.length H1 (ρ1.set i none) (σ1.set i (some (.ref a))) := ⟨re2.1, re2.2, fun y hy _ => by
            cases hy
            exact List.getElem?_set_self (by rw [← re1.1]; exact hlen)⟩
          refine ⟨ι1, ρ1.set i none, g1, rl1.ex hex, re3, ?_⟩
          have h2 := FinS.from x1 h
          show FinS (w.ex ⟨a, k, dx, fs, i⟩) Wf ι1 g1.length H1 (evSs (c.su k fs) mss (ρ1.set i none) g1) _
          cases q2 : evSs (c.su k fs) mss (ρ1.set i none) g1 with
          | nx ρ3 g3 => rw [q2] at h2; exact fun ι3 H3 σ3 x3 r3 re3 => h2 ι3 H3 (List.set σ3 i none) x3 (r3.unex hxn) ((re3.unex hxn).unset hxn i none)
          | bk ρ3 g3 => rw [q2] at h2; exact fun ι3 H3 σ3 x3 r3 re3 => h2 ι3 H3 (List.set σ3 i none) x3 (r3.unex hxn) ((re3.unex hxn).unset hxn i none)
          | ct ρ3 g3 => rw [q2] at h2; exact fun ι3 H3 σ3 x3 r3 re3 => h2 ι3 H3 (List.set σ3 i none) x3 (r3.unex hxn) ((re3.unex hxn).unset hxn i none)
          | rt d g3 => rw [q2] at h2; exact fun ι3 H3 v x3 r3 rv => h2 ι3 H3 v x3 (r3.unex hxn) rv
          | exc k fs ρ3 g3 => rw [q2] at h2; exact False.elim h2
          | bad => rw [q2] at h2; exact False.elim h2
        · have e1 : clauseOf k [cs] 0 = none := by unfold clauseOf; rw [hno]; rfl
          rw [e1] at h
          exact h ι1 H1 dx σ1 x1 rl1 re1 hex
      · exact False.elim h

/-! ### the caught exception -/
/-- e.f -/
theorem s_efld {a : Addr} {oe : Obj} {pn : List (Addr × Obj)} {k i : Nat} {fs : List (Str × M3.D)} {dx : Addr} {nm f : Str} {p pos : Pos} {c' : Cfg} (C : COk Z (X.suite a ((a, oe) :: pn)) (w.ex ⟨a, k, dx, fs, i⟩) Wf c' true n dfs ok) (hcur : c'.cur = some (k, fs)) (hz : L2N.Zn (.ref (Z.cl k)) (some dx) oe) (hf : ∃ vs, oe.data = .fields vs)
    (T : XfC Z.K (Z.cl k)) (hno : PySem.W.findIn Z.K (.ref (Z.cl k)) f = some none) (hN : X.N[i]? = some nm := by rfl) (hv : Vis X.env.scope nm := by first | exact Or.inl rfl | exact Or.inr (Or.inl rfl)) (hd : (nm == ("__debug__" : Str)) = false := by decide) (hcd : (nm == ("__classdict__" : Str)) = false := by decide)
    (hb : attributeBase (.Name nm p) f X.env (eval (.Name nm p) X.env) = eval (.Name nm p) X.env := by rfl) : SE (X.suite a ((a, oe) :: pn)) (w.ex ⟨a, k, dx, fs, i⟩) Wf c' (.Attribute (.Name nm p) f pos) (.efld i f) := by
  have hK := C.K
  rw [← hK] at T hno
  refine PE.imp (pe_xf T hno hz.zc hf (pe_var (i := i) hN hv hd hcd) hb) fun σ H Q ⟨ι, ρ, g, rl, re, h⟩ => ?_
  unfold evE at h
  rw [hcur] at h
  split at h
  · rename_i q
    have e1 := re.3 _ rfl q
    dsimp only at h
    obtain ⟨fv, k1, k2, k3⟩ := rl.exn _ rfl
    cases q2 : fs.lookup f with
    | none => rw [q2] at h; exact False.elim h
    | some d =>
      rw [q2] at h
      obtain ⟨u, e2, e3⟩ := fld_rel k2 k3 q2
      exact ⟨_, e1, rfl, rfl, dx, fv, u, rfl, k1, e2, FinR.here h rl e3⟩
  · exact False.elim h
end
end M3
/-! L3Hot: for over a tuple within an except suite; isinstance of the caught exception -/
namespace M3
open PySem PySem.Spec PyProof.Rows
section
variable {prog : Program} {w : World} {A : Around} {E : Value → Shared → Prop} {s : Shared}
theorem tuple_end_hot {it t x1 : Addr} {i : Nat} {items : Array Value} {Q : Option Value → Shared → Prop} (hot : HotX.HotAt A x1 s.heap) (hne : x1 ≠ it)
    (hit : s.heap.IsTupleIter it t i) (ht : s.heap.IsTuple t items) (hx : items[i]? = none)
    (hQ : ∀ h', Heap.ExtBut it s.heap h' → Q none { s with heap := h' }) : wpAny (model prog w) A (pyNext (.ref it)) Q E s := by
  obtain ⟨o, ho, hc, hd⟩ := id hit
  obtain ⟨ol, hol, _, nl, hdl⟩ := ht
  obtain ⟨hh, o1, vs1, h1, d1, c1⟩ := hot
  unfold pyNext
  refine wpAny_bind (wpAny_attempt (wpAny_callSpecial?_slot (name := Str.ofString "__next__") hit.typeIs F.slot_tuple_iterator_next
    (wpAny_call_entry F.slot_tuple_iterator_next hit.typeIs F.entry_tuple_iterator_next ?_ (F.args_tuple_iterator_next_1 _))))
  show wpAny _ _ (field (.ref it) 0 >>= _) _ _ s
  refine wpAny_bind (wpAny_field ho hd (x := .ref t) rfl ?_)
  show wpAny _ _ (if (Value.ref t == Value.none) = true then _ else _) _ _ s
  rw [if_neg (show ¬ ((Value.ref t == Value.none) = true) from Bool.false_ne_true)]
  show wpAny _ _ (field (.ref it) 1 >>= _) _ _ s
  refine wpAny_bind (wpAny_field ho hd (x := .int i 0) rfl ?_)
  show wpAny _ _ (seqItems? (.ref t) >>= _) _ _ s
  refine wpAny_bind (wpAny_seqItems hol hdl ?_)
  simp only [Int.toNat_natCast, hx]
  refine wpAny_bind (wpAny_rule (wpAny_bind (wpAny_setField ho hd (by simp) ?_)))
  show wpAny _ _ (newExc (.type "StopIteration") [] >>= _) _ _ _
  refine wpAny_bind ?_
  simp only [newExc, newTuple]
  refine wpAny_bind (wpAny_newObj_type ?_ (by size_fits))
  refine wpAny_bind (m := firstArgMember _ _) (wpAny_of_eq (a := Value.none) (by first | rfl | (simp only [firstArgMember]; rfl)) ?_)
  refine wpAny_newObj_type ?_ (by size_fits)
  have hup : (s.heap.update it (Obj.mapFields (·.setIfInBounds 0 Value.none))).get? x1 = some o1 := by rw [Heap.get?_update_other _ _ hne.symm]; exact h1
  refine HotX.raiseNew_hot ⟨hh, o1, vs1, Heap.get?_push_of_some _ (Heap.get?_push_of_some _ hup), d1, c1⟩ (Nat.ne_of_lt (Heap.lt_size (Heap.get?_push_of_some _ hup))) (Heap.get?_push_size _ rfl) rfl (by first | (simp; done) | (simp; omega) | (simp only [Array.size_append]; simp; omega)) ?_
  refine wpAny_bind (wpAny_isInstance (T := "StopIteration") (b := true) ⟨_, Heap.get?_update_self _ (Heap.get?_push_size _ rfl) rfl, rfl⟩ isSubtype_stop ?_)
  refine wpAny_pure (hQ _ fun b o hb e => ?_)
  have e2 : (s.heap.update it (Obj.mapFields (·.setIfInBounds 0 Value.none))).get? b = some o := by rw [Heap.get?_update_other _ _ (Ne.symm hb)]; exact e
  rw [Heap.get?_update_other _ _ (Nat.ne_of_gt (Heap.lt_size (Heap.get?_push_of_some _ e2)))]
  exact Heap.get?_push_of_some _ (Heap.get?_push_of_some _ e2)
end
end M3
namespace M3
open PySem L2 PyProof.Rows
theorem turn_tupH {P : Program} {w : World} {K : PySem.W.Frag} {tg : Expr} (a it : Addr) : L2H.TurnH P w K tg (Itt K a) [it] it (fun i h => h.IsTupleIter it a i) where
  mem := by simp
  obj := fun i h st b hb => by
    have e : b = it := by simpa using hb
    subst e
    obtain ⟨o, e, c, d⟩ := st
    exact ⟨o, e, fun v z => by rw [d] at z; cases z⟩
  keep := fun i h h' st k => st.at fun o e => k it (by simp) o e
  item := by
    intro X hP hw hK hc i pins s σ H E I hf st hg
    subst hP hw hK
    obtain ⟨xs, x, hq, hx⟩ := hg
    obtain ⟨its, rv, p, hz⟩ := I.tuple hq
    obtain ⟨u, hu, ru⟩ := rv.get hx
    obtain ⟨f0, f1, f2, f3, f4, f5⟩ := hf it (by simp)
    refine wpAny_pyNext_tuple_item st (show s.heap.IsTuple a its.toArray from p) (x := u) (by simpa using hu) fun h' st' sb => ?_
    have I1 : L2.Inv X pins σ H { s with heap := h' } := I.turned (t' := s.toks) (fun b o hb e => (sb.2 b hb).trans e) f0 f1 f3 f4 f5
    obtain ⟨o, e, c, d⟩ := id st'
    exact ⟨u, rfl, go_of (s := { s with heap := h' }) e c d (by decide) ⟨x, H, I1, ru, ⟨rfl, fun ys hy => by rw [I.tuple_inj hy hq]; exact hx⟩, st', fun b hb => (hf b hb).1⟩⟩
  done := by
    intro X hP hw hK hc i pins s σ H E I hf st hg
    subst hP hw hK
    obtain ⟨xs, hq, hx⟩ := hg
    obtain ⟨its, rv, p, hz⟩ := I.tuple hq
    obtain ⟨f0, f1, f2, f3, f4, f5⟩ := hf it (by simp)
    have hl := rv.length
    obtain ⟨q, ⟨hh, v1, e1, c1⟩, hp⟩ := hc
    have P1 := (I.pin q (List.mem_append_left _ hp)).1
    exact tuple_end_hot ⟨hh, q.2, v1, P1, e1, c1⟩ (f5 q (List.mem_append_left _ hp)) st (show s.heap.IsTuple a its.toArray from p) (by simp; omega) fun h' eb => ⟨rfl, I.turned (t' := s.toks) (fun b o hb e => eb b o hb e) f0 f1 f3 f4 f5⟩
  self := fun _ _ _ _ _ st h => wpAny_pyIter_tupleiter st h
theorem pi_tupH {X : Cx} {tg l : Expr} {tl : TE} (hl : PE X l tl) : L2H.PIH X tg l (iTup X.K tl) := by
  refine ⟨fun pins s σ H R I h => ?_⟩
  refine thn (hl.run pins s σ H _ I h) fun v s1 ⟨x, H1, I1, r1, q1⟩ => ?_
  obtain ⟨a, e, ⟨xs, hq⟩, q⟩ := q1
  subst e
  cases r1
  obtain ⟨its, rv, p, hz⟩ := I1.tuple hq
  refine wpAny_pyIter_tuple (show s1.heap.IsTuple a its.toArray from p) ?_
  refine ⟨s1.heap.objs.size, [s1.heap.objs.size], _, _, H1, rfl, I1.kept (t' := s1.toks) fun b o e => Heap.get?_push_of_some _ e, turn_tupH a _, ⟨_, Heap.get?_push_size _ rfl, rfl, rfl⟩, fun b hb => ?_, q⟩
  have e : b = s1.heap.objs.size := by simpa using hb
  subst e
  exact I1.fpOk (Nat.le_refl _) (I1.hok.fresh (Nat.le_refl _))
section
variable {Z : Ws} {X : Cx} {w : Wd} {W : WX} {c : Cfg} {hot : Bool} {n : Nat} {dfs : Nat → Def} {ok : Nat → Prop} {ι : Iota} {H : Hp} {σ : L2.St} {ρ : Env} {g : G} {D : Ends}
/-- for over a tuple, within an except suite -/
theorem st_forH {tg l : Expr} {m : ME} {tgt : Tgt} {body : List Stmt} {mb : List MS} {pos : Pos} (C : COk Z X w W c true n dfs ok) (hl : SE X w W c l m) (hg : SG X w tg tgt) (hb : SSs X w W c body mb)
    (hs : ∀ x, foldedSetIterable l X.env x = pure x := by intro _; rfl) : SS X w W c (.For tg l body [] pos) (.for_ tgt .seq [m] mb) := by
  refine PS.imp (L2H.ps_forH C.po (C.hotc rfl) (pi_tupH hl) hg hb hs) fun D σ H ⟨ι, ρ, g, rl, re, h⟩ => ?_
  have hcal : c.calm = false := C.calm
  unfold evS at h
  rw [evEs_one] at h
  have h2 : FinS w W ι g.length H ((evE c m ρ g).thn ρ fun d g1 => match srcM .seq [d] g1 with
    | some (xs, wt) => if c.calm = true ∨ hotSrc [d] = true then forM (fun ρ' g' => evSs c mb ρ' g') tgt wt xs ρ g1 else .bad
    | none => .bad) D := by
    cases q : evE c m ρ g with
    | ok d g1 => rw [q] at h; exact h
    | exc k fs g1 => rw [q] at h; exact h
    | bad => rw [q] at h; exact h
  refine go_SE rl re h2 fun ι1 g1 d v H1 x1 rl1 re1 r1 h1 => ?_
  cases q : srcM .seq [d] g1 with
  | none => rw [q] at h1; exact False.elim h1
  | some p =>
    obtain ⟨xs, wt⟩ := p
    rw [q] at h1
    dsimp only at h1
    split at h1
    · rename_i hh
      have hh := hh.resolve_left (by rw [hcal]; decide)
      cases r1 with
      | tup k1 k2 =>
        cases q
        obtain ⟨a, e3, e4, k⟩ := wk_tup C.E.hK rl1 (.tup k1 k2)
        exact ⟨a, e3, e4, forM_ok rl1 re1 k h1⟩
      | _ => cases hh
    · exact False.elim h1
end
end M3
/-! L3Is: isinstance of a caught exception that has a dict of its own -/
namespace PySem.W
open PySem PySem.Spec PySem.Calls PyProof.Rows
section
variable {pr : Program} {wd : World} {Ar : Around} {Ex : Value → Shared → Prop} {st : Shared} {Kf : Frag} {xa Cd : Addr} {xo dd : Obj}
/-- e.__class__, e an exception of an own class whose instances have a dict -/
theorem m3_cls {Qo : Option Value → Shared → Prop} (T : L2.ExcC Kf Cd) (X : Kf.In st.heap) (J : InstAt st.heap xa xo Cd (some dd)) (q : Qo (some (.ref Cd)) { st with toks := st.toks + 1 }) : wpAny (model pr wd) Ar (getAttr? (.ref xa) "__class__") Qo Ex st := by
  have f0 : findObj Kf Cd (some dd) "__class__" = some (.bind (.builtin "getset_descriptor.__get__") (.builtin "object.__class__")) := findObj_data (by obtain ⟨z, hz, _⟩ := any_some T.hd; rw [hz]; rfl) T.ha T.hn T.ht
  obtain ⟨hp, gg, dr, tk, os⟩ := st
  have a0 := J.type (M := model pr wd)
  have a1 := looks_findIn (M := model pr wd) X T.hg
  have a2 := looks_findIn (M := model pr wd) X T.hk
  have a3 := looks_find (M := model pr wd) X J f0
  have isE : Looks (model pr wd) hp (isInstance (.ref xa) (.type "BaseException")) true := a0.andThen (looks_subIn X T.hs)
  have b2 : (Value.builtin "BaseException.__getattribute__" == Value.builtin "object.__getattribute__") = false := by decide +kernel
  have b1 : (onTheHeap (Value.ref Cd) && Value.builtin "BaseException.__getattribute__" == Value.builtin "object.__getattribute__") = false := by rw [b2]; rfl
  have b0 : (false && onTheHeap (Value.builtin "BaseException.__getattribute__")) = false := by rfl
  unfold getAttr? getAttrBy? getAttrBy
  refine wpAny_bind (wpAny_mkText (wpAny_bind (wpAny_attempt (wpAny_holding (wpAny_bind (a0.at (wpAny_bind (a1.at ?_))))))))
  show wpAny _ _ (if (onTheHeap (Value.ref Cd) && Value.builtin "BaseException.__getattribute__" == Value.builtin "object.__getattribute__") = true then _ else _) _ _ _
  rw [b1, if_neg Bool.false_ne_true]
  unfold getAttrByItsOwn hookBefore
  refine wpAny_bind ?_
  rw [if_pos (show onTheHeap (Value.ref Cd) = true from by rfl)]
  refine a2.at ?_
  refine wpAny_bind (wpAny_attempt (wpAny_holding ?_))
  unfold callGetattribute
  rw [b0, if_neg Bool.false_ne_true]
  unfold boundAndCalled
  rw [PySem.F.excAttr_ValueError.ga.bind (.ref xa)]
  refine wpAny_bind (wpAny_pure ?_)
  show wpAny _ _ (call (.builtin "BaseException.__getattribute__") [.ref xa, .str "__class__" tk]) _ _ _
  refine wpAny_call (codeAny_call_builtin PySem.F.excAttr_ValueError.ga.plain PySem.F.entry_bexc_ga ?_)
  refine @check_slot (model pr wd) _ _ ⟨hp, gg, dr, tk + 1, os⟩ "BaseException.__getattribute__" "BaseException" "__getattribute__" (.ref xa) [.str "__class__" tk] [] _ (by decide +kernel) (by decide +kernel) isE (PySem.F.args_bexc_ga (.ref xa) (.str "__class__" tk)) ?_
  unfold Builtin.«object.__getattribute__»
  refine wpAny_bind (wpAny_of_eq (a := ((Value.ref xa : Value), [Value.str "__class__" tk])) (by first | rfl | (simp only [slotArgs]; rfl)) ?_)
  refine wpAny_bind (wpAny_pure (wpAny_bind (a0.at (wpAny_bind (a3.at ?_)))))
  show wpAny _ _ (holding [Value.builtin "object.__class__"] (call (.builtin "getset_descriptor.__get__") [.builtin "object.__class__", .ref xa, .ref Cd]) >>= ret) _ _ _
  refine wpAny_bind (wpAny_holding (wpAny_call (class_get (s := ⟨hp, gg, dr, tk + 1, os⟩) (ox := xo) (od := some dd) X J T.hm ?_)))
  refine wpAny_pure ?_
  show wpAny _ _ (handedOut (.ref Cd)) _ _ _
  rw [handedOut_of (v := .ref Cd) rfl]
  first
    | exact wpAny_pure (wpAny_pure q)
    | exact wpAny_pure q
    | exact wpAny_pure (wpAny_bind (wpAny_pure (wpAny_pure q)))
theorem m3_kitx (T : L2.ExcC Kf Cd) : KitX Kf (.ref xa) (.ref Cd) (fun h => InstAt h xa xo Cd (some dd)) where
  ty := fun _ _ _ J => J.type
  it := fun _ _ X _ => by
    obtain ⟨z, hz, _⟩ := any_some T.hd
    unfold clsIn at hz
    split at hz
    · rename_i c1 d1 e1 s1 ho
      intro Ar Qb Eb sb k q
      unfold isType loadHead
      exact wpAny_bind (wpAny_loadPart (k _ _ (X _ _ ho)) (wpAny_pure q))
    · cases hz
  ne := fun h tp d1 its nn sl X htp => by
    obtain ⟨z, hz, _⟩ := any_some T.hd
    refine Bool.eq_false_iff.mpr fun q => ?_
    have e : Cd = tp := Value.ref.inj (beq_iff_eq.mp q)
    subst e
    unfold clsIn at hz
    split at hz
    · rename_i c2 d2 e2 s2 ho
      exact absurd ((X _ _ ho).symm.trans htp) (fun u => by cases u)
    · cases hz
  ca := fun X J k => m3_cls T X J k
end
end PySem.W
namespace M3
open PySem L2 PyProof.Rows
section
variable {Z : Ws} {X : Cx} {w : Wd} {W : WX} {hot : Bool} {n : Nat} {dfs : Nat → Def} {ok : Nat → Prop}
/-- isinstance(e, C), e the caught exception -/
theorem s_eis {a : Addr} {oe : Obj} {pn : List (Addr × Obj)} {k i : Nat} {fs : List (Str × M3.D)} {dx Ca : Addr} {nm x : Str} {p q r pos : Pos} {c' : Cfg} {cs : List Nat} (C : COk Z (X.suite a ((a, oe) :: pn)) (w.ex ⟨a, k, dx, fs, i⟩) Wf c' true n dfs ok) (hcur : c'.cur = some (k, fs)) (hz : L2N.Zn (.ref (Z.cl k)) (some dx) oe) (hf : ∃ vs, oe.data = .fields vs)
    (T : ExcC Z.K (Z.cl k)) (hk : PySem.W.kitOne Z.K (.ref (Z.cl k)) (.ref Ca) = some (cs.contains k)) (hm : Z.mg "isinstance" = none) (hmC : Z.mg x = some (.ref Ca)) (hN : X.N[i]? = some nm := by rfl) (hv : Vis X.env.scope nm := by first | exact Or.inl rfl | exact Or.inr (Or.inl rfl))
    (hd : (nm == ("__debug__" : Str)) = false := by decide) (hcd : (nm == ("__classdict__" : Str)) = false := by decide) (hg : Gl X "isinstance" := by rfl) (hgC : Gl X x := by rfl) (hdC : (x == ("__debug__" : Str)) = false := by decide) (hvb : bootBuiltins "isinstance" = some (.builtin "isinstance") := by decide +kernel) :
    SE (X.suite a ((a, oe) :: pn)) (w.ex ⟨a, k, dx, fs, i⟩) Wf c' (.Call (.Name "isinstance" p) [.Name nm q, .Name x r] [] pos) (.eis i cs) := by
  have hK := C.K
  have hmg := C.mg
  rw [← hK] at T hk
  rw [← hmg] at hm hmC
  have rule : CallR (X.suite a ((a, oe) :: pn)) (.builtin "isinstance") (fun xs H Q => xs = [.ref a, .ref Ca] ∧ (∃ ob, H dx = some (.xd ob)) ∧ Q (.bl (cs.contains k)) H) := by
    intro pins s σ H xs us Q I rv h
    obtain ⟨rfl, ⟨ob, hob⟩, q⟩ := h
    obtain ⟨u1, u2, rfl, r1, r2⟩ := Vals.two rv
    cases r1
    cases r2
    obtain ⟨hget, _⟩ := I.pin (a, oe) (List.mem_append.mpr (.inl List.mem_cons_self))
    obtain ⟨vs, hvs⟩ := hf
    have hx : ObjOk X.prog X.w H s.heap dx (.xd ob) := I.hok dx _ hob
    obtain ⟨mA, hns, hr⟩ := hx
    obtain ⟨od, ho, hl⟩ := lookIn_ns hns
    have J : PySem.W.InstAt s.heap a oe (Z.cl k) (some od) := ⟨hget, hz.1, by unfold PySem.W.notCls; rw [hvs] <;> rfl, by rw [hz.2.1]; exact ho⟩
    exact PySem.W.kia_one (PySem.W.m3_kitx T) I.kIn J hk (fun z => nomatch z) fun tk => ⟨.bl (cs.contains k), H, I.kept (t' := tk) fun _ _ z => z, rfl, q⟩
  refine PE.imp (pe_callB rule hg hm hvb (pa_cons (pe_var (i := i) hN hv hd hcd) (pa_cons (pe_glob (v := .ref Ca) hgC hmC rfl hdC) pa_nil))) fun σ H Q ⟨ι, ρ, g, rl, re, h⟩ => ?_
  unfold evE at h
  rw [hcur] at h
  split at h
  · rename_i q0
    have e1 := re.3 _ rfl q0
    obtain ⟨fv, k1, k2, k3⟩ := rl.exn _ rfl
    dsimp only at h
    exact ⟨_, e1, rfl, ⟨fv, k1⟩, FinR.here h rl (.bl _)⟩
  · exact False.elim h
end
end M3
/-! L3Fn: from the bodies to the promises, level by level -/
namespace M3
open PySem L2 PyProof.Rows
section
variable {K : KH} {ι : Iota} {n N : Nat} {H : Hp}
mutual
theorem RelD.shrink (hn : n ≤ N) : ∀ {d : D} {v : V}, RelD K ι N H d v → closedD n d = true → RelD K ι n H d v
  | _, _, .non, _ => .non
  | _, _, .bl b, _ => .bl b
  | _, _, .int i, _ => .int i
  | _, _, .str s, _ => .str s
  | _, _, .tup k hs, c => .tup k (RelDs.shrink hn hs (by simpa [closedD] using c))
  | _, _, .lst k hs, c => .lst (k.elim (fun y => .inl ⟨y.1, fun m hm => y.2.1 m (by omega), y.2.2⟩) .inr) (RelDs.shrink hn hs (by simpa [closedD] using c))
  | _, _, .dct k h hk hs, c => .dct k ⟨fun m hm => h.1 m (by omega), h.2⟩ hk (RelDs.shrink hn hs (by simpa [closedD] using c))
  | _, _, .ref m h, c => .ref m (by simpa [closedD] using c)
theorem RelDs.shrink (hn : n ≤ N) : ∀ {d : List D} {v : List V}, RelDs K ι N H d v → closedDs n d = true → RelDs K ι n H d v
  | _, _, .nil, _ => .nil
  | _, _, .cons r rs, c => by
    rw [closedDs, Bool.and_eq_true] at c
    exact .cons (RelD.shrink hn r c.1) (RelDs.shrink hn rs c.2)
end
mutual
theorem RelD.closed : ∀ {d : D} {v : V}, RelD K ι N H d v → closedD N d = true
  | _, _, .non => rfl
  | _, _, .bl b => rfl
  | _, _, .int i => rfl
  | _, _, .str s => rfl
  | _, _, .tup k hs => by simpa [closedD] using RelDs.closed hs
  | _, _, .lst k hs => by simpa [closedD] using RelDs.closed hs
  | _, _, .dct k h hk hs => by simpa [closedD] using RelDs.closed hs
  | _, _, .ref m h => by simpa [closedD] using h
theorem RelDs.closed : ∀ {d : List D} {v : List V}, RelDs K ι N H d v → closedDs N d = true
  | _, _, .nil => rfl
  | _, _, .cons r rs => by rw [closedDs, RelD.closed r, RelDs.closed rs]; rfl
end
end
section
variable {w : Wd} {W : WX} {ι ι' : Iota} {H H' : Hp} {g g1 : G}
theorem Rel.all_closed (r : Rel w ι g H) : g.all (closedC g.length) = true := by
  rw [List.all_eq_true]
  intro c hc
  obtain ⟨n, hn, e⟩ := List.getElem_of_mem hc
  have q := r.cell n c (by rw [List.getElem?_eq_getElem hn, e])
  cases c with
  | lst xs => obtain ⟨vs, _, h2⟩ := q; exact h2.closed
  | dct ks ds => obtain ⟨kvs, _, _, h3⟩ := q; exact h3.closed
  | ins k fs => obtain ⟨dx, fv, _, _, h3⟩ := q; exact h3.closed
theorem Rel.shrink (r : Rel w ι' g1 H') (hx : w.exn = none) {n : Nat} (hn : n ≤ g1.length) (hc : (g1.take n).all (closedC n) = true) : Rel w ι' (g1.take n) H' := by
  have hl : (g1.take n).length = n := by rw [List.length_take]; omega
  refine ⟨fun a b ha hb e => r.inj a b (by omega) (by omega) e, fun m c e => ?_, r.hid, fun y hy => by rw [hx] at hy; cases hy⟩
  rw [hl]
  have hm : m < n := by have := (List.getElem?_eq_some_iff.mp e).1; omega
  have e' : g1[m]? = some c := by rw [List.getElem?_take_of_lt hm] at e; exact e
  have cl : closedC n c = true := List.all_eq_true.mp hc c (List.mem_of_getElem? e)
  have q := r.cell m c e'
  cases c with
  | lst xs => obtain ⟨vs, h1, h2⟩ := q; exact ⟨vs, h1, h2.shrink hn cl⟩
  | dct ks ds => obtain ⟨kvs, h1, h2, h3⟩ := q; exact ⟨kvs, h1, h2, h3.shrink hn cl⟩
  | ins k fs => obtain ⟨dx, fv, h1, h2, h3⟩ := q; exact ⟨dx, fv, h1, h2, h3.shrink hn cl⟩
theorem fin_ok {F : Fn} {d : D} {v : V} {τ : L2.St} {Q : VK} (hx : w.exn = none) (r0 : Rel w ι g H) (h : FinE w W ι g.length H τ (fin F g d g1) Q) (x : Ext ι g.length H ι' g1.length H') (r : Rel w ι' g1 H') (rv : RelD w.K ι' g1.length H' d v) : Q v H' := by
  unfold fin at h
  split at h
  · split at h
    · rename_i hf hc
      have hle := x.le
      have hcl : (g1.take g.length).all (closedC g.length) = true := by
        rcases hc with e | e
        · rw [e]; exact r0.all_closed
        · exact e.1
      have r2 := r.shrink hx hle hcl
      have hl : (g1.take g.length).length = g.length := by rw [List.length_take]; omega
      have x2 : Ext ι g.length H ι' g.length H' := ⟨Nat.le_refl _, x.same, fun n h1 h2 => absurd h2 (by omega), x.keep, x.there⟩
      cases q : frzD g.length g1 d with
      | none => rw [q] at h; exact False.elim h
      | some d' =>
        rw [q] at h
        have h : FinE w W ι g.length H τ (.ok d' (g1.take g.length)) Q := h
        refine h ι' H' v (by rw [hl]; exact x2) r2 ?_
        show RelD w.K ι' (g1.take g.length).length H' d' v
        rw [hl]
        cases rv with
        | ref m hm =>
          have q : (if m < g.length then some (D.ref m) else match g1[m]? with
            | some (.lst xs) => if closedDs g.length xs then some (.lst xs) else none
            | some (.dct ks ds) => if closedDs g.length ds then some (.dct ks ds) else none
            | _ => none) = some d' := q
          by_cases hmg : m < g.length
          · rw [if_pos hmg] at q
            cases q
            exact .ref m hmg
          · rw [if_neg hmg] at q
            have nh : ι' m ∉ w.K.hid := fun z => r0.hid _ z (x.new m (by omega) hm)
            have ni : ∀ k, k < g.length → ι' k ≠ ι' m := fun k hk z => by
              have := r.inj k m (by omega) hm z
              omega
            split at q
            · rename_i xs e
              split at q
              · rename_i hxs
                cases q
                obtain ⟨vs, h1, h2⟩ := r.cell m _ e
                exact .lst (.inl ⟨.inl h1, ni, nh⟩) (h2.shrink hle hxs)
              · cases q
            · rename_i ks ds e
              split at q
              · rename_i hxs
                cases q
                obtain ⟨kvs, h1, h2, h3⟩ := r.cell m _ e
                exact .dct h1 ⟨ni, nh⟩ h2 (h3.shrink hle hxs)
              · cases q
            · cases q
        | non => cases q; exact .non
        | bl b => cases q; exact .bl b
        | int b => cases q; exact .int b
        | str b => cases q; exact .str b
        | @tup a vs xs k1 k2 =>
          have q : (if closedD g.length (.tup xs) then some (D.tup xs) else none) = some d' := q
          split at q
          · rename_i e
            cases q
            exact RelD.shrink hle (.tup k1 k2) e
          · cases q
        | @lst a vs xs k1 k3 =>
          have q : (if closedD g.length (.lst xs) then some (D.lst xs) else none) = some d' := q
          split at q
          · rename_i e
            cases q
            exact RelD.shrink hle (.lst k1 k3) e
          · cases q
        | @dct a kvs ks ds k1 k2 k3 k4 =>
          have q : (if closedD g.length (.dct ks ds) then some (D.dct ks ds) else none) = some d' := q
          split at q
          · rename_i e
            cases q
            exact RelD.shrink hle (.dct k1 k2 k3 k4) e
          · cases q
    · exact False.elim h
  · exact h ι' H' v x r rv
end
/-- the configuration of a def's body -/
noncomputable abbrev Ws.cfg (Z : Ws) (hot : Bool) (n : Nat) : Cfg := { call := callM Z.tab Z.L (!hot) n, hcall := callM Z.tab Z.L false n, calm := !hot, loop := Z.L, cur := none }
theorem lev0 (Z : Ws) (hot : Bool) (dfs : Nat → Def) (ok : Nat → Prop) : Lev Z hot dfs ok 0 := fun f hf =>
  ⟨fun vs H Q E ⟨hid, ι, g, ds, rl, rs, h⟩ => by unfold callM at h; exact False.elim h, fun A outer s H args us vs Q E hr hh e0 hb rv ⟨hid, ι, g, ds, rl, rs, h⟩ => by unfold callM at h; exact False.elim h⟩
theorem fn_lev {Z : Ws} {hot : Bool} {dfs : Nat → Def} {ok : Nat → Prop} {n f : Nat} {fa : Addr} {name qual : Str} {params : Arguments} {body : List Stmt} {scope : Scope} {dV kV doc pm cdv ct oc : Value} {an od : Option Addr} {osl : Array (Option Value)} {N ps : List Str} {F : Fn}
    (lk : Z.K.lookup fa = some ⟨oc, od, .func (PySem.W.fnOf name qual params body scope dV kV doc pm an cdv ct), osl⟩) (hcd : PySem.W.codeIn Z.K cdv qual = true) (S : FnScope N ps scope) (hF : Z.tab f = some F) (hps : F.ps = ps.length) (hsl : F.slots = N.length)
    (lev : Lev Z hot dfs ok n) (levH : Lev Z true dfs Z.okH n)
    (hb : ∀ (hid : List Addr) (A : Around) (outer : List PySem.Env) (s : Shared) (H : Hp) (E : XK) (pn : List (Addr × Obj)),
      COk Z (cxG hot pn Z.P Z.wd Z.K Z.mg Z.base N qual scope fa cdv A outer s H E) (Z.w hid) (fun cls d _ H => E cls d H) (Z.cfg hot n) hot n dfs ok →
      SSs (cxG hot pn Z.P Z.wd Z.K Z.mg Z.base N qual scope fa cdv A outer s H E) (Z.w hid) (fun cls d _ H => E cls d H) (Z.cfg hot n) body F.body) :
    FnG hot Z.P Z.wd Z.K Z.mg Z.base (2 * (n + 1) + 2) fa (PySem.W.fnOf name qual params body scope dV kV doc pm an cdv ct) ps (spM Z hot (n + 1) f) := by
  have shape : ∀ {vs : List V} {H : Hp} {Q : VK} {E : XK}, spM Z hot (n + 1) f vs H Q E → ∃ hid ι g ds, Rel (Z.w hid) ι g H ∧ RelDs (Z.w hid).K ι (List.length g) H ds vs ∧ ds.length = ps.length ∧
      FinR (rD (Z.w hid)) (Z.w hid) (fun cls d _ H => E cls d H) ι g.length H [] (match evSs (Z.cfg hot n) F.body (ds.map some ++ List.replicate (N.length - ds.length) none) g with
        | .nx _ g1 => fin F g .non g1 | .rt d g1 => fin F g d g1 | .exc c fs _ g1 => .exc c fs g1 | _ => .bad) Q := by
    intro vs H Q E ⟨hid, ι, g, ds, rl, rs, h⟩
    unfold callM at h
    rw [hF] at h
    dsimp only at h
    split at h
    · rename_i hl
      rw [hsl] at h
      exact ⟨hid, ι, g, ds, rl, rs, by rw [hl, hps], h⟩
    · exact False.elim h
  refine fn_ofG hot (k := 2 * n + 3) lk hcd S (fun vs H Q E h => ?_) (fun A outer s H vs Q E pn hr hp h => ?_) (fun A env z => z)
  · obtain ⟨hid, ι, g, ds, rl, rs, hl, _⟩ := shape h
    rw [← rs.length, hl]
  · obtain ⟨hid, ι, g, ds, rl, rs, hl, hq⟩ := shape h
    have hC : COk Z (cxG hot pn Z.P Z.wd Z.K Z.mg Z.base N qual scope fa cdv A outer s H E) (Z.w hid) (fun cls d _ H => E cls d H) (Z.cfg hot n) hot n dfs ok :=
      ⟨⟨rfl, by have := hr.un; show (A.deeper (envOfC qual scope s.heap.objs.size fa cdv)).units + 100 < cLine; omega, hr.gd, rfl⟩, rfl, rfl, rfl, rfl, rfl, rfl, rfl, rfl, hr, hp, L2N.takes_of rfl rfl rfl rfl, lev, levH, rfl, fun _ => rfl, S.nd, passes_of rfl⟩
    refine ⟨_, hb hid A outer s H E pn hC, ι, ds.map some ++ List.replicate (N.length - ds.length) none, g, rl, ⟨?_, fun i d e => ?_, fun y hy => by cases hy⟩, ?_⟩
    · unfold L2.start
      rw [List.length_append, List.length_append, List.length_map, List.length_map, List.length_replicate, List.length_replicate, rs.length]
    · unfold L2.start
      have hi : i < ds.length := by
        by_cases hi : i < ds.length
        · exact hi
        · rw [List.getElem?_append_right (by simpa using hi), List.getElem?_replicate] at e
          split at e <;> cases e
      rw [List.getElem?_append_left (by simpa using hi), List.getElem?_map] at e
      obtain ⟨d', e1, e2⟩ := Option.map_eq_some_iff.mp e
      cases e2
      obtain ⟨v, k1, k2⟩ := rs.get e1
      exact ⟨v, by rw [List.getElem?_append_left (by rw [List.length_map, ← rs.length]; exact hi), List.getElem?_map, k1]; rfl, k2⟩
    · cases q : evSs (Z.cfg hot n) F.body (ds.map some ++ List.replicate (N.length - ds.length) none) g with
      | nx ρ g1 => rw [q] at hq; exact fun ι' H' σ' x r _ => fin_ok rfl rl hq x r .non
      | rt d g1 => rw [q] at hq; exact fun ι' H' v x r rv => fin_ok rfl rl hq x r rv
      | exc k fs ρ g1 => rw [q] at hq; exact fun ι' H' dx σ' x r _ hex => hq ι' H' dx x r hex
      | bk ρ g1 => rw [q] at hq; exact False.elim hq
      | ct ρ g1 => rw [q] at hq; exact False.elim hq
      | bad => rw [q] at hq; exact False.elim hq
end M3
namespace M3
theorem un64 {X : L2.Cx} {w : Wd} {c : Cfg} (E : EOk X w c) : X.A.units + 64 < PySem.cLine := by have := E.un; omega
theorem un80 {X : L2.Cx} {w : Wd} {c : Cfg} (E : EOk X w c) : X.A.units + 80 < PySem.cLine := by have := E.un; omega
end M3
/-! L3Top: defs as the top leaves them, how calls bind, exceptions' __init__, the law's end -/
namespace M3
open PySem L2 PyProof.Rows
/-- a def as the top leaves it -/
structure FunG (K : PySem.W.Frag) (name qual : Str) (st : Stmt) (f : Addr) (fd : FuncData) : Prop where
  ex : ∃ (oc : Value) (od : Option Addr) (kV doc pm : Value) (an : Option Addr) (cdv ct : Value) (osl : Array (Option Value)),
    fd = PySem.W.fnOf name qual (defArgs st) (defBody st) (defScope st) .none kV doc pm an cdv ct ∧ K.lookup f = some ⟨oc, od, .func fd, osl⟩ ∧ PySem.W.codeIn K cdv qual = true
theorem fung {K : PySem.W.Frag} {name qual : Str} {st : Stmt} {f : Addr} {oc : Value} {od : Option Addr} {kV doc pm : Value} {an : Option Addr} {cdv ct : Value} {osl : Array (Option Value)}
    (lk : K.lookup f = some ⟨oc, od, .func (PySem.W.fnOf name qual (defArgs st) (defBody st) (defScope st) .none kV doc pm an cdv ct), osl⟩) (hc : PySem.W.codeIn K cdv qual = true) :
    FunG K name qual st f (PySem.W.fnOf name qual (defArgs st) (defBody st) (defScope st) .none kV doc pm an cdv ct) := ⟨oc, od, kV, doc, pm, an, cdv, ct, osl, rfl, lk, hc⟩
theorem kb_plain {K : PySem.W.Frag} {name qual : Str} {st : Stmt} {f : Addr} {fd : FuncData} {ps ks : List Str} {na nk : Nat} {sel : List (Nat ⊕ D)} (F : FunG K name qual st f fd)
    (h : ∀ (kV doc pm : Value) (an : Option Addr) (cdv ct : Value) (us ws : List Value), us.length = na → ws.length = nk → ∃ us', bindArgs (PySem.W.fnOf name qual (defArgs st) (defBody st) (defScope st) .none kV doc pm an cdv ct) ⟨us, ks.zip ws⟩ = pure (ps.zip us') ∧ SelU (us ++ ws) sel us') :
    KB K fd ps ks na nk sel := by
  obtain ⟨oc, od, kV, doc, pm, an, cdv, ct, osl, rfl, lk, hc⟩ := F.ex
  intro s us ws X h1 h2
  obtain ⟨us', e1, e2⟩ := h kV doc pm an cdv ct us ws h1 h2
  exact ⟨us', .of_eq e1, e2⟩
/-- with one keyword-only parameter left out, its default None -/
theorem kb_kwN {K : PySem.W.Frag} {name qual m : Str} {st : Stmt} {Dk : Addr} {fd : FuncData} {ps ks : List Str} {na nk : Nat} {sel : List (Nat ⊕ D)} {doc pm : Value} {an : Option Addr} {cdv ct : Value}
    (e : fd = PySem.W.fnOf name qual (defArgs st) (defBody st) (defScope st) .none (.ref Dk) doc pm an cdv ct) (hn : PySem.W.nsIn K Dk m = some (some .none))
    (h : ∀ (us ws : List Value), us.length = na → ws.length = nk → ∃ us', KwChain Dk [(m, .none)] (bindArgs (PySem.W.fnOf name qual (defArgs st) (defBody st) (defScope st) .none (.ref Dk) doc pm an cdv ct) ⟨us, ks.zip ws⟩) (ps.zip us') ∧ SelU (us ++ ws) sel us') :
    KB K fd ps ks na nk sel := by
  subst e
  intro s us ws X h1 h2
  obtain ⟨us', e1, e2⟩ := h us ws h1 h2
  exact ⟨us', BindsTo.of_looks fun M => KwChain.looks X (fun q hq => by
    have e : q = (m, .none) := by simpa using hq
    subst e
    exact hn) e1, e2⟩
/-- __init__ of an own exception: self.f = f -/
theorem xc_init {P : Program} {wd : World} {K : PySem.W.Frag} {mg : Str → Option Value} {base : Heap} {qual f : Str} {st : Stmt} {C fI : Addr} {fd : FuncData} {p1 p2 p3 p4 : Pos} (F : FunG K "__init__" qual st fI fd) (T : OexC K C) (hno : PySem.W.findIn K (.ref C) f = some none)
    (S : FnScope ["self", f] ["self", f] (defScope st)) (hb : defBody st = [.Assign [.Attribute (.Name "self" p1) f p2] (.Name f p3) p4]) (hv0 : Vis (defScope st) "self") (hv1 : Vis (defScope st) f) (hd : (f == ("__debug__" : Str)) = false) (hcd : (f == ("__classdict__" : Str)) = false)  :
    FnOk P wd K mg base (L2N.CX P wd) 1 fI fd ["self", f] (sp1 C f) := by
  obtain ⟨oc, od, kV, doc, pm, an, cdv, ct, osl, rfl, lk, hc⟩ := F.ex
  refine fn_of lk hc S (fun vs H Q E h => ?_) (fun A outer s H vs Q E hr h => ?_)
  · obtain ⟨a, y, rfl, _⟩ := h
    rfl
  · obtain ⟨a, y, rfl, ha, k⟩ := h
    rw [hb]
    refine ⟨_, pss_one (ps_ost (pe_var (i := 0) rfl hv0 (by decide) (by decide)) (pe_var (i := 1) rfl hv1 hd hcd)), ?_⟩
    exact ⟨y, rfl, .ref a, rfl, a, C, rfl, T, hno, .inl ⟨ha, fun dx hdx hne => k dx hdx hne⟩⟩
end M3
namespace M3
open PySem PySem.Spec L2 PyProof.Rows
/-- the law's call, out of FnG: the top's heap is the ground -/
theorem law_callG {P : Program} {w : World} {K : PySem.W.Frag} {mg mb : Str → Option Value} {k : Nat} {fa a : Addr} {fd : FuncData} {x : Str} {sp : Sp} {s1 : Shared} {vs : List Value} {ns : List Int}
    (KX : K.In s1.heap) (hns : s1.heap.Ns mainGlobals mg) (hb : s1.heap.Ns builtinsNs mb) (hbb : ∀ x : Str, x ≠ "__name__" → mb x = bootBuiltins x) (hlim : s1.heap.NoLimit) (hg : s1.gens = #[])
    (ha : s1.heap.get? a = some { cls := .type "list", data := .seq vs.toArray }) (hi : IntsAre vs ns) (hl : ns.length ≤ sizeLine) (hr : RoomG false k callerA)
    (F : ∀ base : Heap, K.In base → base.Ns mainGlobals mg → FnG false P w K mg base k fa fd [x] sp) (hbind : ∀ (s : Shared) (u : Value), BindsTo s fd ⟨[u], []⟩ [(x, u)])
    (hsp : ∀ H : Hp, Only H → RdK K H a (ns.map V.int) → (∀ o, H a ≠ some (.lst o)) → sp [.ref a] H (fun v _ => v = .bl true) fun _ _ _ => False) :
    codeAny (model P w) callerA (.call (.ref fa) ⟨[.ref a], []⟩) (fun r s' => r = .ok (.ret (.bool true)) ∧ OldK s1.heap s'.heap ∧ s'.os = s1.os ∧ AllBare s'.gens) s1 := by
  have rv := vals_ints hi
  have lenV := hi.length
  have core : ∀ H : Hp, Only H → RdK K H a (ns.map V.int) → HOk P w H s1.heap → (∀ b, H b ≠ none → b = a) → (H a ≠ none → K.lookup a = none) →
      codeAny (model P w) callerA (.call (.ref fa) ⟨[.ref a], []⟩) (fun r s' => r = .ok (.ret (.bool true)) ∧ OldK s1.heap s'.heap ∧ s'.os = s1.os ∧ AllBare s'.gens) s1 := by
    intro H hO hS hok hA hK
    have keepB : ∀ {b : Addr} {o : Obj}, s1.heap.get? b = some o → H b = none → (hidT s1.heap H).get? b = some o := fun e m => hidT_get e m
    have dictN : ∀ {b : Addr} {o : Obj} {es : Array DictEntry} {ep : Nat}, s1.heap.get? b = some o → o.data = .dict es ep → H b = none := fun {b o es ep} e d => by
      cases q : H b with
      | none => rfl
      | some u =>
        obtain rfl : b = a := hA b (by rw [q]; simp)
        rw [ha] at e
        cases e
        exact absurd (show Data.seq vs.toArray _ = Data.dict es ep from d) (fun z => by cases z)
    have nsB : ∀ {b : Addr} {m : Str → Option Value}, s1.heap.Ns b m → (hidT s1.heap H).Ns b m := fun {b m} ⟨o, es, ep, e, d, r⟩ => ⟨o, es, ep, keepB e (dictN e d), d, r⟩
    have inB : K.In (hidT s1.heap H) := fun b o e => keepB (KX b o e) (by
      cases q : H b with
      | none => rfl
      | some u =>
        obtain rfl : b = a := hA b (by rw [q]; simp)
        rw [hK (by rw [q]; simp)] at e
        cases e)
    have M0 : Mod K mg (hidT s1.heap H) := ⟨inB, nsB hns, ⟨mb, nsB hb, hbb⟩, let ⟨mc, h1, h2⟩ := hlim; ⟨mc, nsB h1, h2⟩⟩
    have E0 : Env0 P w K mg (hidT s1.heap H) callerA [] s1 H := ⟨rfl, M0, fun b o e => of_hidT e, Nat.le_of_eq (hidT_size _ _), trivial, fun b z => absurd (show b ∈ ([] : List Addr) from z) (by simp), hok, .of_eq hg⟩
    have noL : ∀ o, H a ≠ some (.lst o) := fun o z => by
      rcases hO a with e | ⟨ob, xs, e⟩
      · rw [e] at z; cases z
      · rw [e] at z; cases z
    refine codeAny_mono ((F _ inB (nsB hns)).run callerA [] s1 H ⟨[.ref a], []⟩ [.ref a] [.ref a] _ _ hr (fun z => by cases z) E0 (hbind s1 (.ref a)) (.cons rfl .nil) (hsp H hO hS noL)) fun r s' h => ?_
    cases r with
    | error e =>
      obtain ⟨_, _, _, _, _, _, _, _, _, _, _, _, z⟩ := h
      exact z.elim
    | ok fl =>
      cases fl with
      | next => exact False.elim h
      | brk => exact False.elim h
      | cont => exact False.elim h
      | ret u =>
        obtain ⟨v, H', os, bare, un, hok', rr, q⟩ := h
        have q' : v = .bl true := q
        subst q'
        obtain rfl : u = Value.bool true := rr
        refine ⟨rfl, OldK.of_keep fun b o e => ?_, os, bare⟩
        cases q : H b with
        | none => exact un.keep b o e q (by intro z; cases z) (by simp)
        | some u =>
          rcases hO b with z | ⟨ob, xs, z⟩
          · rw [q] at z; cases z
          · have z2 := un.frzs b ob _ z
            obtain ⟨y1, _⟩ := hok b _ z
            obtain ⟨y2, _⟩ := hok' b _ z2
            rw [e] at y1; cases y1
            exact y2
  cases hk : K.lookup a with
  | some o =>
    have e := KX a o hk
    rw [ha] at e
    cases e
    exact core (fun _ => none) (fun _ => .inl rfl) (.inr ⟨vs.toArray, _, hk, by rw [List.size_toArray, lenV]; exact hl, by simpa using rv⟩) (fun b u z => by have z' : (none : Option HO) = some u := z; cases z') (fun b z => absurd rfl z) fun z => absurd rfl z
  | none =>
    refine core (fun b => if b = a then some (.frz { cls := .type "list", data := .seq vs.toArray } (.lst (ns.map V.int))) else none) (fun b => ?_) (.inl (.inr ⟨{ cls := .type "list", data := .seq vs.toArray }, if_pos rfl⟩)) (fun b u z => ?_) (fun b z => ?_) fun _ => hk
    · by_cases hba : b = a
      · exact .inr ⟨_, _, if_pos hba⟩
      · exact .inl (if_neg hba)
    · by_cases hba : b = a
      · have z' := (if_pos hba).symm.trans z
        cases z'
        subst hba
        exact ⟨ha, by rw [List.length_map]; exact hl, vs, _, rv, ha⟩
      · have z' := (if_neg hba).symm.trans z
        cases z'
    · by_cases hba : b = a
      · exact hba
      · exact absurd (if_neg hba) z
/-- the goal of k_head's case hc -/
theorem walk_ofG {l : PySem.W.OpenLaw} {n k : Nat} {q : Program} {loose : List Str} {XP : (Str → Option Value) → Heap → Prop} {YP : World → Heap → Prop} {d : DefRec} {K : Params → PySem.W.Frag} {x : Str}
    (hn : l.most = some n) (hn2 : n ≤ sizeLine) (hdf : d.params.defaults = []) (hr : RoomG false k callerA)
    (hY : ∀ (w : World) (h : Heap), YP w h → (K w.params).In h)
    (F : ∀ (w : World) (mg : Str → Option Value) (fa : Addr) (h : Heap), (K w.params).In h → h.Ns mainGlobals mg → mg d.name = some (.ref fa) →
      ∃ (fd : FuncData) (sp : Sp), (∀ (s : Shared) (u : Value), BindsTo s fd ⟨[u], []⟩ [(x, u)]) ∧
        (∀ base : Heap, (K w.params).In base → base.Ns mainGlobals mg → FnG false l.prog w (K w.params) mg base k fa fd [x] sp) ∧
        ∀ (H : Hp) (a : Addr) (ns : List Int), ns.length ≤ n → Only H → RdK (K w.params) H a (ns.map V.int) → (∀ o, H a ≠ some (.lst o)) → sp [.ref a] H (fun v _ => v = .bl true) fun _ _ _ => False) :
    PySem.W.WalkO q loose XP YP l.row.toRowW d [] (fun f vs => PySem.call f vs) := by
  refine Att.attach_call hn hdf fun w s0 s1 mg mb fa o pm cd doc a vs ns G Y ho hd hcd hmg hobj hints hlen hg => ?_
  have KX := hY w _ Y
  obtain ⟨fd, sp, hb, hF, hs⟩ := F w mg fa _ KX G.T.g hmg
  exact law_callG KX G.T.g G.T.b G.T.builtins G.T.nolimit hg hobj hints (Nat.le_trans hlen hn2) hr hF hb fun H hO hS hN => hs H a ns hlen hO hS hN
/-- the promise of the law's def, from what the interpreter tells -/
theorem sp_law {Z : Ws} {n f : Nat} {H : Hp} {a : Addr} {ns : List Int} {g' : G} (h : callM Z.tab Z.L true n f [.lst (ns.map D.int)] [] = .ok (.bl true) g') (hS : RdK Z.K H a (ns.map V.int)) :
    spM Z false n f [.ref a] H (fun v _ => v = .bl true) fun _ _ _ => False := by
  have r0 : Rel (Z.w []) (fun _ => 0) [] H := by
    refine ⟨fun m n hm => ?_, fun n c e => ?_, fun b hb => ?_, fun x hx => ?_⟩
    · cases hm
    · cases e
    · cases hb
    · cases hx
  have l0 : LstAt (Z.w []).K (fun _ => 0) 0 H a (ns.map V.int) := by
    rcases hS with z | z
    · refine .inl ⟨z, fun m hm => ?_, fun hb => ?_⟩
      · cases hm
      · cases hb
    · exact .inr z
  refine ⟨[], fun _ => 0, [], [.lst (ns.map D.int)], r0, .cons (.lst l0 ?_) .nil, ?_⟩
  · have all : ∀ l : List Int, RelDs (Z.w []).K (fun _ => 0) ([] : G).length H (l.map D.int) (l.map V.int) := fun l => by
      induction l with
      | nil => exact .nil
      | cons x l ih => exact .cons (.int x) ih
    exact all ns
  · show FinR _ _ _ _ _ _ _ (callM Z.tab Z.L true n f [.lst (ns.map D.int)] []) _
    rw [h]
    intro ι' H' v x r rv
    cases rv
    rfl
end M3
namespace PySem.W
/-- an own exception class, what follows it in its order told -/
def IsExc (K : Frag) (C : Addr) (bm : List Value) : Prop := ∃ nm q N bs sn sub ab col dd k0 k1 k2 k3 k5, K.lookup C = some (excClassObj nm q C N bs bm true sn sub ab col dd k0 k1 k2 k3 k5 "ValueError.__new__")
end PySem.W
/-! L3Plain: the interpreter's equations, one step each, for simp; loops; cells -/
namespace M3.EvM
open PySem L2

/-! ### steps that look at their first part alone -/
def br {α : Type} (o : Option Bool) (t f : R α) : R α := match o with | some true => t | some false => f | none => .bad
theorem br_t {α : Type} (t f : R α) : br (some true) t f = t := rfl
theorem br_f {α : Type} (t f : R α) : br (some false) t f = f := rfl
noncomputable def iteS (c : Cfg) (a b : List MS) (ρ : Env) (g : G) (o : Option Bool) : S := match o with | some true => evSs c a ρ g | some false => evSs c b ρ g | none => .bad
theorem iteS_t {c a b ρ g} : iteS c a b ρ g (some true) = evSs c a ρ g := rfl
theorem iteS_f {c a b ρ g} : iteS c a b ρ g (some false) = evSs c b ρ g := rfl
noncomputable def iteK (c : Cfg) (a b : List MS) (ρ : Env) (d : D) (g : G) : S := iteS c a b ρ g (truM g d)
theorem iteK_eq {c a b ρ d g} : iteK c a b ρ d g = iteS c a b ρ g (truM g d) := rfl
theorem br_and {b : Bool} {x : Bool} {g : G} : br (some b) (R.ok (D.bl x) g) (.ok (.bl b) g) = .ok (.bl (b && x)) g := by cases b <;> rfl
theorem br_or {b : Bool} {x : Bool} {g : G} : br (some b) (R.ok (D.bl b) g) (.ok (.bl x) g) = .ok (.bl (b || x)) g := by cases b <;> rfl
open Classical in
noncomputable def grd {α : Type} (p : Prop) (r : R α) : R α := if p then r else .bad
theorem grd_T {α : Type} (r : R α) : grd True r = r := by simp [grd]
theorem grd_of {α : Type} {p : Prop} (h : p) (r : R α) : grd p r = r := by simp [grd, h]
open Classical in
noncomputable def grdS (p : Prop) (r : S) : S := if p then r else .bad
theorem grdS_T (r : S) : grdS True r = r := by simp [grdS]
theorem grdS_of {p : Prop} (h : p) (r : S) : grdS p r = r := by simp [grdS, h]
theorem grd_if {α : Type} {p : Prop} [Decidable p] {r : R α} : (if p then r else .bad) = grd p r := by
  unfold grd; by_cases h : p <;> simp [h]
theorem grdS_if {p : Prop} [Decidable p] {r : S} : (if p then r else .bad) = grdS p r := by
  unfold grdS; by_cases h : p <;> simp [h]
def got {α β : Type} (o : Option α) (f : α → R β) : R β := match o with | some a => f a | none => .bad
theorem got_some {α β : Type} (a : α) (f : α → R β) : got (some a) f = f a := rfl
def gotS {α : Type} (o : Option α) (f : α → S) : S := match o with | some a => f a | none => .bad
theorem gotS_some {α : Type} (a : α) (f : α → S) : gotS (some a) f = f a := rfl
def getV (o : Option (Option D)) (g : G) : R D := match o with | some (some d) => .ok d g | _ => .bad
theorem getV_some (d : D) (g : G) : getV (some (some d)) g = .ok d g := rfl
def objOf (g : G) (x : D) : Option (Nat × Nat × List (Str × D)) := match x with
  | .ref n => match g[n]? with | some (.ins k fs) => some (n, k, fs) | _ => none
  | _ => none
theorem objOf_ref {g : G} {n k : Nat} {fs : List (Str × D)} (h : g[n]? = some (.ins k fs)) : objOf g (.ref n) = some (n, k, fs) := by simp [objOf, h]
def intOf : D → Option Int
  | .int i => some i
  | _ => none
theorem intOf_int (i : Int) : intOf (.int i) = some i := rfl
def strOf : D → Option Str
  | .str i => some i
  | _ => none
theorem strOf_str (i : Str) : strOf (.str i) = some i := rfl

/-! ### contexts -/
noncomputable def cf (tab : Nat → Option Fn) (L : Nat) (calm : Bool) (n : Nat) : Cfg := { call := callM tab L calm n, hcall := callM tab L false n, calm := calm, loop := L, cur := none }
noncomputable def hf (tab : Nat → Option Fn) (L : Nat) (n : Nat) (k : Nat) (fs : List (Str × D)) : Cfg := { call := callM tab L false n, hcall := callM tab L false n, calm := false, loop := L, cur := some (k, fs) }
section
variable {tab : Nat → Option Fn} {L n : Nat} {calm : Bool} {ρ : Env} {g : G}
theorem cf_call : (cf tab L calm n).call = callM tab L calm n := rfl
theorem cf_calm : (cf tab L calm n).calm = calm := rfl
theorem cf_loop : (cf tab L calm n).loop = L := rfl
theorem hf_call {k fs} : (hf tab L n k fs).call = callM tab L false n := rfl
theorem hf_calm {k fs} : (hf tab L n k fs).calm = false := rfl
theorem hf_loop {k fs} : (hf tab L n k fs).loop = L := rfl
theorem hf_cur {k fs} : (hf tab L n k fs).cur = some (k, fs) := rfl

/-- a call's end -/
noncomputable def finZ (z : Bool) (g : G) (d : D) (g1 : G) : R D := fin ⟨0, 0, [], z⟩ g d g1
noncomputable def out (z : Bool) (g : G) (s : S) : R D := match s with
  | .nx _ g1 => finZ z g .non g1
  | .rt d g1 => finZ z g d g1
  | .exc c fs _ g1 => .exc c fs g1
  | _ => .bad
theorem out_nx {z : Bool} {ρ1 g1} : out z g (.nx ρ1 g1) = finZ z g .non g1 := rfl
theorem out_rt {z : Bool} {d g1} : out z g (.rt d g1) = finZ z g d g1 := rfl
theorem out_exc {z : Bool} {c fs ρ1 g1} : out z g (.exc c fs ρ1 g1) = .exc c fs g1 := rfl
theorem call_eq {f : Nat} {ds : List D} {ps sl : Nat} {b : List MS} {z : Bool} (h : tab f = some ⟨ps, sl, b, z⟩) (hl : ds.length = ps) :
    callM tab L calm (n + 1) f ds g = out z g (evSs (cf tab L calm n) b (ds.map some ++ List.replicate (sl - ps) none) g) := by
  unfold callM
  rw [h]
  simp only [hl, if_true]
  rfl
theorem call_at {f : Nat} {ds : List D} {ps sl : Nat} {b : List MS} {z : Bool} {ρ0 : Env} (h : tab f = some ⟨ps, sl, b, z⟩) (hl : ds.length = ps) (hr : ds.map some ++ List.replicate (sl - ps) none = ρ0) :
    callM tab L calm (n + 1) f ds g = out z g (evSs (cf tab L calm n) b ρ0 g) := by
  rw [call_eq h hl, hr]
theorem fin_f {d g1} : finZ false g d g1 = .ok d g1 := by simp [finZ, fin]
/-- what is let go: nothing of the old changed -/
theorem fin_same {d d' g1} (h : g1.take g.length = g) (h2 : frzD g.length g1 d = some d') : finZ true g d g1 = .ok d' g := by simp [finZ, fin, h, h2]
theorem fin_upd {d d' g1} (h : (g1.take g.length).all (closedC g.length) = true) (hl : g.length ≤ g1.length) (h2 : frzD g.length g1 d = some d') : finZ true g d g1 = .ok d' (g1.take g.length) := by
  unfold finZ fin
  simp only [if_true]
  rw [if_pos (Or.inr ⟨h, hl⟩), h2]

variable {c : Cfg}
/-! ### expressions -/
theorem e_k {d} : evE c (.k d) ρ g = .ok d g := by unfold evE; rfl
theorem e_v {i} : evE c (.v i) ρ g = getV (ρ[i]?) g := by unfold evE; rfl
theorem ze_op {o as} : evE c (.op o as) ρ g = (evEs c as ρ g).bind fun ds g1 => opC c.calm o ds g1 := by conv => lhs; unfold evE
theorem ze_bm {o r as} : evE c (.bm o r as) ρ g = (evE c r ρ g).bind fun d g1 => br (some (rcvM o d g1)) ((evEs c as ρ g1).bind fun ds g2 => opC c.calm o (d :: ds) g2) .bad := by
  conv => lhs; unfold evE
  congr 1; funext d g1
  cases h : rcvM o d g1 <;> simp [br]
theorem ze_js {es} : evE c (.js es) ρ g = (evJ c es ⟨#[]⟩ ρ g).bind fun s g1 => .ok (.str s) g1 := by conv => lhs; unfold evE
theorem ze_sl {t a lo hi} : evE c (.sl t a lo hi) ρ g = (evE c a ρ g).bind fun d g1 => (evO c lo ρ g1).bind fun l g2 => (evO c hi ρ g2).bind fun h g3 => slM t d l h g3 := by conv => lhs; unfold evE
theorem ze_and {a b} : evE c (.and a b) ρ g = (evE c a ρ g).bind fun d g1 => br (truM g1 d) (evE c b ρ g1) (.ok d g1) := by
  conv => lhs; unfold evE
  congr 1
theorem ze_or {a b} : evE c (.or a b) ρ g = (evE c a ρ g).bind fun d g1 => br (truM g1 d) (.ok d g1) (evE c b ρ g1) := by
  conv => lhs; unfold evE
  congr 1; funext d g1
  cases truM g1 d with
  | none => rfl
  | some b => cases b <;> rfl
theorem ze_not {a} : evE c (.not a) ρ g = (evE c a ρ g).bind fun d g1 => optB ((truM g1 d).map (!·)) g1 := by conv => lhs; unfold evE
theorem ze_ife {t a b} : evE c (.ife t a b) ρ g = (evE c t ρ g).bind fun d g1 => br (truM g1 d) (evE c a ρ g1) (evE c b ρ g1) := by
  conv => lhs; unfold evE
  congr 1
def blOf (d : D) (t f : R D) : R D := match d with | .bl true => t | .bl false => f | _ => .bad
theorem blOf_bl {b : Bool} {t f : R D} : blOf (.bl b) t f = br (some b) t f := by cases b <;> rfl
theorem ze_chain {o1 o2 a b e} : evE c (.chain o1 o2 a b e) ρ g = (evE c a ρ g).bind fun x g1 => (evE c b ρ g1).bind fun y g2 => (opM o1 [x, y] g2).bind fun r g3 =>
      blOf r ((evE c e ρ g3).bind fun z g4 => opM o2 [y, z] g4) (.ok (.bl false) g3) := by
  conv => lhs; unfold evE
  congr 1
theorem ze_tup {es} : evE c (.tup es) ρ g = (evEs c es ρ g).bind fun ds g1 => grd (ds.length ≤ sizeLine) (.ok (.tup ds) g1) := by
  conv => lhs; unfold evE
  congr 1; funext ds g1; rw [grd_if]
theorem ze_lst {t es} : evE c (.lst t es) ρ g = (evEs c es ρ g).bind fun ds g1 => grd (ds.length ≤ sizeLine) (newL t ds g1) := by
  conv => lhs; unfold evE
  congr 1; funext ds g1; rw [grd_if]
theorem e_dct {t} : evE c (.dct t [] []) ρ g = newD t [] [] g := by conv => lhs; unfold evE
theorem newL_t {xs} : newL true xs g = .ok (.ref g.length) (g ++ [.lst xs]) := rfl
theorem newL_f {xs} : newL false xs g = .ok (.lst xs) g := rfl
theorem newD_t {ks ds} : newD true ks ds g = .ok (.ref g.length) (g ++ [.dct ks ds]) := rfl
theorem newD_f {ks ds} : newD false ks ds g = .ok (.dct ks ds) g := rfl
/-- one turn of a comprehension -/
noncomputable def cturn (c : Cfg) (cs : List ME) (e : ME) (ρ' : Env) (g' : G) : R (Option D) := (evTs c cs ρ' g').bind fun b g2 => br (some b) ((evE c e ρ' g2).bind fun y g3 => .ok (some y) g3) (.ok none g2)
theorem ze_comp {t ws sk src tg cs e} : evE c (.comp t ws sk src tg cs e) ρ g = grd (c.calm = true) ((evEs c src ρ g).bind fun ds g1 =>
      got (srcM sk ds g1) fun p => (compM (cturn c cs e) tg (wipeE ρ ws) p.2 p.1 [] g1).bind fun ys g2 => newL t ys g2) := by
  conv => lhs; unfold evE
  by_cases h : c.calm = true
  · rw [if_pos h, grd_of h]
    congr 1; funext ds g1
    unfold got
    cases h2 : srcM sk ds g1 with
    | none => rfl
    | some p =>
      obtain ⟨xs, w⟩ := p
      simp only []
      have e : (fun (ρ' : Env) (g' : G) => (evTs c cs ρ' g').bind fun b g2 => if b = true then (evE c e ρ' g2).bind fun y g3 => R.ok (some y) g3 else R.ok none g2) = cturn c cs e := by
        funext ρ' g'
        unfold cturn
        congr 1; funext b g2
        cases b <;> rfl
      rw [e]
  · rw [if_neg h]; simp [grd, h]
theorem ze_call {f as ks sel} : evE c (.call f as ks sel) ρ g = (evEs c as ρ g).bind fun ds g1 => (evEs c ks ρ g1).bind fun es g2 =>
      grd (ds.length = as.length ∧ es.length = ks.length) (got (selD (ds ++ es) sel) fun xs => c.call f xs g2) := by
  conv => lhs; unfold evE
  congr 1; funext ds g1; congr 1; funext es g2; rw [grd_if]; congr 1; cases selD (ds ++ es) sel <;> rfl
theorem ze_meth {k f m o as ks sel} : evE c (.meth k f m o as ks sel) ρ g = (evE c o ρ g).bind fun x g1 => got (objOf g1 x) fun p => grd (p.2.1 = k ∧ p.2.2.lookup m = none)
      ((evEs c as ρ g1).bind fun ds g2 => (evEs c ks ρ g2).bind fun es g3 =>
      grd (ds.length = as.length ∧ es.length = ks.length) (got (selD (.ref p.1 :: (ds ++ es)) sel) fun xs => c.call f xs g3)) := by
  conv => lhs; unfold evE
  congr 1; funext x g1
  cases x <;> try rfl
  rename_i n
  unfold got objOf
  cases h : g1[n]? with
  | none => simp [h]
  | some cl =>
    cases cl <;> simp only [h]
    rw [grd_if]; congr 1; congr 1; funext ds g2; congr 1; funext es g3; rw [grd_if]; congr 1; cases selD (.ref n :: (ds ++ es)) sel <;> rfl
theorem ze_mk {k f as ks sel} : evE c (.mk k f as ks sel) ρ g = (evEs c as ρ g).bind fun ds g1 => (evEs c ks ρ g1).bind fun es g2 =>
      grd (ds.length = as.length ∧ es.length = ks.length) (got (selD (.ref g2.length :: (ds ++ es)) sel) fun xs => (c.call f xs (g2 ++ [.ins k []])).bind fun r g3 => grd (r = .non) (.ok (.ref g2.length) g3)) := by
  conv => lhs; unfold evE
  congr 1; funext ds g1; congr 1; funext es g2
  unfold got
  by_cases h : ds.length = as.length ∧ es.length = ks.length
  · rw [if_pos h, grd_of h]
    cases selD (.ref g2.length :: (ds ++ es)) sel with
    | none => rfl
    | some xs =>
      simp only []
      congr 1; funext r g3
      cases r <;> simp [grd]
  · rw [if_neg h]; simp [grd, h]
theorem ze_fld {k f a} : evE c (.fld k f a) ρ g = (evE c a ρ g).bind fun d g1 => got (objOf g1 d) fun p => grd (p.2.1 = k) (opt (p.2.2.lookup f) g1) := by
  conv => lhs; unfold evE
  congr 1; funext x g1
  cases x <;> try rfl
  rename_i n
  unfold got objOf
  cases h : g1[n]? with
  | none => simp [h]
  | some cl =>
    cases cl <;> simp only [h]
    rw [grd_if]
def emptyV (o : Option (Option D)) (r : R D) : R D := match o with | some none => r | _ => .bad
theorem emptyV_none {r} : emptyV (some none) r = r := rfl
theorem ze_efld {i f} : evE c (.efld i f) ρ g = emptyV (ρ[i]?) (got c.cur fun p => opt (p.2.lookup f) g) := by
  conv => lhs; unfold evE
  cases ρ[i]? with
  | none => rfl
  | some o => cases o with
    | some d => rfl
    | none => cases c.cur <;> rfl
theorem ze_eis {i cs} : evE c (.eis i cs) ρ g = emptyV (ρ[i]?) (got c.cur fun p => .ok (.bl (cs.contains p.1)) g) := by
  conv => lhs; unfold evE
  cases ρ[i]? with
  | none => rfl
  | some o => cases o with
    | some d => rfl
    | none => cases c.cur <;> rfl
theorem o_none : evO c none ρ g = .ok none g := by unfold evO; rfl
theorem zo_some {e} : evO c (some e) ρ g = (evE c e ρ g).bind fun d g1 => got (intOf d) fun i => .ok (some i) g1 := by
  conv => lhs; unfold evO
  congr 1; funext d g1; cases d <;> rfl
theorem es_nil : evEs c [] ρ g = .ok [] g := by unfold evEs; rfl
theorem zes_cons {e es} : evEs c (e :: es) ρ g = (evE c e ρ g).bind fun d g1 => (evEs c es ρ g1).bind fun ds g2 => .ok (d :: ds) g2 := by conv => lhs; unfold evEs
theorem j_nil {acc} : evJ c [] acc ρ g = .ok acc g := by unfold evJ; rfl
theorem zj_cons {e es acc} : evJ c (e :: es) acc ρ g = (evE c e ρ g).bind fun d g1 => got (strOf d) fun y => grd ((acc ++ y).length ≤ sizeLine) (evJ c es (acc ++ y) ρ g1) := by
  conv => lhs; unfold evJ
  congr 1; funext d g1
  cases d <;> try rfl
  simp only [strOf, got]
  rw [grd_if]
theorem ts_nil : evTs c [] ρ g = .ok true g := by unfold evTs; rfl
theorem zts_cons {e es} : evTs c (e :: es) ρ g = (evE c e ρ g).bind fun d g1 => br (truM g1 d) (evTs c es ρ g1) (.ok false g1) := by
  conv => lhs; unfold evTs
  congr 1

/-! ### statements -/
theorem zs_asg {i e} : evS c (.asg i e) ρ g = (evE c e ρ g).thn ρ fun d g1 => .nx (ρ.set i (some d)) g1 := by conv => lhs; unfold evS
theorem zs_asgT {is e} : evS c (.asgT is e) ρ g = grdS (c.calm = true) ((evE c e ρ g).thn ρ fun d g1 => gotS (bindT g1 (.tp is) d ρ) fun ρ1 => .nx ρ1 g1) := by
  conv => lhs; unfold evS
  rw [grdS_if]; congr 1; congr 1; funext d g1; cases bindT g1 (.tp is) d ρ <;> rfl
theorem zs_par {is es} : evS c (.par is es) ρ g = (evEs c es ρ g).thn ρ fun ds g1 => grdS (c.calm = true ∧ ds.length = is.length) (.nx (assignT is ds ρ) g1) := by
  conv => lhs; unfold evS
  congr 1; funext ds g1; rw [grdS_if]
theorem zs_fset {k0 o f e} : evS c (.fset k0 o f e) ρ g = (evE c e ρ g).thn ρ fun d g1 => (evE c o ρ g1).thn ρ fun x g2 => gotS (objOf g2 x) fun p => grdS (p.2.1 = k0 ∧ p.2.2.length < 900) (.nx ρ (g2.set p.1 (.ins p.2.1 (putD f d p.2.2)))) := by
  conv => lhs; unfold evS
  congr 1; funext d g1; congr 1; funext x g2
  cases x <;> try rfl
  rename_i n
  unfold gotS objOf
  cases h : g2[n]? with
  | none => simp [h]
  | some cl =>
    cases cl <;> simp only [h]
    rw [grdS_if]
def setAt (g : G) (x j d : D) : Option G := match x with
  | .ref n => match g[n]?, j with
    | some (.lst xs), .int k => (ixN xs.length k).map fun m => g.set n (.lst (xs.set m d))
    | _, _ => none
  | _ => none
theorem zs_iset {o i e} : evS c (.iset o i e) ρ g = (evE c e ρ g).thn ρ fun d g1 => (evE c o ρ g1).thn ρ fun x g2 => (evE c i ρ g2).thn ρ fun j g3 => gotS (setAt g3 x j d) fun g4 => .nx ρ g4 := by
  conv => lhs; unfold evS
  congr 1; funext d g1; congr 1; funext x g2; congr 1; funext j g3
  cases x <;> try rfl
  rename_i n
  unfold gotS setAt
  cases h : g3[n]? with
  | none => simp [h]
  | some cl =>
    cases cl <;> simp only [h]
    cases j <;> simp only []
    rename_i xs k
    cases h2 : ixN xs.length k <;> simp [h2]
theorem setAt_ref {n : Nat} {xs : List D} {k : Int} {m : Nat} {d : D} (h : g[n]? = some (.lst xs)) (h2 : ixN xs.length k = some m) : setAt g (.ref n) (.int k) d = some (g.set n (.lst (xs.set m d))) := by
  simp [setAt, h, h2]
theorem zs_ex {e} : evS c (.ex e) ρ g = (evE c e ρ g).thn ρ fun _ g1 => .nx ρ g1 := by conv => lhs; unfold evS
theorem zs_ite {t a b} : evS c (.ite t a b) ρ g = (evE c t ρ g).thn ρ fun d g1 => iteS c a b ρ g1 (truM g1 d) := by
  conv => lhs; unfold evS
  congr 1
theorem zs_for {tg sk src body} : evS c (.for_ tg sk src body) ρ g = (evEs c src ρ g).thn ρ fun ds g1 => gotS (srcM sk ds g1) fun p => grdS (c.calm = true ∨ hotSrc ds = true) (forM (evSs c body) tg p.2 p.1 ρ g1) := by
  conv => lhs; unfold evS
  congr 1; funext ds g1
  unfold gotS
  cases srcM sk ds g1 with
  | none => rfl
  | some p => simp only []; rw [grdS_if]
def okB (g : G) (b : Bool) : R Bool := .ok b g
theorem okB_eq {b} : okB g b = .ok b g := rfl
def wtK (d : D) (g : G) : R Bool := got (truM g d) (okB g)
theorem wtK_eq {d} : wtK d g = got (truM g d) (okB g) := rfl
noncomputable def wtest (c : Cfg) (t : ME) (ρ' : Env) (g' : G) : R Bool := (evE c t ρ' g').bind wtK
theorem wtest_eq {t} : wtest c t ρ g = (evE c t ρ g).bind wtK := rfl
theorem s_while {t body} : evS c (.while_ t body) ρ g = whileM (wtest c t) (evSs c body) c.loop ρ g := by
  conv => lhs; unfold evS
  have e : wtest c t = fun ρ' g' => (evE c t ρ' g').bind fun d g1 => match truM g1 d with | some b => R.ok b g1 | none => .bad := by
    funext ρ' g'; unfold wtest; congr 1; funext d g1; unfold wtK; cases truM g1 d <;> rfl
  rw [e] <;> rfl
theorem zs_ret {e} : evS c (.ret e) ρ g = (evE c e ρ g).thn ρ fun d g1 => .rt d g1 := by conv => lhs; unfold evS
theorem s_retN : evS c .retN ρ g = .rt .non g := by unfold evS; rfl
theorem zs_raise {k fs es} : evS c (.raise k fs es) ρ g = grdS (c.calm = true) ((evEs c es ρ g).thn ρ fun ds g1 => grdS (ds.length = fs.length) (.exc k (fs.zip ds) ρ g1)) := by
  conv => lhs; unfold evS
  rw [grdS_if]; congr 1; congr 1; funext ds g1; rw [grdS_if]
theorem s_pass : evS c .pass ρ g = .nx ρ g := by unfold evS; rfl
theorem s_brk : evS c .brk ρ g = .bk ρ g := by unfold evS; rfl
theorem s_cont : evS c .cont ρ g = .ct ρ g := by unfold evS; rfl
theorem ss_nil : evSs c [] ρ g = .nx ρ g := by unfold evSs; rfl
theorem zss_cons {s r} : evSs c (s :: r) ρ g = (evS c s ρ g).nxt fun ρ1 g1 => evSs c r ρ1 g1 := by conv => lhs; unfold evSs
/-- a try, behind its body -/
noncomputable def caught (c : Cfg) (s : S) (kn : List Nat) (cs : List (List Nat)) (ns : List (Option Nat)) (suites : List (List MS)) : S := match s with
  | .exc k fs ρ1 g1 => grdS (k ∈ kn ∧ (ns.all fun o => match o with | some i => decide (i < ρ1.length) | none => true) = true) (match clauseOf k cs 0 with
      | none => .exc k fs ρ1 g1
      | some j => gotS (ns[j]?) fun n => gotS (evHs { c with calm := false, call := c.hcall, cur := some (k, fs) } suites j (match ns[j]? with | some (some i) => ρ1.set i none | _ => ρ1) g1) fun s => (s.nox).gone n)
  | s => s
theorem s_try {body kn cs ns suites} : evS c (.try_ body kn cs ns suites) ρ g = grdS (c.calm = true) (caught c (evSs c body ρ g) kn cs ns suites) := by
  conv => lhs; unfold evS
  by_cases h : c.calm = true
  · rw [if_pos h, grdS_of h]
    cases h2 : evSs c body ρ g <;> simp only [caught]
    rename_i k fs ρ1 g1
    rw [grdS_if]; congr 1
    cases clauseOf k cs 0 with
    | none => rfl
    | some j =>
      simp only []
      cases ns[j]? with
      | none => rfl
      | some nn =>
        simp only [gotS]
        generalize evHs _ _ _ _ _ = q
        cases q <;> rfl
  · rw [if_neg h]; simp [grdS, h]
theorem caught_nx {ρ1 g1 kn cs ns suites} : caught c (.nx ρ1 g1) kn cs ns suites = .nx ρ1 g1 := rfl
theorem caught_rt {d g1 kn cs ns suites} : caught c (.rt d g1) kn cs ns suites = .rt d g1 := rfl
theorem caught_bk {ρ1 g1 kn cs ns suites} : caught c (.bk ρ1 g1) kn cs ns suites = .bk ρ1 g1 := rfl
theorem caught_ct {ρ1 g1 kn cs ns suites} : caught c (.ct ρ1 g1) kn cs ns suites = .ct ρ1 g1 := rfl
/-- the suite that takes it -/
theorem caught_exc {k fs ρ1 g1 kn cs ns suites j o suite} (h1 : k ∈ kn) (h2 : (ns.all fun o => match o with | some i => decide (i < ρ1.length) | none => true) = true)
    (h3 : clauseOf k cs 0 = some j) (h4 : ns[j]? = some o) (h5 : suites[j]? = some suite) :
    caught (cf tab L true n) (.exc k fs ρ1 g1) kn cs ns suites = ((evSs (hf tab L n k fs) suite (match o with | some i => ρ1.set i none | none => ρ1) g1).nox).gone o := by
  have hs : ∀ (suites : List (List MS)) (j : Nat) (c : Cfg) (ρ : Env) (g : G) {suite}, suites[j]? = some suite → evHs c suites j ρ g = some (evSs c suite ρ g) := by
    intro suites
    induction suites with
    | nil => intro j c ρ g s h; simp at h
    | cons a r ih =>
      intro j c ρ g s h
      cases j with
      | zero => simp at h; subst h; unfold evHs; rfl
      | succ j => unfold evHs; exact ih j c ρ g (by simpa using h)
  unfold caught
  simp only []
  rw [grdS_of ⟨h1, h2⟩, h3]
  simp only [h4, gotS_some]
  rw [hs _ _ _ _ _ h5, gotS_some]
  cases o <;> rfl
/-- no suite takes it -/
theorem caught_past {k fs ρ1 g1 kn cs ns suites} (h1 : k ∈ kn) (h2 : (ns.all fun o => match o with | some i => decide (i < ρ1.length) | none => true) = true)
    (h3 : clauseOf k cs 0 = none) : caught c (.exc k fs ρ1 g1) kn cs ns suites = .exc k fs ρ1 g1 := by
  unfold caught
  simp only []
  rw [grdS_of ⟨h1, h2⟩, h3]
def noxGone (o : Option Nat) (s : S) : S := (s.nox).gone o
theorem nox_nx {ρ1 g1} : (S.nx ρ1 g1).nox = .nx ρ1 g1 := rfl
theorem nox_rt {d g1} : (S.rt d g1).nox = .rt d g1 := rfl
theorem nox_bk {ρ1 g1} : (S.bk ρ1 g1).nox = .bk ρ1 g1 := rfl
theorem nox_ct {ρ1 g1} : (S.ct ρ1 g1).nox = .ct ρ1 g1 := rfl
theorem gone_none {s : S} : s.gone none = s := by cases s <;> rfl
theorem gone_nx {i ρ1 g1} : (S.nx ρ1 g1).gone (some i) = .nx (ρ1.set i none) g1 := rfl
theorem gone_rt {i d g1} : (S.rt d g1).gone (some i) = .rt d g1 := rfl
theorem gone_bk {i ρ1 g1} : (S.bk ρ1 g1).gone (some i) = .bk (ρ1.set i none) g1 := rfl
theorem gone_ct {i ρ1 g1} : (S.ct ρ1 g1).gone (some i) = .ct (ρ1.set i none) g1 := rfl
/-! ### the same with named goings-on -/
noncomputable def opK (c : Cfg) (o : Op) (ds : List D) (g1 : G) : R D := opC c.calm o ds g1
theorem opK_eq {c o} {ds g1} : opK c o ds g1 = opC c.calm o ds g1 := rfl
noncomputable def bmL (c : Cfg) (o : Op) (d : D) (ds : List D) (g2 : G) : R D := opC c.calm o (d :: ds) g2
theorem bmL_eq {c o d} {ds g2} : bmL c o d ds g2 = opC c.calm o (d :: ds) g2 := rfl
noncomputable def bmB (c : Cfg) (o : Op) (as : List ME) (ρ : Env) (d : D) (g1 : G) (b : Bool) : R D := br (some b) ((evEs c as ρ g1).bind (bmL c o d)) .bad
theorem bmB_t {c o as ρ} {d g1} : bmB c o as ρ d g1 true = (evEs c as ρ g1).bind (bmL c o d) := rfl
noncomputable def bmK (c : Cfg) (o : Op) (as : List ME) (ρ : Env) (d : D) (g1 : G) : R D := bmB c o as ρ d g1 (rcvM o d g1)
theorem bmK_eq {c o as ρ} {d g1} : bmK c o as ρ d g1 = bmB c o as ρ d g1 (rcvM o d g1) := rfl
noncomputable def andB (c : Cfg) (b : ME) (ρ : Env) (d : D) (g1 : G) (o : Option Bool) : R D := br o (evE c b ρ g1) (.ok d g1)
noncomputable def andK (c : Cfg) (b : ME) (ρ : Env) (d : D) (g1 : G) : R D := andB c b ρ d g1 (truM g1 d)
theorem andK_eq {c b ρ} {d g1} : andK c b ρ d g1 = andB c b ρ d g1 (truM g1 d) := rfl
theorem andB_t {c b ρ} {d g1} : andB c b ρ d g1 (some true) = evE c b ρ g1 := rfl
theorem andB_f {c b ρ} {d g1} : andB c b ρ d g1 (some false) = .ok d g1 := rfl
theorem andB_dec {c b ρ} {d g1} {p : Prop} [Decidable p] : andB c b ρ d g1 (some (decide p)) = br (some (decide p)) (evE c b ρ g1) (.ok d g1) := rfl
theorem andB_and {c b ρ} {d g1} {x y : Bool} : andB c b ρ d g1 (some (x && y)) = br (some (x && y)) (evE c b ρ g1) (.ok d g1) := rfl
theorem andB_or {c b ρ} {d g1} {x y : Bool} : andB c b ρ d g1 (some (x || y)) = br (some (x || y)) (evE c b ρ g1) (.ok d g1) := rfl
theorem andB_not {c b ρ} {d g1} {x : Bool} : andB c b ρ d g1 (some (!x)) = br (some (!x)) (evE c b ρ g1) (.ok d g1) := rfl
theorem zandB_v {c b ρ} {d g1} {x : Bool} : andB c b ρ d g1 (some x) = br (some x) (evE c b ρ g1) (.ok d g1) := rfl
noncomputable def orB (c : Cfg) (b : ME) (ρ : Env) (d : D) (g1 : G) (o : Option Bool) : R D := br o (.ok d g1) (evE c b ρ g1)
noncomputable def orK (c : Cfg) (b : ME) (ρ : Env) (d : D) (g1 : G) : R D := orB c b ρ d g1 (truM g1 d)
theorem orK_eq {c b ρ} {d g1} : orK c b ρ d g1 = orB c b ρ d g1 (truM g1 d) := rfl
theorem orB_t {c b ρ} {d g1} : orB c b ρ d g1 (some true) = .ok d g1 := rfl
theorem orB_f {c b ρ} {d g1} : orB c b ρ d g1 (some false) = evE c b ρ g1 := rfl
theorem orB_dec {c b ρ} {d g1} {p : Prop} [Decidable p] : orB c b ρ d g1 (some (decide p)) = br (some (decide p)) (.ok d g1) (evE c b ρ g1) := rfl
theorem orB_and {c b ρ} {d g1} {x y : Bool} : orB c b ρ d g1 (some (x && y)) = br (some (x && y)) (.ok d g1) (evE c b ρ g1) := rfl
theorem orB_or {c b ρ} {d g1} {x y : Bool} : orB c b ρ d g1 (some (x || y)) = br (some (x || y)) (.ok d g1) (evE c b ρ g1) := rfl
theorem orB_not {c b ρ} {d g1} {x : Bool} : orB c b ρ d g1 (some (!x)) = br (some (!x)) (.ok d g1) (evE c b ρ g1) := rfl
theorem zorB_v {c b ρ} {d g1} {x : Bool} : orB c b ρ d g1 (some x) = br (some x) (.ok d g1) (evE c b ρ g1) := rfl
noncomputable def ifeB (c : Cfg) (a b : ME) (ρ : Env) (g1 : G) (o : Option Bool) : R D := br o (evE c a ρ g1) (evE c b ρ g1)
noncomputable def ifeK (c : Cfg) (a b : ME) (ρ : Env) (d : D) (g1 : G) : R D := ifeB c a b ρ g1 (truM g1 d)
theorem ifeK_eq {c a b ρ} {d g1} : ifeK c a b ρ d g1 = ifeB c a b ρ g1 (truM g1 d) := rfl
theorem ifeB_t {c a b ρ} {g1} : ifeB c a b ρ g1 (some true) = evE c a ρ g1 := rfl
theorem ifeB_f {c a b ρ} {g1} : ifeB c a b ρ g1 (some false) = evE c b ρ g1 := rfl
theorem e_op {o as} : evE c (.op o as) ρ g = (evEs c as ρ g).bind (opK c o) := ze_op
theorem e_bm {o r as} : evE c (.bm o r as) ρ g = (evE c r ρ g).bind (bmK c o as ρ) := ze_bm
theorem e_and {a b} : evE c (.and a b) ρ g = (evE c a ρ g).bind (andK c b ρ) := ze_and
theorem e_or {a b} : evE c (.or a b) ρ g = (evE c a ρ g).bind (orK c b ρ) := ze_or
theorem e_ife {t a b} : evE c (.ife t a b) ρ g = (evE c t ρ g).bind (ifeK c a b ρ) := ze_ife
def okS (s : Str) (g : G) : R D := .ok (.str s) g
theorem okS_eq {s} : okS s g = .ok (.str s) g := rfl
theorem e_js {es} : evE c (.js es) ρ g = (evJ c es ⟨#[]⟩ ρ g).bind okS := ze_js
noncomputable def slK3 (t : Bool) (d : D) (l h : Option Int) (g : G) : R D := slM t d l h g
theorem slK3_eq {t d l h} : slK3 t d l h g = slM t d l h g := rfl
noncomputable def slK2 (c : Cfg) (t : Bool) (hi : Option ME) (ρ : Env) (d : D) (l : Option Int) (g : G) : R D := (evO c hi ρ g).bind (slK3 t d l)
theorem slK2_eq {t hi d l} : slK2 c t hi ρ d l g = (evO c hi ρ g).bind (slK3 t d l) := rfl
noncomputable def slK (c : Cfg) (t : Bool) (lo hi : Option ME) (ρ : Env) (d : D) (g : G) : R D := (evO c lo ρ g).bind (slK2 c t hi ρ d)
theorem slK_eq {t lo hi d} : slK c t lo hi ρ d g = (evO c lo ρ g).bind (slK2 c t hi ρ d) := rfl
theorem e_sl {t a lo hi} : evE c (.sl t a lo hi) ρ g = (evE c a ρ g).bind (slK c t lo hi ρ) := ze_sl
noncomputable def chK4 (o2 : Op) (y z : D) (g : G) : R D := opM o2 [y, z] g
theorem chK4_eq {o2 y z} : chK4 o2 y z g = opM o2 [y, z] g := rfl
noncomputable def chB (c : Cfg) (o2 : Op) (e : ME) (ρ : Env) (y : D) (g : G) (r : D) : R D := blOf r ((evE c e ρ g).bind (chK4 o2 y)) (.ok (.bl false) g)
theorem chB_t {o2 e y} : chB c o2 e ρ y g (.bl true) = (evE c e ρ g).bind (chK4 o2 y) := rfl
theorem chB_f {o2 e y} : chB c o2 e ρ y g (.bl false) = .ok (.bl false) g := rfl
theorem chB_dec {o2 e y} {p : Prop} [Decidable p] : chB c o2 e ρ y g (.bl (decide p)) = br (some (decide p)) ((evE c e ρ g).bind (chK4 o2 y)) (.ok (.bl false) g) := blOf_bl
noncomputable def chK3 (c : Cfg) (o2 : Op) (e : ME) (ρ : Env) (y r : D) (g : G) : R D := chB c o2 e ρ y g r
theorem chK3_eq {o2 e y r} : chK3 c o2 e ρ y r g = chB c o2 e ρ y g r := rfl
noncomputable def chK2 (c : Cfg) (o1 o2 : Op) (e : ME) (ρ : Env) (x y : D) (g : G) : R D := (opM o1 [x, y] g).bind (chK3 c o2 e ρ y)
theorem chK2_eq {o1 o2 e x y} : chK2 c o1 o2 e ρ x y g = (opM o1 [x, y] g).bind (chK3 c o2 e ρ y) := rfl
noncomputable def chK (c : Cfg) (o1 o2 : Op) (b e : ME) (ρ : Env) (x : D) (g : G) : R D := (evE c b ρ g).bind (chK2 c o1 o2 e ρ x)
theorem chK_eq {o1 o2 b e x} : chK c o1 o2 b e ρ x g = (evE c b ρ g).bind (chK2 c o1 o2 e ρ x) := rfl
theorem e_chain {o1 o2 a b e} : evE c (.chain o1 o2 a b e) ρ g = (evE c a ρ g).bind (chK c o1 o2 b e ρ) := ze_chain
noncomputable def tupK (ds : List D) (g : G) : R D := grd (ds.length ≤ sizeLine) (.ok (.tup ds) g)
theorem tupK_eq {ds} : tupK ds g = grd (ds.length ≤ sizeLine) (.ok (.tup ds) g) := rfl
theorem e_tup {es} : evE c (.tup es) ρ g = (evEs c es ρ g).bind tupK := ze_tup
noncomputable def lstK (t : Bool) (ds : List D) (g : G) : R D := grd (ds.length ≤ sizeLine) (newL t ds g)
theorem lstK_eq {t ds} : lstK t ds g = grd (ds.length ≤ sizeLine) (newL t ds g) := rfl
theorem e_lst {t es} : evE c (.lst t es) ρ g = (evEs c es ρ g).bind (lstK t) := ze_lst
theorem newLK {t xs} : newL t xs g = newL t xs g := rfl
noncomputable def cpK2 (c : Cfg) (t : Bool) (ws : List Nat) (tg : Tgt) (cs : List ME) (e : ME) (ρ : Env) (g : G) (p : List D × Watch) : R D := (compM (cturn c cs e) tg (wipeE ρ ws) p.2 p.1 [] g).bind (newL t)
theorem cpK2_eq {t ws tg cs e xs w} : cpK2 c t ws tg cs e ρ g (xs, w) = (compM (cturn c cs e) tg (wipeE ρ ws) w xs [] g).bind (newL t) := rfl
noncomputable def cpK (c : Cfg) (t : Bool) (ws : List Nat) (sk : SK) (tg : Tgt) (cs : List ME) (e : ME) (ρ : Env) (ds : List D) (g : G) : R D := got (srcM sk ds g) (cpK2 c t ws tg cs e ρ g)
theorem cpK_eq {t ws sk tg cs e ds} : cpK c t ws sk tg cs e ρ ds g = got (srcM sk ds g) (cpK2 c t ws tg cs e ρ g) := rfl
theorem e_comp {t ws sk src tg cs e} : evE c (.comp t ws sk src tg cs e) ρ g = grd (c.calm = true) ((evEs c src ρ g).bind (cpK c t ws sk tg cs e ρ)) := ze_comp
noncomputable def caK3 (c : Cfg) (f : Nat) (g : G) (xs : List D) : R D := c.call f xs g
theorem caK3_eq {f xs} : caK3 c f g xs = c.call f xs g := rfl
noncomputable def caK2 (c : Cfg) (f na nk : Nat) (sel : List (Nat ⊕ D)) (ds es : List D) (g : G) : R D := grd (ds.length = na ∧ es.length = nk) (got (selD (ds ++ es) sel) (caK3 c f g))
theorem caK2_eq {f na nk sel ds es} : caK2 c f na nk sel ds es g = grd (ds.length = na ∧ es.length = nk) (got (selD (ds ++ es) sel) (caK3 c f g)) := rfl
noncomputable def caK (c : Cfg) (f na : Nat) (ks : List ME) (sel : List (Nat ⊕ D)) (ρ : Env) (ds : List D) (g : G) : R D := (evEs c ks ρ g).bind (caK2 c f na ks.length sel ds)
theorem caK_eq {f na ks sel ds} : caK c f na ks sel ρ ds g = (evEs c ks ρ g).bind (caK2 c f na ks.length sel ds) := rfl
theorem e_call {f as ks sel} : evE c (.call f as ks sel) ρ g = (evEs c as ρ g).bind (caK c f as.length ks sel ρ) := ze_call
noncomputable def meK3 (c : Cfg) (f na nk : Nat) (sel : List (Nat ⊕ D)) (p : Nat) (ds es : List D) (g : G) : R D := grd (ds.length = na ∧ es.length = nk) (got (selD (.ref p :: (ds ++ es)) sel) (caK3 c f g))
theorem meK3_eq {f na nk sel p ds es} : meK3 c f na nk sel p ds es g = grd (ds.length = na ∧ es.length = nk) (got (selD (.ref p :: (ds ++ es)) sel) (caK3 c f g)) := rfl
noncomputable def meK2 (c : Cfg) (f na : Nat) (ks : List ME) (sel : List (Nat ⊕ D)) (ρ : Env) (p : Nat) (ds : List D) (g : G) : R D := (evEs c ks ρ g).bind (meK3 c f na ks.length sel p ds)
theorem meK2_eq {f na ks sel p ds} : meK2 c f na ks sel ρ p ds g = (evEs c ks ρ g).bind (meK3 c f na ks.length sel p ds) := rfl
noncomputable def meK1 (c : Cfg) (k f : Nat) (m : Str) (as ks : List ME) (sel : List (Nat ⊕ D)) (ρ : Env) (g : G) (p : Nat × Nat × List (Str × D)) : R D := grd (p.2.1 = k ∧ p.2.2.lookup m = none) ((evEs c as ρ g).bind (meK2 c f as.length ks sel ρ p.1))
theorem meK1_eq {k f m as ks sel a b fs} : meK1 c k f m as ks sel ρ g (a, b, fs) = grd (b = k ∧ fs.lookup m = none) ((evEs c as ρ g).bind (meK2 c f as.length ks sel ρ a)) := rfl
noncomputable def meK (c : Cfg) (k f : Nat) (m : Str) (as ks : List ME) (sel : List (Nat ⊕ D)) (ρ : Env) (x : D) (g : G) : R D := got (objOf g x) (meK1 c k f m as ks sel ρ g)
theorem meK_eq {k f m as ks sel x} : meK c k f m as ks sel ρ x g = got (objOf g x) (meK1 c k f m as ks sel ρ g) := rfl
theorem e_meth {k f m o as ks sel} : evE c (.meth k f m o as ks sel) ρ g = (evE c o ρ g).bind (meK c k f m as ks sel ρ) := ze_meth
noncomputable def mkK4 (p : Nat) (r : D) (g : G) : R D := grd (r = .non) (.ok (.ref p) g)
theorem mkK4_eq {p} : mkK4 p .non g = .ok (.ref p) g := by simp [mkK4, grd]
noncomputable def mkK3 (c : Cfg) (k f : Nat) (g : G) (xs : List D) : R D := (c.call f xs (g ++ [.ins k []])).bind (mkK4 g.length)
theorem mkK3_eq {k f xs} : mkK3 c k f g xs = (c.call f xs (g ++ [.ins k []])).bind (mkK4 g.length) := rfl
noncomputable def mkK2 (c : Cfg) (k f na nk : Nat) (sel : List (Nat ⊕ D)) (ds es : List D) (g : G) : R D := grd (ds.length = na ∧ es.length = nk) (got (selD (.ref g.length :: (ds ++ es)) sel) (mkK3 c k f g))
theorem mkK2_eq {k f na nk sel ds es} : mkK2 c k f na nk sel ds es g = grd (ds.length = na ∧ es.length = nk) (got (selD (.ref g.length :: (ds ++ es)) sel) (mkK3 c k f g)) := rfl
noncomputable def mkK (c : Cfg) (k f na : Nat) (ks : List ME) (sel : List (Nat ⊕ D)) (ρ : Env) (ds : List D) (g : G) : R D := (evEs c ks ρ g).bind (mkK2 c k f na ks.length sel ds)
theorem mkK_eq {k f na ks sel ds} : mkK c k f na ks sel ρ ds g = (evEs c ks ρ g).bind (mkK2 c k f na ks.length sel ds) := rfl
theorem e_mk {k f as ks sel} : evE c (.mk k f as ks sel) ρ g = (evEs c as ρ g).bind (mkK c k f as.length ks sel ρ) := ze_mk
noncomputable def flK2 (k : Nat) (f : Str) (g : G) (p : Nat × Nat × List (Str × D)) : R D := grd (p.2.1 = k) (opt (p.2.2.lookup f) g)
theorem flK2_eq {k f a b fs} : flK2 k f g (a, b, fs) = grd (b = k) (opt (fs.lookup f) g) := rfl
noncomputable def flK (k : Nat) (f : Str) (d : D) (g : G) : R D := got (objOf g d) (flK2 k f g)
theorem flK_eq {k f d} : flK k f d g = got (objOf g d) (flK2 k f g) := rfl
theorem e_fld {k f a} : evE c (.fld k f a) ρ g = (evE c a ρ g).bind (flK k f) := ze_fld
noncomputable def efK (f : Str) (g : G) (p : Nat × List (Str × D)) : R D := opt (p.2.lookup f) g
theorem efK_eq {f k fs} : efK f g (k, fs) = opt (fs.lookup f) g := rfl
theorem e_efld {i f} : evE c (.efld i f) ρ g = emptyV (ρ[i]?) (got c.cur (efK f g)) := ze_efld
noncomputable def eiK (cs : List Nat) (g : G) (p : Nat × List (Str × D)) : R D := .ok (.bl (cs.contains p.1)) g
theorem eiK_eq {cs k fs} : eiK cs g (k, fs) = .ok (.bl (cs.contains k)) g := rfl
theorem e_eis {i cs} : evE c (.eis i cs) ρ g = emptyV (ρ[i]?) (got c.cur (eiK cs g)) := ze_eis
def noK (d : D) (g : G) : R D := optB ((truM g d).map (!·)) g
theorem noK_eq {d} : noK d g = optB ((truM g d).map (!·)) g := rfl
theorem e_not {a} : evE c (.not a) ρ g = (evE c a ρ g).bind noK := ze_not
def someI (g : G) (i : Int) : R (Option Int) := .ok (some i) g
theorem someI_eq {i} : someI g i = .ok (some i) g := rfl
def oK (d : D) (g : G) : R (Option Int) := got (intOf d) (someI g)
theorem oK_eq {d} : oK d g = got (intOf d) (someI g) := rfl
theorem o_some {e} : evO c (some e) ρ g = (evE c e ρ g).bind oK := zo_some
def esK2 (d : D) (ds : List D) (g : G) : R (List D) := .ok (d :: ds) g
theorem esK2_eq {d ds} : esK2 d ds g = .ok (d :: ds) g := rfl
noncomputable def esK (c : Cfg) (es : List ME) (ρ : Env) (d : D) (g : G) : R (List D) := (evEs c es ρ g).bind (esK2 d)
theorem esK_eq {es d} : esK c es ρ d g = (evEs c es ρ g).bind (esK2 d) := rfl
theorem es_cons {e es} : evEs c (e :: es) ρ g = (evE c e ρ g).bind (esK c es ρ) := zes_cons
noncomputable def jK2 (c : Cfg) (es : List ME) (acc : Str) (ρ : Env) (g : G) (y : Str) : R Str := grd ((acc ++ y).length ≤ sizeLine) (evJ c es (acc ++ y) ρ g)
theorem jK2_eq {es acc y} : jK2 c es acc ρ g y = grd ((acc ++ y).length ≤ sizeLine) (evJ c es (acc ++ y) ρ g) := rfl
noncomputable def jK (c : Cfg) (es : List ME) (acc : Str) (ρ : Env) (d : D) (g : G) : R Str := got (strOf d) (jK2 c es acc ρ g)
theorem jK_eq {es acc d} : jK c es acc ρ d g = got (strOf d) (jK2 c es acc ρ g) := rfl
theorem j_cons {e es acc} : evJ c (e :: es) acc ρ g = (evE c e ρ g).bind (jK c es acc ρ) := zj_cons
noncomputable def tsB (c : Cfg) (es : List ME) (ρ : Env) (g : G) (o : Option Bool) : R Bool := br o (evTs c es ρ g) (.ok false g)
theorem tsB_t {es} : tsB c es ρ g (some true) = evTs c es ρ g := rfl
theorem tsB_f {es} : tsB c es ρ g (some false) = .ok false g := rfl
noncomputable def tsK (c : Cfg) (es : List ME) (ρ : Env) (d : D) (g : G) : R Bool := tsB c es ρ g (truM g d)
theorem tsK_eq {es d} : tsK c es ρ d g = tsB c es ρ g (truM g d) := rfl
theorem ts_cons {e es} : evTs c (e :: es) ρ g = (evE c e ρ g).bind (tsK c es ρ) := zts_cons
def ctS (y : D) (g : G) : R (Option D) := .ok (some y) g
theorem ctS_eq {y} : ctS y g = .ok (some y) g := rfl
noncomputable def ctK (c : Cfg) (e : ME) (ρ : Env) (b : Bool) (g : G) : R (Option D) := br (some b) ((evE c e ρ g).bind ctS) (.ok none g)
theorem ctK_t {e} : ctK c e ρ true g = (evE c e ρ g).bind ctS := rfl
theorem ctK_f {e} : ctK c e ρ false g = .ok none g := rfl
theorem cturn_eq {cs e} : cturn c cs e ρ g = (evTs c cs ρ g).bind (ctK c e ρ) := rfl

def agK (ρ : Env) (i : Nat) (d : D) (g : G) : S := .nx (ρ.set i (some d)) g
theorem agK_eq {i d} : agK ρ i d g = .nx (ρ.set i (some d)) g := rfl
theorem s_asg {i e} : evS c (.asg i e) ρ g = (evE c e ρ g).thn ρ (agK ρ i) := zs_asg
def nxG (g : G) (ρ : Env) : S := .nx ρ g
theorem nxG_eq : nxG g ρ = .nx ρ g := rfl
def atK (ρ : Env) (is : List Nat) (d : D) (g : G) : S := gotS (bindT g (.tp is) d ρ) (nxG g)
theorem atK_eq {is d} : atK ρ is d g = gotS (bindT g (.tp is) d ρ) (nxG g) := rfl
theorem s_asgT {is e} : evS c (.asgT is e) ρ g = grdS (c.calm = true) ((evE c e ρ g).thn ρ (atK ρ is)) := zs_asgT
noncomputable def paK (c : Cfg) (ρ : Env) (is : List Nat) (ds : List D) (g : G) : S := grdS (c.calm = true ∧ ds.length = is.length) (.nx (assignT is ds ρ) g)
theorem paK_eq {is ds} : paK c ρ is ds g = grdS (c.calm = true ∧ ds.length = is.length) (.nx (assignT is ds ρ) g) := rfl
theorem s_par {is es} : evS c (.par is es) ρ g = (evEs c es ρ g).thn ρ (paK c ρ is) := zs_par
noncomputable def fsK3 (k0 : Nat) (f : Str) (ρ : Env) (d : D) (g : G) (p : Nat × Nat × List (Str × D)) : S := grdS (p.2.1 = k0 ∧ p.2.2.length < 900) (.nx ρ (g.set p.1 (.ins p.2.1 (putD f d p.2.2))))
theorem fsK3_eq {k0 f d a b fs} : fsK3 k0 f ρ d g (a, b, fs) = grdS (b = k0 ∧ fs.length < 900) (.nx ρ (g.set a (.ins b (putD f d fs)))) := rfl
noncomputable def fsK2 (k0 : Nat) (f : Str) (ρ : Env) (d x : D) (g : G) : S := gotS (objOf g x) (fsK3 k0 f ρ d g)
theorem fsK2_eq {k0 f d x} : fsK2 k0 f ρ d x g = gotS (objOf g x) (fsK3 k0 f ρ d g) := rfl
noncomputable def fsK (c : Cfg) (k0 : Nat) (o : ME) (f : Str) (ρ : Env) (d : D) (g : G) : S := (evE c o ρ g).thn ρ (fsK2 k0 f ρ d)
theorem fsK_eq {k0 o f d} : fsK c k0 o f ρ d g = (evE c o ρ g).thn ρ (fsK2 k0 f ρ d) := rfl
theorem s_fset {k0 o f e} : evS c (.fset k0 o f e) ρ g = (evE c e ρ g).thn ρ (fsK c k0 o f ρ) := zs_fset
def nxR (ρ : Env) (g : G) : S := .nx ρ g
theorem nxR_eq : nxR ρ g = .nx ρ g := rfl
def isK3 (ρ : Env) (d x j : D) (g : G) : S := gotS (setAt g x j d) (nxR ρ)
theorem isK3_eq {d x j} : isK3 ρ d x j g = gotS (setAt g x j d) (nxR ρ) := rfl
noncomputable def isK2 (c : Cfg) (i : ME) (ρ : Env) (d x : D) (g : G) : S := (evE c i ρ g).thn ρ (isK3 ρ d x)
theorem isK2_eq {i d x} : isK2 c i ρ d x g = (evE c i ρ g).thn ρ (isK3 ρ d x) := rfl
noncomputable def isK (c : Cfg) (o i : ME) (ρ : Env) (d : D) (g : G) : S := (evE c o ρ g).thn ρ (isK2 c i ρ d)
theorem isK_eq {o i d} : isK c o i ρ d g = (evE c o ρ g).thn ρ (isK2 c i ρ d) := rfl
theorem s_iset {o i e} : evS c (.iset o i e) ρ g = (evE c e ρ g).thn ρ (isK c o i ρ) := zs_iset
def exK (ρ : Env) (d : D) (g : G) : S := .nx ρ g
theorem exK_eq {d} : exK ρ d g = .nx ρ g := rfl
theorem s_ex {e} : evS c (.ex e) ρ g = (evE c e ρ g).thn ρ (exK ρ) := zs_ex
theorem s_ite {t a b} : evS c (.ite t a b) ρ g = (evE c t ρ g).thn ρ (iteK c a b ρ) := zs_ite
noncomputable def foK2 (c : Cfg) (tg : Tgt) (body : List MS) (ρ : Env) (ds : List D) (g : G) (p : List D × Watch) : S := grdS (c.calm = true ∨ hotSrc ds = true) (forM (evSs c body) tg p.2 p.1 ρ g)
theorem foK2_eq {tg body ds xs w} : foK2 c tg body ρ ds g (xs, w) = grdS (c.calm = true ∨ hotSrc ds = true) (forM (evSs c body) tg w xs ρ g) := rfl
noncomputable def foK (c : Cfg) (tg : Tgt) (sk : SK) (body : List MS) (ρ : Env) (ds : List D) (g : G) : S := gotS (srcM sk ds g) (foK2 c tg body ρ ds g)
theorem foK_eq {tg sk body ds} : foK c tg sk body ρ ds g = gotS (srcM sk ds g) (foK2 c tg body ρ ds g) := rfl
theorem s_for {tg sk src body} : evS c (.for_ tg sk src body) ρ g = (evEs c src ρ g).thn ρ (foK c tg sk body ρ) := zs_for
def reK (d : D) (g : G) : S := .rt d g
theorem reK_eq {d} : reK d g = .rt d g := rfl
theorem s_ret {e} : evS c (.ret e) ρ g = (evE c e ρ g).thn ρ reK := zs_ret
noncomputable def raK (k : Nat) (fs : List Str) (ρ : Env) (ds : List D) (g : G) : S := grdS (ds.length = fs.length) (.exc k (fs.zip ds) ρ g)
theorem raK_eq {k fs ds} : raK k fs ρ ds g = grdS (ds.length = fs.length) (.exc k (fs.zip ds) ρ g) := rfl
theorem s_raise {k fs es} : evS c (.raise k fs es) ρ g = grdS (c.calm = true) ((evEs c es ρ g).thn ρ (raK k fs ρ)) := zs_raise
noncomputable def ssK (c : Cfg) (r : List MS) (ρ : Env) (g : G) : S := evSs c r ρ g
theorem ssK_eq {r} : ssK c r ρ g = evSs c r ρ g := rfl
theorem ss_cons {s r} : evSs c (s :: r) ρ g = (evS c s ρ g).nxt (ssK c r) := zss_cons
end
end M3.EvM
/-! L3Ops: what operations come to, constructor by constructor -/
namespace M3.EvM
open PySem L2
section
variable {g : G} {calm : Bool}

theorem c_len {ds} : opC calm .len ds g = opM .len ds g := rfl
theorem c_abs {ds} : opC calm .abs ds g = opM .abs ds g := rfl
theorem c_int {ds} : opC calm .int ds g = opM .int ds g := rfl
theorem c_str {ds} : opC calm .str ds g = opM .str ds g := rfl
theorem c_repr {ds} : opC calm .repr ds g = opM .repr ds g := rfl
theorem c_neg {ds} : opC calm .neg ds g = opM .neg ds g := rfl
theorem c_isNone {ds} : opC calm .isNone ds g = opM .isNone ds g := rfl
theorem c_notNone {ds} : opC calm .notNone ds g = opM .notNone ds g := rfl
theorem c_isTrue {ds} : opC calm .isTrue ds g = opM .isTrue ds g := rfl
theorem c_upper {ds} : opC calm .upper ds g = opM .upper ds g := rfl
theorem c_sub {ds} : opC calm .sub ds g = opM .sub ds g := rfl
theorem c_mul {ds} : opC calm .mul ds g = opM .mul ds g := rfl
theorem c_fdiv {ds} : opC calm .fdiv ds g = opM .fdiv ds g := rfl
theorem c_mod {ds} : opC calm .mod ds g = opM .mod ds g := rfl
theorem c_pow {ds} : opC calm .pow ds g = opM .pow ds g := rfl
theorem c_eq {ds} : opC calm .eq ds g = opM .eq ds g := rfl
theorem c_ne {ds} : opC calm .ne ds g = opM .ne ds g := rfl
theorem c_lt {ds} : opC calm .lt ds g = opM .lt ds g := rfl
theorem c_le {ds} : opC calm .le ds g = opM .le ds g := rfl
theorem c_gt {ds} : opC calm .gt ds g = opM .gt ds g := rfl
theorem c_ge {ds} : opC calm .ge ds g = opM .ge ds g := rfl
theorem c_isin {ds} : opC calm .isin ds g = opM .isin ds g := rfl
theorem c_notin {ds} : opC calm .notin ds g = opM .notin ds g := rfl
theorem c_ix {ds} : opC calm .ix ds g = opM .ix ds g := rfl
theorem c_join {ds} : opC calm .join ds g = opM .join ds g := rfl
theorem c_partition {ds} : opC calm .partition ds g = opM .partition ds g := rfl
theorem c_append {ds} : opC calm .append ds g = opM .append ds g := rfl
theorem c_insert {ds} : opC calm .insert ds g = opM .insert ds g := rfl
theorem c_fs {ds} : opC calm .fs ds g = opM .fs ds g := rfl
theorem c_tuple {ds} : opC calm .tuple ds g = opM .tuple ds g := rfl
theorem c_list {t ds} : opC calm (.list t) ds g = opM (.list t) ds g := rfl
theorem c_add {t ds} : opC calm (.add t) ds g = opM (.add t) ds g := rfl
theorem c_isT {t ds} : opC calm (.isT t) ds g = opM (.isT t) ds g := rfl
theorem c_all {ds} : opC true .all ds g = opM .all ds g := rfl
theorem c_any {ds} : opC true .any ds g = opM .any ds g := rfl
theorem c_sum {ds} : opC true .sum ds g = opM .sum ds g := rfl
theorem c_max {ds} : opC true .max ds g = opM .max ds g := rfl
theorem c_min {ds} : opC true .min ds g = opM .min ds g := rfl
theorem c_sindex {ds} : opC true .sindex ds g = opM .sindex ds g := rfl
theorem o_isT {t d} : opM (.isT t) [d] g = optB (isM g t d) g := rfl
theorem is_int_non  : isM g .int .non = some false := rfl
theorem is_int_bl {b : Bool} : isM g .int (.bl b) = some true := rfl
theorem is_int_int {i : Int} : isM g .int (.int i) = some true := rfl
theorem is_int_str {s : Str} : isM g .int (.str s) = some false := rfl
theorem is_int_tup {xs : List D} : isM g .int (.tup xs) = some false := rfl
theorem is_int_lst {xs : List D} : isM g .int (.lst xs) = some false := rfl
theorem is_int_dct {ks : List Key} {ds : List D} : isM g .int (.dct ks ds) = some false := rfl
theorem is_str_non  : isM g .str .non = some false := rfl
theorem is_str_bl {b : Bool} : isM g .str (.bl b) = some false := rfl
theorem is_str_int {i : Int} : isM g .str (.int i) = some false := rfl
theorem is_str_str {s : Str} : isM g .str (.str s) = some true := rfl
theorem is_str_tup {xs : List D} : isM g .str (.tup xs) = some false := rfl
theorem is_str_lst {xs : List D} : isM g .str (.lst xs) = some false := rfl
theorem is_str_dct {ks : List Key} {ds : List D} : isM g .str (.dct ks ds) = some false := rfl
theorem is_bool_non  : isM g .bool .non = some false := rfl
theorem is_bool_bl {b : Bool} : isM g .bool (.bl b) = some true := rfl
theorem is_bool_int {i : Int} : isM g .bool (.int i) = some false := rfl
theorem is_bool_str {s : Str} : isM g .bool (.str s) = some false := rfl
theorem is_bool_tup {xs : List D} : isM g .bool (.tup xs) = some false := rfl
theorem is_bool_lst {xs : List D} : isM g .bool (.lst xs) = some false := rfl
theorem is_bool_dct {ks : List Key} {ds : List D} : isM g .bool (.dct ks ds) = some false := rfl
theorem is_list_non  : isM g .list .non = some false := rfl
theorem is_list_bl {b : Bool} : isM g .list (.bl b) = some false := rfl
theorem is_list_int {i : Int} : isM g .list (.int i) = some false := rfl
theorem is_list_str {s : Str} : isM g .list (.str s) = some false := rfl
theorem is_list_tup {xs : List D} : isM g .list (.tup xs) = some false := rfl
theorem is_list_lst {xs : List D} : isM g .list (.lst xs) = some true := rfl
theorem is_list_dct {ks : List Key} {ds : List D} : isM g .list (.dct ks ds) = some false := rfl
theorem is_tuple_non  : isM g .tuple .non = some false := rfl
theorem is_tuple_bl {b : Bool} : isM g .tuple (.bl b) = some false := rfl
theorem is_tuple_int {i : Int} : isM g .tuple (.int i) = some false := rfl
theorem is_tuple_str {s : Str} : isM g .tuple (.str s) = some false := rfl
theorem is_tuple_tup {xs : List D} : isM g .tuple (.tup xs) = some true := rfl
theorem is_tuple_lst {xs : List D} : isM g .tuple (.lst xs) = some false := rfl
theorem is_tuple_dct {ks : List Key} {ds : List D} : isM g .tuple (.dct ks ds) = some false := rfl
theorem is_dict_non  : isM g .dict .non = some false := rfl
theorem is_dict_bl {b : Bool} : isM g .dict (.bl b) = some false := rfl
theorem is_dict_int {i : Int} : isM g .dict (.int i) = some false := rfl
theorem is_dict_str {s : Str} : isM g .dict (.str s) = some false := rfl
theorem is_dict_tup {xs : List D} : isM g .dict (.tup xs) = some false := rfl
theorem is_dict_lst {xs : List D} : isM g .dict (.lst xs) = some false := rfl
theorem is_dict_dct {ks : List Key} {ds : List D} : isM g .dict (.dct ks ds) = some true := rfl
theorem is_listTuple_non  : isM g .listTuple .non = some false := rfl
theorem is_listTuple_bl {b : Bool} : isM g .listTuple (.bl b) = some false := rfl
theorem is_listTuple_int {i : Int} : isM g .listTuple (.int i) = some false := rfl
theorem is_listTuple_str {s : Str} : isM g .listTuple (.str s) = some false := rfl
theorem is_listTuple_tup {xs : List D} : isM g .listTuple (.tup xs) = some true := rfl
theorem is_listTuple_lst {xs : List D} : isM g .listTuple (.lst xs) = some true := rfl
theorem is_listTuple_dct {ks : List Key} {ds : List D} : isM g .listTuple (.dct ks ds) = some false := rfl
theorem is_int_rl {n xs} (h : g[n]? = some (.lst xs)) : isM g .int (.ref n) = some false := by simp [isM, h]
theorem is_int_rd {n ks ds} (h : g[n]? = some (.dct ks ds)) : isM g .int (.ref n) = some false := by simp [isM, h]
theorem is_str_rl {n xs} (h : g[n]? = some (.lst xs)) : isM g .str (.ref n) = some false := by simp [isM, h]
theorem is_str_rd {n ks ds} (h : g[n]? = some (.dct ks ds)) : isM g .str (.ref n) = some false := by simp [isM, h]
theorem is_bool_rl {n xs} (h : g[n]? = some (.lst xs)) : isM g .bool (.ref n) = some false := by simp [isM, h]
theorem is_bool_rd {n ks ds} (h : g[n]? = some (.dct ks ds)) : isM g .bool (.ref n) = some false := by simp [isM, h]
theorem is_list_rl {n xs} (h : g[n]? = some (.lst xs)) : isM g .list (.ref n) = some true := by simp [isM, h]
theorem is_list_rd {n ks ds} (h : g[n]? = some (.dct ks ds)) : isM g .list (.ref n) = some false := by simp [isM, h]
theorem is_tuple_rl {n xs} (h : g[n]? = some (.lst xs)) : isM g .tuple (.ref n) = some false := by simp [isM, h]
theorem is_tuple_rd {n ks ds} (h : g[n]? = some (.dct ks ds)) : isM g .tuple (.ref n) = some false := by simp [isM, h]
theorem is_dict_rl {n xs} (h : g[n]? = some (.lst xs)) : isM g .dict (.ref n) = some false := by simp [isM, h]
theorem is_dict_rd {n ks ds} (h : g[n]? = some (.dct ks ds)) : isM g .dict (.ref n) = some true := by simp [isM, h]
theorem is_listTuple_rl {n xs} (h : g[n]? = some (.lst xs)) : isM g .listTuple (.ref n) = some true := by simp [isM, h]
theorem is_listTuple_rd {n ks ds} (h : g[n]? = some (.dct ks ds)) : isM g .listTuple (.ref n) = some false := by simp [isM, h]
theorem o_isNone_non  : opM .isNone [.non] g = .ok (.bl true) g := rfl
theorem o_notNone_non  : opM .notNone [.non] g = .ok (.bl false) g := rfl
theorem o_isNone_bl {b : Bool} : opM .isNone [(.bl b)] g = .ok (.bl false) g := rfl
theorem o_notNone_bl {b : Bool} : opM .notNone [(.bl b)] g = .ok (.bl true) g := rfl
theorem o_isNone_int {i : Int} : opM .isNone [(.int i)] g = .ok (.bl false) g := rfl
theorem o_notNone_int {i : Int} : opM .notNone [(.int i)] g = .ok (.bl true) g := rfl
theorem o_isNone_str {s : Str} : opM .isNone [(.str s)] g = .ok (.bl false) g := rfl
theorem o_notNone_str {s : Str} : opM .notNone [(.str s)] g = .ok (.bl true) g := rfl
theorem o_isNone_tup {xs : List D} : opM .isNone [(.tup xs)] g = .ok (.bl false) g := rfl
theorem o_notNone_tup {xs : List D} : opM .notNone [(.tup xs)] g = .ok (.bl true) g := rfl
theorem o_isNone_lst {xs : List D} : opM .isNone [(.lst xs)] g = .ok (.bl false) g := rfl
theorem o_notNone_lst {xs : List D} : opM .notNone [(.lst xs)] g = .ok (.bl true) g := rfl
theorem o_isNone_dct {ks : List Key} {ds : List D} : opM .isNone [(.dct ks ds)] g = .ok (.bl false) g := rfl
theorem o_notNone_dct {ks : List Key} {ds : List D} : opM .notNone [(.dct ks ds)] g = .ok (.bl true) g := rfl
theorem o_isNone_ref {n} : opM .isNone [.ref n] g = .ok (.bl false) g := rfl
theorem o_notNone_ref {n} : opM .notNone [.ref n] g = .ok (.bl true) g := rfl
theorem o_isTrue {b} : opM .isTrue [.bl b] g = .ok (.bl b) g := rfl
theorem t_non : truM g .non = some false := rfl
theorem t_bl {b} : truM g (.bl b) = some b := rfl
theorem t_int {i} : truM g (.int i) = some (i != 0) := rfl
theorem t_str {s : Str} (h : s.length ≤ sizeLine) : truM g (.str s) = some (s.length != 0) := by simp [truM, h]
theorem t_tup {xs} : truM g (.tup xs) = some (!xs.isEmpty) := rfl
theorem t_lst {xs} : truM g (.lst xs) = some (!xs.isEmpty) := rfl
theorem t_dct {ks ds} : truM g (.dct ks ds) = some (!ks.isEmpty) := rfl
theorem t_rl {n xs} (h : g[n]? = some (.lst xs)) : truM g (.ref n) = some (!xs.isEmpty) := by simp [truM, h]
theorem t_rd {n ks ds} (h : g[n]? = some (.dct ks ds)) : truM g (.ref n) = some (!ks.isEmpty) := by simp [truM, h]
theorem l_lst {xs} : lstOf g (.lst xs) = some xs := rfl
theorem l_ref {n xs} (h : g[n]? = some (.lst xs)) : lstOf g (.ref n) = some xs := by simp [lstOf, h]
theorem r_join {s} : rcvM .join (.str s) g = true := rfl
theorem r_sindex {s} : rcvM .sindex (.str s) g = true := rfl
theorem r_partition {s} : rcvM .partition (.str s) g = true := rfl
theorem r_upper {s} : rcvM .upper (.str s) g = true := rfl
theorem r_append {n xs} (h : g[n]? = some (.lst xs)) : rcvM .append (.ref n) g = true := by simp [rcvM, lstOf, h]
theorem r_insert {n xs} (h : g[n]? = some (.lst xs)) : rcvM .insert (.ref n) g = true := by simp [rcvM, lstOf, h]
theorem o_len_str {s : Str} : opM .len [.str s] g = grd (s.length ≤ sizeLine) (.ok (.int s.length) g) := by rw [← grd_if]; rfl
theorem o_len_tup {xs : List D} : opM .len [.tup xs] g = .ok (.int xs.length) g := rfl
theorem o_len_lst {xs : List D} : opM .len [.lst xs] g = .ok (.int xs.length) g := rfl
theorem o_len_ref {n xs} (h : g[n]? = some (.lst xs)) : opM .len [.ref n] g = .ok (.int (xs.length : Nat)) g := by simp [opM, lstOf, h]
theorem o_abs {i : Int} : opM .abs [.int i] g = .ok (.int (if i < 0 then -i else i)) g := rfl
theorem o_int_int {i : Int} : opM .int [.int i] g = .ok (.int i) g := rfl
theorem o_int_bl {b : Bool} : opM .int [.bl b] g = .ok (.int (if b then 1 else 0)) g := rfl
theorem o_int_str {s : Str} {n : Int} (h : PySem.intText? s = some n) (h2 : s.length ≤ 640) : opM .int [.str s] g = .ok (.int n) g := by simp [opM, h, h2]
theorem o_str_int {i : Int} : opM .str [.int i] g = grd (i.natAbs.log2 < 1920) (.ok (.str (toString i)) g) := by rw [← grd_if]; rfl
theorem o_repr {d x} (h : py g PYDEEP d = some x) (h1 : (PyData.showable x && decide (x.shown.length ≤ sizeLine) && decide (x.depth ≤ 64) && (!x.hasDict || !hasL x)) = true) : opM .repr [d] g = .ok (.str x.shown) g := by simp only [opM, h, h1, if_true]
theorem o_neg {i : Int} : opM .neg [.int i] g = .ok (.int (-i)) g := rfl
theorem blsOf_map {α : Type} (p : α → Bool) : ∀ ys : List α, blsOf (ys.map fun y => .bl (p y)) = some (ys.map p)
  | [] => rfl
  | y :: ys => by simp [blsOf, blsOf_map p ys]
theorem intsOf_map {α : Type} (p : α → Int) : ∀ ys : List α, intsOf (ys.map fun y => .int (p y)) = some (ys.map p)
  | [] => rfl
  | y :: ys => by simp [intsOf, intsOf_map p ys]
theorem strsOf_map {α : Type} (p : α → Str) : ∀ ys : List α, strsOf (ys.map fun y => .str (p y)) = some (ys.map p)
  | [] => rfl
  | y :: ys => by simp [strsOf, strsOf_map p ys]
theorem o_all {xs bs} (h : blsOf xs = some bs) : opM .all [.lst xs] g = .ok (.bl (bs.all id)) g := by simp [opM, lstOf, h]
theorem o_any {xs bs} (h : blsOf xs = some bs) : opM .any [.lst xs] g = .ok (.bl (bs.any id)) g := by simp [opM, lstOf, h]
theorem o_sum {xs ns} (h : intsOf xs = some ns) : opM .sum [.lst xs] g = .ok (.int ns.sum) g := by simp [opM, lstOf, h]
theorem o_all_map {α : Type} {p : α → Bool} {ys : List α} : opM .all [.lst (ys.map fun y => .bl (p y))] g = .ok (.bl (ys.all p)) g := by
  rw [o_all (blsOf_map p ys)]; simp [List.all_map]
theorem o_any_map {α : Type} {p : α → Bool} {ys : List α} : opM .any [.lst (ys.map fun y => .bl (p y))] g = .ok (.bl (ys.any p)) g := by
  rw [o_any (blsOf_map p ys)]; simp [List.any_map]
theorem o_sum_map {α : Type} {p : α → Int} {ys : List α} : opM .sum [.lst (ys.map fun y => .int (p y))] g = .ok (.int (ys.map p).sum) g := o_sum (intsOf_map p ys)
theorem q_tup {xs} : seqOf g (.tup xs) = some xs := rfl
theorem q_lst {xs} : seqOf g (.lst xs) = some xs := rfl
theorem q_ref {n xs} (h : g[n]? = some (.lst xs)) : seqOf g (.ref n) = some xs := by simp [seqOf, lstOf, h]
theorem o_list {t d} : opM (.list t) [d] g = got (seqOf g d) fun xs => newL t xs g := by
  show (match seqOf g d with | some xs => newL t xs g | none => .bad) = _
  cases seqOf g d <;> rfl
theorem o_tuple {d} : opM .tuple [d] g = got (seqOf g d) fun xs => .ok (.tup xs) g := by
  show (match seqOf g d with | some xs => R.ok (D.tup xs) g | none => .bad) = _
  cases seqOf g d <;> rfl
theorem o_upper {s : Str} : opM .upper [.str s] g = grd (s.length ≤ 5592405) (.ok (.str (Txt.upper s)) g) := by rw [← grd_if]; rfl
theorem o_add_int {t} {i j : Int} : opM (.add t) [.int i, .int j] g = .ok (.int (i + j)) g := rfl
theorem o_add_str {t} {i j : Str} : opM (.add t) [.str i, .str j] g = grd (i.length + j.length ≤ sizeLine) (.ok (.str (i ++ j)) g) := by rw [← grd_if]; rfl
theorem o_add_tup {t xs ys} : opM (.add t) [.tup xs, .tup ys] g = grd (xs.length + ys.length ≤ sizeLine) (.ok (.tup (xs ++ ys)) g) := by rw [← grd_if]; rfl
theorem o_add_lst {t xs ys} : opM (.add t) [.lst xs, .lst ys] g = grd (xs.length + ys.length ≤ sizeLine) (newL t (xs ++ ys) g) := by rw [← grd_if]; rfl
theorem o_add_rl {t n xs ys} (h : g[n]? = some (.lst xs)) : opM (.add t) [.ref n, .lst ys] g = grd (xs.length + ys.length ≤ sizeLine) (newL t (xs ++ ys) g) := by rw [← grd_if]; simp [opM, lstOf, h]
theorem o_sub {i j : Int} : opM .sub [.int i, .int j] g = .ok (.int (i - j)) g := rfl
theorem o_mul {i j : Int} : opM .mul [.int i, .int j] g = grd (i.natAbs.log2 + j.natAbs.log2 < 1000000) (.ok (.int (i * j)) g) := by rw [← grd_if]; rfl
theorem o_fdiv {i j : Int} : opM .fdiv [.int i, .int j] g = grd (0 < j ∧ j.natAbs.log2 < 9000) (.ok (.int (i / j)) g) := by rw [← grd_if]; rfl
theorem o_mod {i j : Int} : opM .mod [.int i, .int j] g = grd (0 < j) (.ok (.int (i % j)) g) := by rw [← grd_if]; rfl
theorem o_pow {i j : Int} : opM .pow [.int i, .int j] g = grd (0 ≤ j ∧ j ≤ 1000000 ∧ i.natAbs < 2 ^ 64) (.ok (.int (i ^ j.toNat)) g) := by rw [← grd_if]; rfl
theorem o_eq {a b} : opM .eq [a, b] g = optB (eqM g a b) g := rfl
theorem o_ne {a b} : opM .ne [a, b] g = optB ((eqM g a b).map (!·)) g := rfl
theorem o_lt {i j : Int} : opM .lt [.int i, .int j] g = .ok (.bl (decide (i < j))) g := rfl
theorem o_le {i j : Int} : opM .le [.int i, .int j] g = .ok (.bl (decide (i ≤ j))) g := rfl
theorem o_gt {i j : Int} : opM .gt [.int i, .int j] g = .ok (.bl (decide (j < i))) g := rfl
theorem o_ge {i j : Int} : opM .ge [.int i, .int j] g = .ok (.bl (decide (j ≤ i))) g := rfl
theorem o_isin {a b} : opM .isin [a, b] g = optB (inM g a b) g := rfl
theorem o_notin {a b} : opM .notin [a, b] g = optB ((inM g a b).map (!·)) g := rfl
theorem o_ix {a} {i : Int} : opM .ix [a, .int i] g = opt (ixM g a i) g := rfl
theorem o_max {i j : Int} : opM .max [.int i, .int j] g = .ok (.int (if j > i then j else i)) g := rfl
theorem o_min {i j : Int} : opM .min [.int i, .int j] g = .ok (.int (if j < i then j else i)) g := rfl
theorem o_join {a : Str} {d} {ys : List Str} (h : (seqOf g d).bind strsOf = some ys) (h2 : (ys.map (·.length)).sum + ys.length * a.length ≤ 16777216) : opM .join [.str a, d] g = .ok (.str (Txt.join a ys)) g := by simp only [opM, h, h2, if_true]
theorem o_sindex {a b : Str} : opM .sindex [.str a, .str b] g = grd (0 ≤ Txt.find a b) (.ok (.int (Txt.find a b)) g) := by rw [← grd_if]; rfl
theorem o_partition {a b : Str} : opM .partition [.str a, .str b] g = grd (b.length ≠ 0 ∧ a.length ≤ sizeLine) (.ok (.tup [.str (Txt.partition a b).1, .str (Txt.partition a b).2.1, .str (Txt.partition a b).2.2]) g) := by rw [← grd_if]; rfl
theorem o_append {n xs d} (h : g[n]? = some (.lst xs)) : opM .append [.ref n, d] g = grd (xs.length < sizeLine) (.ok .non (g.set n (.lst (xs ++ [d])))) := by rw [← grd_if]; simp [opM, h]
theorem o_insert {n xs d} (h : g[n]? = some (.lst xs)) : opM .insert [.ref n, .int 0, d] g = grd (xs.length < sizeLine) (.ok .non (g.set n (.lst (d :: xs)))) := by rw [← grd_if]; simp [opM, h]
theorem o_fs_str {s : Str} : opM .fs [.str s] g = grd (s.length ≤ sizeLine) (.ok (.str s) g) := by rw [← grd_if]; rfl
theorem o_fs_int {i : Int} : opM .fs [.int i] g = grd (i.natAbs.log2 < 1920) (.ok (.str (toString i)) g) := by rw [← grd_if]; rfl
theorem x_tup {xs i} : ixM g (.tup xs) i = atI xs i := rfl
theorem x_lst {xs i} : ixM g (.lst xs) i = atI xs i := rfl
theorem x_ref {n xs i} (h : g[n]? = some (.lst xs)) : ixM g (.ref n) i = atI xs i := by simp [ixM, lstOf, h]
theorem x_str {s : Str} {i} (h : s.length ≤ sizeLine) : ixM g (.str s) i = (atI s.cps.toList i).map fun c => .str ⟨#[c]⟩ := by simp [ixM, h]
theorem atI_0 {α : Type} {x : α} {xs} : atI (x :: xs) 0 = some x := by
  unfold atI ixN; simp [show (0 : Int) < (xs.length : Int) + 1 by omega]
theorem atI_1 {α : Type} {x y : α} {xs} : atI (x :: y :: xs) 1 = some y := by
  unfold atI ixN; simp [show (1 : Int) < (xs.length : Int) + 1 + 1 by omega]
theorem atI_2 {α : Type} {x y z : α} {xs} : atI (x :: y :: z :: xs) 2 = some z := by
  unfold atI ixN; simp [show (2 : Int) < (xs.length : Int) + 1 + 1 + 1 by omega]
theorem atI_3 {α : Type} {x y z u : α} {xs} : atI (x :: y :: z :: u :: xs) 3 = some u := by
  unfold atI ixN; simp [show (3 : Int) < (xs.length : Int) + 1 + 1 + 1 + 1 by omega]
theorem atI_last {α : Type} {x : α} {xs : List α} : atI (xs ++ [x]) (-1) = some x := by
  unfold atI ixN; simp; rw [show (-1 + ((xs.length : Int) + 1)).toNat = xs.length by omega, if_pos (by omega)]; simp
theorem atI_of {α : Type} {xs : List α} {i : Int} (h : 0 ≤ i) (h2 : i < xs.length) : atI xs i = xs[i.toNat]? := by
  unfold atI ixN; rw [if_pos h, if_pos h2]; rfl
theorem ixN_of {n : Nat} {i : Int} (h : 0 ≤ i) (h2 : i < n) : ixN n i = some i.toNat := by
  unfold ixN; rw [if_pos h, if_pos h2]
theorem i_tup {x xs} : inM g x (.tup xs) = if flatD x && xs.all flatD then some (xs.any fun z => eqF z x) else none := rfl
theorem i_lst {x xs} : inM g x (.lst xs) = if flatD x && xs.all flatD then some (xs.any fun z => eqF z x) else none := rfl
theorem sr_lst {xs} : srcM .seq [.lst xs] g = some (xs, []) := rfl
theorem sr_tup {xs} : srcM .seq [.tup xs] g = some (xs, []) := rfl
theorem sr_str {s : Str} : srcM .seq [.str s] g = some (s.cps.toList.map fun c => .str ⟨#[c]⟩, []) := rfl
theorem sr_ref {n xs} (h : g[n]? = some (.lst xs)) : srcM .seq [.ref n] g = some (xs, [(n, xs)]) := by simp [srcM, lstOf, h, watchOf]
theorem sr_rng1 {n : Int} (h : -(2 ^ 62) ≤ n) (h2 : n < 2 ^ 62) : srcM .rng1 [.int n] g = some ((List.range n.toNat).map fun (k : Nat) => D.int (0 + (k : Int)), []) := by
  show (if -(2 ^ 62) ≤ n ∧ n < 2 ^ 62 then _ else _) = _
  rw [if_pos ⟨h, h2⟩]
theorem sr_rng2 {a b : Int} (h : -(2 ^ 62) ≤ a ∧ a < 2 ^ 62 ∧ -(2 ^ 62) ≤ b ∧ b < 2 ^ 62) : srcM .rng2 [.int a, .int b] g = some ((List.range (b - a).toNat).map fun (k : Nat) => D.int (a + (k : Int)), []) := by
  show (if _ then _ else _) = _
  rw [if_pos h]
theorem sr_enum {xs} : srcM .enum [.lst xs] g = some (xs.zipIdx.map fun p => .tup [.int p.2, p.1], []) := rfl
theorem sr_enum_ref {n xs} (h : g[n]? = some (.lst xs)) : srcM .enum [.ref n] g = some (xs.zipIdx.map fun p => .tup [.int p.2, p.1], [(n, xs)]) := by simp [srcM, lstOf, h, watchOf]
theorem sr_zip_tt {xs ys} : srcM .zip [.tup xs, .tup ys] g = some (List.zipWith (fun x y => .tup [x, y]) xs ys, []) := rfl
theorem sr_zip_ll {xs ys} : srcM .zip [.lst xs, .lst ys] g = some (List.zipWith (fun x y => .tup [x, y]) xs ys, []) := rfl
theorem sl_tup {t xs lo hi} : slM t (.tup xs) lo hi g = .ok (.tup (cutD xs lo hi)) g := rfl
theorem sl_str {t} {s : Str} {lo hi} : slM t (.str s) lo hi g = grd (s.length ≤ sizeLine) (.ok (.str (cutS s lo hi)) g) := by rw [← grd_if]; rfl
theorem sl_lst {t xs lo hi} : slM t (.lst xs) lo hi g = newL t (cutD xs lo hi) g := rfl
theorem sl_ref {t n xs lo hi} (h : g[n]? = some (.lst xs)) : slM t (.ref n) lo hi g = newL t (cutD xs lo hi) g := by simp [slM, lstOf, h]
theorem b_nm {i d} {ρ : Env} : bindT g (.nm i) d ρ = some (ρ.set i (some d)) := rfl
theorem b_tup {is xs} {ρ : Env} (h : xs.length = is.length) : bindT g (.tp is) (.tup xs) ρ = some (assignT is xs ρ) := by simp [bindT, seqOf, h]
theorem b_lst {is xs} {ρ : Env} (h : xs.length = is.length) : bindT g (.tp is) (.lst xs) ρ = some (assignT is xs ρ) := by simp [bindT, seqOf, lstOf, h]
theorem b_ref {n is xs} {ρ : Env} (h : g[n]? = some (.lst xs)) (h2 : xs.length = is.length) : bindT g (.tp is) (.ref n) ρ = some (assignT is xs ρ) := by simp [bindT, seqOf, lstOf, h, h2]
theorem as_nil {xs} {ρ : Env} : assignT [] xs ρ = ρ := by simp [assignT]
theorem as_cons {i is x xs} {ρ : Env} : assignT (i :: is) (x :: xs) ρ = assignT is xs (ρ.set i (some x)) := rfl
theorem wi_nil {ρ : Env} : wipeE ρ [] = ρ := rfl
theorem wi_cons {v vs} {ρ : Env} : wipeE ρ (v :: vs) = (wipeE ρ vs).set v none := rfl
theorem se_nil {ds} : selD ds [] = some [] := rfl
theorem se_inl {ds i r} : selD ds (.inl i :: r) = (ds[i]?).bind fun d => (selD ds r).map (d :: ·) := by
  simp only [selD]
  cases ds[i]? <;> cases selD ds r <;> rfl
theorem se_inr {ds d r} : selD ds (.inr d :: r) = (selD ds r).map (d :: ·) := rfl
theorem map_some' {α β : Type} {f : α → β} {a : α} : (some a).map f = some (f a) := rfl
theorem bind_some' {α β : Type} {f : α → Option β} {a : α} : (some a).bind f = f a := rfl
theorem optB_some' (d : Bool) (g : G) : optB (some d) g = .ok (.bl d) g := rfl

theorem q_non_non : eqM g .non .non = some true := rfl
theorem q_non_bl  {b : Bool} : eqM g .non (.bl b) = some false := rfl
theorem q_non_int  {i : Int} : eqM g .non (.int i) = some false := rfl
theorem q_non_str  {s : Str} : eqM g .non (.str s) = some false := rfl
theorem q_bl_non {b : Bool}  : eqM g (.bl b) .non = some false := rfl
theorem q_bl_bl {a b : Bool} : eqM g (.bl a) (.bl b) = some (a == b) := rfl
theorem q_bl_str {b : Bool} {s : Str} : eqM g (.bl b) (.str s) = some false := rfl
theorem q_int_non {i : Int}  : eqM g (.int i) .non = some false := rfl
theorem q_int_int {a b : Int} : eqM g (.int a) (.int b) = some (a == b) := rfl
theorem q_int_str {i : Int} {s : Str} : eqM g (.int i) (.str s) = some false := rfl
theorem q_str_non {s : Str}  : eqM g (.str s) .non = some false := rfl
theorem q_str_bl {s : Str} {b : Bool} : eqM g (.str s) (.bl b) = some false := rfl
theorem q_str_int {s : Str} {i : Int} : eqM g (.str s) (.int i) = some false := rfl
theorem q_str_str {a b : Str} : eqM g (.str a) (.str b) = some (a == b) := rfl
theorem q_nil_nil : eqM g (.lst []) (.lst []) = some true := rfl
theorem q_tnil_tnil : eqM g (.tup []) (.tup []) = some true := rfl
end
/-! ### loops -/
theorem stands_nil {g : G} : Stands g [] := fun _ h => absurd h (by simp)
theorem stands_one {g : G} {n xs} (h : g[n]? = some (.lst xs)) : Stands g [(n, xs)] := by
  intro p hp
  simp only [List.mem_singleton] at hp
  subst hp
  exact h
/-- a comprehension that changes no cell -/
theorem comp_of {f : Env → G → R (Option D)} {tg ρ w} {g : G} (o : D → Option D) (hw : Stands g w) : ∀ (xs acc : List D), (∀ x ∈ xs, ∃ ρ', bindT g tg x ρ = some ρ' ∧ f ρ' g = .ok (o x) g) → acc.length + xs.length ≤ sizeLine →
    compM f tg ρ w xs acc g = .ok (acc ++ xs.filterMap o) g
  | [], acc, _, _ => by simp [compM, hw]
  | x :: xs, acc, h, hl => by
    obtain ⟨ρ', h1, h2⟩ := h x (by simp)
    unfold compM
    rw [if_pos hw, h1]
    simp only [h2]
    simp only [List.length_cons] at hl
    cases ho : o x with
    | none =>
      simp only []
      rw [comp_of o hw xs acc (fun y hy => h y (by simp [hy])) (by omega)]
      simp [ho]
    | some y =>
      simp only []
      rw [if_pos (by omega), comp_of o hw xs (acc ++ [y]) (fun y hy => h y (by simp [hy])) (by simp; omega)]
      simp [ho]
theorem filterMap_map {α β γ : Type} (f : α → β) (g : β → Option γ) : ∀ xs : List α, (xs.map f).filterMap g = xs.filterMap fun x => g (f x)
  | [] => rfl
  | x :: xs => by
    rw [List.map_cons, List.filterMap_cons, List.filterMap_cons, filterMap_map f g xs]
/-- over a written list of values, each turned -/
theorem comp_map {α : Type} {f : Env → G → R (Option D)} {tg ρ w} {g : G} (v : α → D) (h : α → D) (hw : Stands g w) (ys : List α) (hf : ∀ y ∈ ys, ∃ ρ', bindT g tg (v y) ρ = some ρ' ∧ f ρ' g = .ok (some (h y)) g) (hl : ys.length ≤ sizeLine) :
    compM f tg ρ w (ys.map v) [] g = .ok (ys.map h) g := by
  have key : ∀ (ys : List α) (acc : List D), (∀ y ∈ ys, ∃ ρ', bindT g tg (v y) ρ = some ρ' ∧ f ρ' g = .ok (some (h y)) g) → acc.length + ys.length ≤ sizeLine →
      compM f tg ρ w (ys.map v) acc g = .ok (acc ++ ys.map h) g := by
    intro ys
    induction ys with
    | nil => intro acc _ _; simp [compM, hw]
    | cons x xs ih =>
      intro acc hf hl
      obtain ⟨ρ', h1, h2⟩ := hf x (by simp)
      simp only [List.length_cons] at hl
      rw [List.map_cons]
      unfold compM
      rw [if_pos hw, h1]
      simp only [h2]
      rw [if_pos (by omega), ih (acc ++ [h x]) (fun y hy => hf y (by simp [hy])) (by simp; omega)]
      simp
  exact key ys [] hf (by simpa using hl)
/-- none passes -/
theorem comp_none {f : Env → G → R (Option D)} {tg ρ w} {g : G} (hw : Stands g w) : ∀ (xs acc : List D), (∀ x ∈ xs, ∃ ρ', bindT g tg x ρ = some ρ' ∧ f ρ' g = .ok none g) → compM f tg ρ w xs acc g = .ok acc g
  | [], acc, _ => by simp [compM, hw]
  | x :: xs, acc, h => by
    obtain ⟨ρ', h1, h2⟩ := h x (by simp)
    unfold compM
    rw [if_pos hw, h1]
    simp only [h2]
    exact comp_none hw xs acc (fun y hy => h y (by simp [hy]))
/-- with an invariant of what is left, what was made, and the cells -/
theorem comp_inv {f : Env → G → R (Option D)} {tg ρ w} (I : List D → List D → G → Prop) (hw : ∀ xs acc g, I xs acc g → Stands g w) (hl : ∀ xs acc g, I xs acc g → acc.length + xs.length ≤ sizeLine)
    (step : ∀ x xs acc g, I (x :: xs) acc g → ∃ ρ', bindT g tg x ρ = some ρ' ∧ ∃ o g1, f ρ' g = .ok o g1 ∧ I xs (acc ++ o.toList) g1) : ∀ (xs acc : List D) (g : G), I xs acc g →
    ∃ acc1 g1, compM f tg ρ w xs acc g = .ok acc1 g1 ∧ I [] acc1 g1
  | [], acc, g, h => ⟨acc, g, by simp [compM, hw _ _ _ h], h⟩
  | x :: xs, acc, g, h => by
    obtain ⟨ρ', h1, o, g1, h2, h3⟩ := step x xs acc g h
    have hl1 := hl _ _ _ h
    simp only [List.length_cons] at hl1
    unfold compM
    rw [if_pos (hw _ _ _ h), h1]
    simp only [h2]
    cases o with
    | none =>
      simp only []
      exact comp_inv I hw hl step xs acc g1 (by simpa using h3)
    | some y =>
      simp only []
      rw [if_pos (by omega)]
      exact comp_inv I hw hl step xs (acc ++ [y]) g1 (by simpa using h3)
/-- a for that runs through -/
theorem for_inv {body : Env → G → S} {tg w} (I : List D → Env → G → Prop) (hw : ∀ xs ρ g, I xs ρ g → Stands g w)
    (step : ∀ x xs ρ g, I (x :: xs) ρ g → ∃ ρ', bindT g tg x ρ = some ρ' ∧ ∃ ρ1 g1, (body ρ' g = .nx ρ1 g1 ∨ body ρ' g = .ct ρ1 g1) ∧ I xs ρ1 g1) : ∀ (xs : List D) (ρ : Env) (g : G), I xs ρ g →
    ∃ ρ1 g1, forM body tg w xs ρ g = .nx ρ1 g1 ∧ I [] ρ1 g1
  | [], ρ, g, h => ⟨ρ, g, by simp [forM, hw _ _ _ h], h⟩
  | x :: xs, ρ, g, h => by
    obtain ⟨ρ', h1, ρ1, g1, h2, h3⟩ := step x xs ρ g h
    obtain ⟨ρ2, g2, h4, h5⟩ := for_inv I hw step xs ρ1 g1 h3
    refine ⟨ρ2, g2, ?_, h5⟩
    unfold forM
    rw [if_pos (hw _ _ _ h), h1]
    simp only []
    rcases h2 with h2 | h2 <;> rw [h2] <;> exact h4
/-- a for that may be left -/
theorem for_out {body : Env → G → S} {tg w} (I : List D → Env → G → Prop) (Q : S → Prop) (hw : ∀ xs ρ g, I xs ρ g → Stands g w) (hend : ∀ ρ g, I [] ρ g → Q (.nx ρ g))
    (step : ∀ x xs ρ g, I (x :: xs) ρ g → ∃ ρ', bindT g tg x ρ = some ρ' ∧ ((∃ ρ1 g1, (body ρ' g = .nx ρ1 g1 ∨ body ρ' g = .ct ρ1 g1) ∧ I xs ρ1 g1) ∨ (∃ s, body ρ' g = s ∧ (∀ f, s.turn f = s) ∧ Q s) ∨ (∃ ρ1 g1, body ρ' g = .bk ρ1 g1 ∧ Q (.nx ρ1 g1)))) : ∀ (xs : List D) (ρ : Env) (g : G), I xs ρ g →
    Q (forM body tg w xs ρ g)
  | [], ρ, g, h => by simp only [forM, hw _ _ _ h, if_true]; exact hend _ _ h
  | x :: xs, ρ, g, h => by
    obtain ⟨ρ', h1, h2⟩ := step x xs ρ g h
    unfold forM
    rw [if_pos (hw _ _ _ h), h1]
    simp only []
    rcases h2 with ⟨ρ1, g1, h2, h3⟩ | ⟨s, h2, h3, h4⟩ | ⟨ρ1, g1, h2, h3⟩
    · have := for_out I Q hw hend step xs ρ1 g1 h3
      rcases h2 with h2 | h2 <;> rw [h2] <;> exact this
    · rw [h2, h3]; exact h4
    · rw [h2]; exact h3
/-- a while by a measure -/
theorem while_inv {test : Env → G → R Bool} {body : Env → G → S} (I : Nat → Env → G → Prop)
    (step : ∀ m ρ g, I m ρ g → ∃ b g1, test ρ g = .ok b g1 ∧ (b = true → ∃ k ρ1 g2, k < m ∧ (body ρ g1 = .nx ρ1 g2 ∨ body ρ g1 = .ct ρ1 g2) ∧ I k ρ1 g2)) : ∀ (m n : Nat) (ρ : Env) (g : G), m < n → I m ρ g →
    ∃ ρ1 g1 g2 k, whileM test body n ρ g = .nx ρ1 g1 ∧ I k ρ1 g2 ∧ test ρ1 g2 = .ok false g1
  | m, 0, ρ, g, h, _ => absurd h (by omega)
  | m, n + 1, ρ, g, h, hI => by
    obtain ⟨b, g1, h1, h2⟩ := step m ρ g hI
    cases b with
    | false => exact ⟨ρ, g1, g, m, by unfold whileM; rw [h1]; rfl, hI, h1⟩
    | true =>
      obtain ⟨k, ρ1, g2, h3, h4, h5⟩ := h2 rfl
      obtain ⟨ρ2, g3, g4, k2, h6, h7⟩ := while_inv I step k n ρ1 g2 (by omega) h5
      refine ⟨ρ2, g3, g4, k2, ?_, h7⟩
      unfold whileM
      rw [h1]
      simp only [R.thn_ok, if_true]
      rcases h4 with h4 | h4 <;> rw [h4] <;> exact h6
/-! ### values without cells -/
mutual
def noRef : D → Bool
  | .tup xs => noRefs xs
  | .lst xs => noRefs xs
  | .dct _ ds => noRefs ds
  | .ref _ => false
  | _ => true
def noRefs : List D → Bool
  | [] => true
  | d :: r => noRef d && noRefs r
end
mutual
theorem noRef_closed (n : Nat) : ∀ d, noRef d = true → closedD n d = true
  | .tup xs, h => by unfold closedD; exact noRefs_closed n xs (by simpa [noRef] using h)
  | .lst xs, h => by unfold closedD; exact noRefs_closed n xs (by simpa [noRef] using h)
  | .dct _ ds, h => by unfold closedD; exact noRefs_closed n ds (by simpa [noRef] using h)
  | .ref _, h => by simp [noRef] at h
  | .non, _ => rfl
  | .bl _, _ => rfl
  | .int _, _ => rfl
  | .str _, _ => rfl
theorem noRefs_closed (n : Nat) : ∀ ds, noRefs ds = true → closedDs n ds = true
  | [], _ => rfl
  | d :: r, h => by
    simp only [noRefs, Bool.and_eq_true] at h
    unfold closedDs
    rw [noRef_closed n d h.1, noRefs_closed n r h.2]
    rfl
end
theorem noRefs_all : ∀ ds : List D, noRefs ds = ds.all noRef
  | [] => rfl
  | d :: r => by rw [noRefs, List.all_cons, noRefs_all r]
theorem frz_pure {n g d} (h : noRef d = true) : frzD n g d = some d := by
  cases d <;> first
    | (simp [noRef] at h; done)
    | (unfold frzD; simp only []; rw [noRef_closed n _ h]; rfl)
theorem fin_pure {g : G} {d} (h : noRef d = true) : finZ true g d g = .ok d g := fin_same (by simp) (frz_pure h)
/-- all cells' values are closed -/
def AllC (g : G) : Prop := g.all (closedC g.length) = true
mutual
theorem closed_mono {n m : Nat} (h : n ≤ m) : ∀ d, closedD n d = true → closedD m d = true
  | .tup xs, e => by unfold closedD at e ⊢; exact closeds_mono h xs e
  | .lst xs, e => by unfold closedD at e ⊢; exact closeds_mono h xs e
  | .dct _ ds, e => by unfold closedD at e ⊢; exact closeds_mono h ds e
  | .ref k, e => by unfold closedD at e ⊢; simp at e ⊢; omega
  | .non, _ => rfl
  | .bl _, _ => rfl
  | .int _, _ => rfl
  | .str _, _ => rfl
theorem closeds_mono {n m : Nat} (h : n ≤ m) : ∀ ds, closedDs n ds = true → closedDs m ds = true
  | [], _ => rfl
  | d :: r, e => by
    simp only [closedDs, Bool.and_eq_true] at e ⊢
    exact ⟨closed_mono h d e.1, closeds_mono h r e.2⟩
end
theorem closedC_mono {n m : Nat} (h : n ≤ m) : ∀ c, closedC n c = true → closedC m c = true
  | .lst xs, e => closeds_mono h xs e
  | .dct _ ds, e => closeds_mono h ds e
  | .ins _ fs, e => closeds_mono h _ e
theorem AllC.push {g : G} {c : Cell} (h : AllC g) (hc : closedC (g.length + 1) c = true) : AllC (g ++ [c]) := by
  unfold AllC at *
  rw [List.all_eq_true] at *
  intro x hx
  simp only [List.length_append, List.length_singleton]
  rcases List.mem_append.mp hx with hx | hx
  · exact closedC_mono (by omega) x (h x hx)
  · simp only [List.mem_singleton] at hx; subst hx; exact hc
theorem AllC.set {g : G} {c : Cell} {n : Nat} (h : AllC g) (hc : closedC g.length c = true) : AllC (g.set n c) := by
  unfold AllC at *
  rw [List.all_eq_true] at *
  intro x hx
  rw [List.length_set]
  rcases List.mem_or_eq_of_mem_set hx with hx | hx
  · exact h x hx
  · subst hx; exact hc
theorem AllC.nil : AllC [] := rfl
theorem AllC.get {g : G} {n : Nat} {c : Cell} (h : AllC g) (hc : g[n]? = some c) : closedC g.length c = true := by
  unfold AllC at h
  rw [List.all_eq_true] at h
  exact h c (List.mem_of_getElem? hc)
theorem lt_of_get {g : G} {n : Nat} {c : Cell} (h : g[n]? = some c) : n < g.length := (List.getElem?_eq_some_iff.mp h).1
theorem get_push {g : G} {c : Cell} : (g ++ [c])[g.length]? = some c := by simp
theorem get_app {g r : G} {n : Nat} {c : Cell} (h : g[n]? = some c) : (g ++ r)[n]? = some c := by
  rw [List.getElem?_append_left (lt_of_get h), h]
theorem get_set_eq {g : G} {n : Nat} {c d : Cell} (h : g[n]? = some d) : (g.set n c)[n]? = some c := by
  simp [lt_of_get h]
theorem get_set_ne {g : G} {n m : Nat} {c d : Cell} (h : g[m]? = some d) (hne : n ≠ m) : (g.set n c)[m]? = some d := by
  rw [List.getElem?_set_ne hne, h]
/-! ### texts as lists of signs -/
def sL (l : List Nat) : Str := ⟨l.toArray⟩
theorem sL_len {l} : (sL l).length = l.length := by simp [sL, Str.length]
theorem sL_app {a b} : sL a ++ sL b = sL (a ++ b) := by
  show (Str.append (sL a) (sL b)) = _
  simp [sL, Str.append]
theorem sL_cps {l} : (sL l).cps.toList = l := by simp [sL]
theorem sL_beq {a b : List Nat} : (sL a == sL b) = (a == b) := by
  rw [Bool.eq_iff_iff, beq_iff_eq, beq_iff_eq]
  constructor
  · intro h
    have := congrArg (fun s : Str => s.cps.toList) h
    simpa [sL] using this
  · intro h; rw [h]
theorem sL_inj {a b : List Nat} (h : sL a = sL b) : a = b := by
  have := congrArg (fun s : Str => s.cps.toList) h
  simpa [sL] using this
theorem sL_one {c : Nat} : (⟨#[c]⟩ : Str) = sL [c] := rfl
theorem sL_cut {l lo hi} : cutS (sL l) lo hi = sL (cutD l lo hi) := by
  unfold cutS cutD
  rw [sL_cps, sL_len]; rfl
theorem sL_of (s : Str) : ∃ l, s = sL l := ⟨s.cps.toList, by simp [sL]⟩
theorem sL_in {c l} {g : G} : inM g (.str (sL [c])) (.str (sL l)) = some (decide (c ∈ l)) := by
  show some (!(Builtin.Str.occurrences (sL l) (sL [c]) 0 (sL l).length 1).isEmpty) = _
  rw [show sL [c] = ⟨#[c]⟩ from rfl, PySem.StrLaws.found_one, sL_cps]
end M3.EvM
local macro_rules | `(tactic| kit_pair [$xs,*]) => `(tactic| simp -implicitDefEqProofs (disch := first | assumption | with_unfolding_all rfl | omega | with_unfolding_all exact ⟨rfl, rfl⟩ | decide) only [M3.EvM.br_t, M3.EvM.br_f, M3.EvM.iteS_t, M3.EvM.iteS_f, M3.EvM.iteK_eq, M3.EvM.br_and, M3.EvM.br_or, M3.EvM.grd_T, M3.EvM.grd_of, M3.EvM.grdS_T, M3.EvM.grdS_of, M3.EvM.got_some, M3.EvM.gotS_some, M3.EvM.getV_some, M3.EvM.objOf_ref, M3.EvM.intOf_int, M3.EvM.strOf_str, M3.EvM.cf_call, M3.EvM.cf_calm, M3.EvM.cf_loop, M3.EvM.hf_call, M3.EvM.hf_calm, M3.EvM.hf_loop, M3.EvM.hf_cur, M3.EvM.out_nx, M3.EvM.out_rt, M3.EvM.out_exc, M3.EvM.fin_f, M3.EvM.e_k, M3.EvM.e_v, M3.EvM.blOf_bl, M3.EvM.e_dct, M3.EvM.newL_t, M3.EvM.newL_f, M3.EvM.newD_t, M3.EvM.newD_f, M3.EvM.emptyV_none, M3.EvM.o_none, M3.EvM.es_nil, M3.EvM.j_nil, M3.EvM.ts_nil, M3.EvM.setAt_ref, M3.EvM.okB_eq, M3.EvM.wtK_eq, M3.EvM.s_while, M3.EvM.s_retN, M3.EvM.s_pass, M3.EvM.s_brk, M3.EvM.s_cont, M3.EvM.ss_nil, M3.EvM.s_try, M3.EvM.caught_nx, M3.EvM.caught_rt, M3.EvM.caught_bk, M3.EvM.caught_ct, M3.EvM.nox_nx, M3.EvM.nox_rt, M3.EvM.nox_bk, M3.EvM.nox_ct, M3.EvM.gone_none, M3.EvM.gone_nx, M3.EvM.gone_rt, M3.EvM.gone_bk, M3.EvM.gone_ct, M3.EvM.opK_eq, M3.EvM.bmL_eq, M3.EvM.bmB_t, M3.EvM.bmK_eq, M3.EvM.andK_eq, M3.EvM.andB_t, M3.EvM.andB_f, M3.EvM.andB_dec, M3.EvM.andB_and, M3.EvM.andB_or, M3.EvM.andB_not, M3.EvM.orK_eq, M3.EvM.orB_t, M3.EvM.orB_f, M3.EvM.orB_dec, M3.EvM.orB_and, M3.EvM.orB_or, M3.EvM.orB_not, M3.EvM.ifeK_eq, M3.EvM.ifeB_t, M3.EvM.ifeB_f, M3.EvM.e_op, M3.EvM.e_bm, M3.EvM.e_and, M3.EvM.e_or, M3.EvM.e_ife, M3.EvM.okS_eq, M3.EvM.e_js, M3.EvM.slK3_eq, M3.EvM.slK2_eq, M3.EvM.slK_eq, M3.EvM.e_sl, M3.EvM.chK4_eq, M3.EvM.chB_t, M3.EvM.chB_f, M3.EvM.chB_dec, M3.EvM.chK3_eq, M3.EvM.chK2_eq, M3.EvM.chK_eq, M3.EvM.e_chain, M3.EvM.tupK_eq, M3.EvM.e_tup, M3.EvM.lstK_eq, M3.EvM.e_lst, M3.EvM.cpK2_eq, M3.EvM.cpK_eq, M3.EvM.e_comp, M3.EvM.caK3_eq, M3.EvM.caK2_eq, M3.EvM.caK_eq, M3.EvM.e_call, M3.EvM.meK3_eq, M3.EvM.meK2_eq, M3.EvM.meK1_eq, M3.EvM.meK_eq, M3.EvM.e_meth, M3.EvM.mkK4_eq, M3.EvM.mkK3_eq, M3.EvM.mkK2_eq, M3.EvM.mkK_eq, M3.EvM.e_mk, M3.EvM.flK2_eq, M3.EvM.flK_eq, M3.EvM.e_fld, M3.EvM.efK_eq, M3.EvM.e_efld, M3.EvM.eiK_eq, M3.EvM.e_eis, M3.EvM.noK_eq, M3.EvM.e_not, M3.EvM.someI_eq, M3.EvM.oK_eq, M3.EvM.o_some, M3.EvM.esK2_eq, M3.EvM.esK_eq, M3.EvM.es_cons, M3.EvM.jK2_eq, M3.EvM.jK_eq, M3.EvM.j_cons, M3.EvM.tsB_t, M3.EvM.tsB_f, M3.EvM.tsK_eq, M3.EvM.ts_cons, M3.EvM.ctS_eq, M3.EvM.ctK_t, M3.EvM.ctK_f, M3.EvM.agK_eq, M3.EvM.s_asg, M3.EvM.nxG_eq, M3.EvM.atK_eq, M3.EvM.s_asgT, M3.EvM.paK_eq, M3.EvM.s_par, M3.EvM.fsK3_eq, M3.EvM.fsK2_eq, M3.EvM.fsK_eq, M3.EvM.s_fset, M3.EvM.nxR_eq, M3.EvM.isK3_eq, M3.EvM.isK2_eq, M3.EvM.isK_eq, M3.EvM.s_iset, M3.EvM.exK_eq, M3.EvM.s_ex, M3.EvM.s_ite, M3.EvM.foK2_eq, M3.EvM.foK_eq, M3.EvM.s_for, M3.EvM.reK_eq, M3.EvM.s_ret, M3.EvM.raK_eq, M3.EvM.s_raise, M3.EvM.ssK_eq, M3.EvM.ss_cons, M3.EvM.c_len, M3.EvM.c_abs, M3.EvM.c_int, M3.EvM.c_str, M3.EvM.c_repr, M3.EvM.c_neg, M3.EvM.c_isNone, M3.EvM.c_notNone, M3.EvM.c_isTrue, M3.EvM.c_upper, M3.EvM.c_sub, M3.EvM.c_mul, M3.EvM.c_fdiv, M3.EvM.c_mod, M3.EvM.c_pow, M3.EvM.c_eq, M3.EvM.c_ne, M3.EvM.c_lt, M3.EvM.c_le, M3.EvM.c_gt, M3.EvM.c_ge, M3.EvM.c_isin, M3.EvM.c_notin, M3.EvM.c_ix, M3.EvM.c_join, M3.EvM.c_partition, M3.EvM.c_append, M3.EvM.c_insert, M3.EvM.c_fs, M3.EvM.c_tuple, M3.EvM.c_list, M3.EvM.c_add, M3.EvM.c_isT, M3.EvM.c_all, M3.EvM.c_any, M3.EvM.c_sum, M3.EvM.c_max, M3.EvM.c_min, M3.EvM.c_sindex, M3.EvM.o_isT, M3.EvM.is_int_non, M3.EvM.is_int_bl, M3.EvM.is_int_int, M3.EvM.is_int_str, M3.EvM.is_int_tup, M3.EvM.is_int_lst, M3.EvM.is_int_dct, M3.EvM.is_str_non, M3.EvM.is_str_bl, M3.EvM.is_str_int, M3.EvM.is_str_str, M3.EvM.is_str_tup, M3.EvM.is_str_lst, M3.EvM.is_str_dct, M3.EvM.is_bool_non, M3.EvM.is_bool_bl, M3.EvM.is_bool_int, M3.EvM.is_bool_str, M3.EvM.is_bool_tup, M3.EvM.is_bool_lst, M3.EvM.is_bool_dct, M3.EvM.is_list_non, M3.EvM.is_list_bl, M3.EvM.is_list_int, M3.EvM.is_list_str, M3.EvM.is_list_tup, M3.EvM.is_list_lst, M3.EvM.is_list_dct, M3.EvM.is_tuple_non, M3.EvM.is_tuple_bl, M3.EvM.is_tuple_int, M3.EvM.is_tuple_str, M3.EvM.is_tuple_tup, M3.EvM.is_tuple_lst, M3.EvM.is_tuple_dct, M3.EvM.is_dict_non, M3.EvM.is_dict_bl, M3.EvM.is_dict_int, M3.EvM.is_dict_str, M3.EvM.is_dict_tup, M3.EvM.is_dict_lst, M3.EvM.is_dict_dct, M3.EvM.is_listTuple_non, M3.EvM.is_listTuple_bl, M3.EvM.is_listTuple_int, M3.EvM.is_listTuple_str, M3.EvM.is_listTuple_tup, M3.EvM.is_listTuple_lst, M3.EvM.is_listTuple_dct, M3.EvM.is_int_rl, M3.EvM.is_int_rd, M3.EvM.is_str_rl, M3.EvM.is_str_rd, M3.EvM.is_bool_rl, M3.EvM.is_bool_rd, M3.EvM.is_list_rl, M3.EvM.is_list_rd, M3.EvM.is_tuple_rl, M3.EvM.is_tuple_rd, M3.EvM.is_dict_rl, M3.EvM.is_dict_rd, M3.EvM.is_listTuple_rl, M3.EvM.is_listTuple_rd, M3.EvM.o_isNone_non, M3.EvM.o_notNone_non, M3.EvM.o_isNone_bl, M3.EvM.o_notNone_bl, M3.EvM.o_isNone_int, M3.EvM.o_notNone_int, M3.EvM.o_isNone_str, M3.EvM.o_notNone_str, M3.EvM.o_isNone_tup, M3.EvM.o_notNone_tup, M3.EvM.o_isNone_lst, M3.EvM.o_notNone_lst, M3.EvM.o_isNone_dct, M3.EvM.o_notNone_dct, M3.EvM.o_isNone_ref, M3.EvM.o_notNone_ref, M3.EvM.o_isTrue, M3.EvM.t_non, M3.EvM.t_bl, M3.EvM.t_int, M3.EvM.t_str, M3.EvM.t_tup, M3.EvM.t_lst, M3.EvM.t_dct, M3.EvM.t_rl, M3.EvM.t_rd, M3.EvM.l_lst, M3.EvM.l_ref, M3.EvM.r_join, M3.EvM.r_sindex, M3.EvM.r_partition, M3.EvM.r_upper, M3.EvM.r_append, M3.EvM.r_insert, M3.EvM.o_len_str, M3.EvM.o_len_tup, M3.EvM.o_len_lst, M3.EvM.o_len_ref, M3.EvM.o_abs, M3.EvM.o_int_int, M3.EvM.o_int_bl, M3.EvM.o_neg, M3.EvM.o_all_map, M3.EvM.o_any_map, M3.EvM.o_sum_map, M3.EvM.q_tup, M3.EvM.q_lst, M3.EvM.q_ref, M3.EvM.o_list, M3.EvM.o_tuple, M3.EvM.o_upper, M3.EvM.o_add_int, M3.EvM.o_add_str, M3.EvM.o_add_tup, M3.EvM.o_add_lst, M3.EvM.o_add_rl, M3.EvM.o_sub, M3.EvM.o_mod, M3.EvM.o_eq, M3.EvM.o_ne, M3.EvM.o_lt, M3.EvM.o_le, M3.EvM.o_gt, M3.EvM.o_ge, M3.EvM.o_isin, M3.EvM.o_notin, M3.EvM.o_ix, M3.EvM.o_max, M3.EvM.o_min, M3.EvM.o_sindex, M3.EvM.o_partition, M3.EvM.o_append, M3.EvM.o_insert, M3.EvM.o_fs_str, M3.EvM.x_tup, M3.EvM.x_lst, M3.EvM.x_ref, M3.EvM.x_str, M3.EvM.atI_0, M3.EvM.atI_1, M3.EvM.atI_2, M3.EvM.atI_3, M3.EvM.atI_last, M3.EvM.sr_lst, M3.EvM.sr_tup, M3.EvM.sr_str, M3.EvM.sr_ref, M3.EvM.sr_rng1, M3.EvM.sr_rng2, M3.EvM.sr_enum, M3.EvM.sr_enum_ref, M3.EvM.sr_zip_tt, M3.EvM.sr_zip_ll, M3.EvM.sl_tup, M3.EvM.sl_str, M3.EvM.sl_lst, M3.EvM.sl_ref, M3.EvM.b_nm, M3.EvM.b_tup, M3.EvM.b_lst, M3.EvM.b_ref, M3.EvM.as_nil, M3.EvM.as_cons, M3.EvM.wi_nil, M3.EvM.wi_cons, M3.EvM.se_nil, M3.EvM.se_inl, M3.EvM.se_inr, M3.EvM.map_some', M3.EvM.bind_some', M3.EvM.optB_some', M3.EvM.q_non_non, M3.EvM.q_non_bl, M3.EvM.q_non_int, M3.EvM.q_non_str, M3.EvM.q_bl_non, M3.EvM.q_bl_bl, M3.EvM.q_bl_str, M3.EvM.q_int_non, M3.EvM.q_int_int, M3.EvM.q_int_str, M3.EvM.q_str_non, M3.EvM.q_str_bl, M3.EvM.q_str_int, M3.EvM.q_str_str, M3.EvM.q_nil_nil, M3.EvM.q_tnil_tnil, M3.R.bind_ok, M3.R.bind_exc, M3.R.bind_bad, M3.R.thn_ok, M3.R.thn_exc, M3.R.thn_bad, M3.S.nxt_nx, M3.S.nxt_rt, M3.S.nxt_exc, M3.S.nxt_bad, M3.S.nxt_bk, M3.S.nxt_ct, M3.opt_some, List.getElem?_cons_zero, List.getElem?_cons_succ, List.set_cons_zero, List.set_cons_succ, List.cons_append, List.nil_append, List.length_cons, List.length_nil, Bool.not_true, Bool.not_false, Nat.reduceAdd, Nat.reduceSub, List.isEmpty_nil, List.isEmpty_cons, Nat.zero_add, true_and, and_true, Nat.le_refl, and_self, true_or, or_true, Bool.true_and, Bool.false_and, Bool.or_true, Bool.true_or, Bool.or_false, Bool.false_or, Bool.and_true, Bool.and_false, $[$xs:term],*])
/-! L3Law: the defs that all laws have: cells of the script, boxes of draws -/
namespace M3.EvM
open PySem L2
/-! ### numbers that are small enough -/
theorem o_mul' {g : G} {i j : Int} (h : -18446744073709551616 < i) (h1 : i < 18446744073709551616) (h2 : -18446744073709551616 < j) (h3 : j < 18446744073709551616) : opM .mul [.int i, .int j] g = .ok (.int (i * j)) g := by
  rw [o_mul]
  have a : i.natAbs.log2 < 65 := by
    by_cases h0 : i.natAbs = 0
    · rw [h0]; decide
    · exact (Nat.log2_lt h0).mpr (by omega)
  have b : j.natAbs.log2 < 65 := by
    by_cases h0 : j.natAbs = 0
    · rw [h0]; decide
    · exact (Nat.log2_lt h0).mpr (by omega)
  exact grd_of (by omega) _
theorem o_fdiv' {g : G} {i j : Int} (h2 : 0 < j) (h3 : j < 18446744073709551616) : opM .fdiv [.int i, .int j] g = .ok (.int (i / j)) g := by
  rw [o_fdiv]
  have b : j.natAbs.log2 < 65 := by
    by_cases h0 : j.natAbs = 0
    · rw [h0]; decide
    · exact (Nat.log2_lt h0).mpr (by omega)
  exact grd_of (by omega) _
theorem o_str' {g : G} {i : Int} (h : -18446744073709551616 < i) (h1 : i < 18446744073709551616) : opM .str [.int i] g = .ok (.str (toString i)) g := by
  rw [o_str_int]
  have a : i.natAbs.log2 < 65 := by
    by_cases h0 : i.natAbs = 0
    · rw [h0]; decide
    · exact (Nat.log2_lt h0).mpr (by omega)
  exact grd_of (by omega) _
theorem o_fs' {g : G} {i : Int} (h : -18446744073709551616 < i) (h1 : i < 18446744073709551616) : opM .fs [.int i] g = .ok (.str (toString i)) g := by
  rw [o_fs_int]
  have a : i.natAbs.log2 < 65 := by
    by_cases h0 : i.natAbs = 0
    · rw [h0]; decide
    · exact (Nat.log2_lt h0).mpr (by omega)
  exact grd_of (by omega) _
theorem o_pow5 {g : G} {i : Int} (h : -18446744073709551616 < i) (h1 : i < 18446744073709551616) : opM .pow [.int i, .int 5] g = .ok (.int (i ^ 5)) g := by
  rw [o_pow]
  exact grd_of (by omega) _
theorem o_pow3 {g : G} {i : Int} (h : -18446744073709551616 < i) (h1 : i < 18446744073709551616) : opM .pow [.int i, .int 3] g = .ok (.int (i ^ 3)) g := by
  rw [o_pow]
  exact grd_of (by omega) _
theorem o_pow1018 {g : G} : opM .pow [.int 10, .int 18] g = .ok (.int 1000000000000000000) g := by
  rw [o_pow]
  exact grd_of (by decide) _

/-! ### draws -/
def takeB (A B C : Int) : List MS := [.ite (.and (.op .ix [.v 0, .k (.int 1)]) (.op .gt [.op .ix [.v 0, .k (.int 0)], .k (.int 0)])) [.asg 3 (.op .mod [.op .int [.op .ix [.v 0, .k (.int 0)]], .v 1]), .iset (.v 0) (.k (.int 0)) (.op .fdiv [.op .ix [.v 0, .k (.int 0)], .v 1]), .ret (.v 3)] [], .iset (.v 0) (.k (.int 3)) (.op (.add false) [.op .ix [.v 0, .k (.int 3)], .k (.int 1)]), .asg 2 (.op .mod [.op .int [.op .pow [.op (.add false) [.op (.add false) [.op .ix [.v 0, .k (.int 2)], .op .mul [.k (.int A), .op .ix [.v 0, .k (.int 3)]]], .k (.int B)], .k (.int 5)]], .k (.int 2147483647)]), .ret (.op .mod [.op .int [.op .fdiv [.op .mod [.op .int [.op .pow [.op (.add false) [.op .mul [.v 2, .k (.int 48271)], .op .mul [.k (.int C), .op .ix [.v 0, .k (.int 3)]]], .k (.int 3)]], .k (.int 2147483587)], .k (.int 64)]], .v 1])]
/-- a box of draws of which at most k were mixed -/
def BoxC (k : Int) (c : Cell) : Prop := ∃ (a : Int) (b : Bool) (m j : Int), c = .lst [.int a, .bl b, .int m, .int j] ∧ 0 ≤ m ∧ m < 2147483629 ∧ 0 ≤ j ∧ j ≤ k
theorem BoxC.mono {k l : Int} {c : Cell} (h : k ≤ l) : BoxC k c → BoxC l c := fun ⟨a, b, m, j, e, h1, h2, h3, h4⟩ => ⟨a, b, m, j, e, h1, h2, h3, by omega⟩
theorem BoxC.closed {k : Int} {c : Cell} {n : Nat} : BoxC k c → closedC n c = true := fun ⟨a, b, m, j, e, _⟩ => by subst e; rfl
section
variable {tab : Nat → Option Fn} {L n : Nat} {calm : Bool} {g : G}
theorem take_ok {f : Nat} {A B C : Int} (ht : tab f = some ⟨2, 4, takeB A B C, false⟩) (hA : 0 ≤ A) (hA2 : A < 33554432) (hB : 0 ≤ B) (hB2 : B < 1073741824) (hC : 0 ≤ C) (hC2 : C < 65536)
    {p : Nat} {many k : Int} {cell : Cell} (hp : g[p]? = some cell) (hb : BoxC k cell) (hk : k ≤ 68719476736) (hm : 0 < many) (hm2 : many < 18446744073709551616) :
    ∃ d cell', callM tab L calm (n + 1) f [.ref p, .int many] g = .ok (.int d) (g.set p cell') ∧ 0 ≤ d ∧ d < many ∧ BoxC (k + 1) cell' := by
  obtain ⟨a, b, m, j, e, h1, h2, h3, h4⟩ := hb
  subst e
  rw [call_at (ρ0 := [some (.ref p), some (.int many), none, none]) ht rfl rfl]; unfold takeB
  by_cases hc : b = true ∧ 0 < a
  · obtain ⟨hb, ha⟩ := hc
    subst hb
    refine ⟨a % many, .lst [.int (a / many), .bl true, .int m, .int j], ?_, Int.emod_nonneg _ (by omega), Int.emod_lt_of_pos _ hm, ⟨_, _, _, _, rfl, h1, h2, h3, by omega⟩⟩
    have i0 : ixN [D.int a, .bl true, .int m, .int j].length 0 = some 0 := rfl
    kit_pair [hp, x_ref hp, o_fdiv' hm hm2, setAt_ref hp i0, decide_eq_true ha]
  · have hg : ∀ (d : D), br (some b) (R.ok (D.bl (decide (0 < a))) g) (R.ok (D.bl b) g) = .ok (.bl false) g := by
      intro _
      cases b with
      | false => rfl
      | true =>
        have : ¬ 0 < a := fun h => hc ⟨rfl, h⟩
        simp [br, this]
    have hj : BoxC (k + 1) (.lst [.int a, .bl b, .int m, .int (j + 1)]) := ⟨_, _, _, _, rfl, h1, h2, by omega, by omega⟩
    have i3 : ixN [D.int a, .bl b, .int m, .int j].length 3 = some 3 := rfl
    have hp2 : (g.set p (.lst [.int a, .bl b, .int m, .int (j + 1)]))[p]? = some (.lst [.int a, .bl b, .int m, .int (j + 1)]) := get_set_eq hp
    have m1 : A * (j + 1) ≤ 33554432 * 68719476737 := Int.mul_le_mul (by omega) (by omega) (by omega) (by omega)
    have m2 : 0 ≤ A * (j + 1) := Int.mul_nonneg hA (by omega)
    have m3 : C * (j + 1) ≤ 65536 * 68719476737 := Int.mul_le_mul (by omega) (by omega) (by omega) (by omega)
    have m4 : 0 ≤ C * (j + 1) := Int.mul_nonneg hC (by omega)
    generalize hx : (m + A * (j + 1) + B) ^ 5 % 2147483647 = x
    have x1 : 0 ≤ x := by rw [← hx]; exact Int.emod_nonneg _ (by decide)
    have x2 : x < 2147483647 := by rw [← hx]; exact Int.emod_lt_of_pos _ (by decide)
    refine ⟨(x * 48271 + C * (j + 1)) ^ 3 % 2147483587 / 64 % many, .lst [.int a, .bl b, .int m, .int (j + 1)], ?_, Int.emod_nonneg _ (by omega), Int.emod_lt_of_pos _ hm, hj⟩
    kit_pair [zandB_v, hp, x_ref hp, setAt_ref hp i3, hg .non, x_ref hp2, o_mul', o_pow5, o_pow3, hx, o_fdiv']

/-! ### slices -/
theorem sIx_pos {n d : Nat} {i : Int} (h : 0 ≤ i) : HT.sIx n d (some i) = min i.toNat n := by
  show (if i < 0 then _ else _) = _
  rw [if_neg (by omega)]
theorem cutD_to {α : Type} {l : List α} {i : Int} (h : 0 ≤ i) : cutD l none (some i) = l.take i.toNat := by
  unfold cutD
  rw [sIx_pos h, HT.sIx_none, List.drop_zero, Nat.sub_zero]
  by_cases h2 : i.toNat ≤ l.length
  · rw [Nat.min_eq_left h2]
  · rw [Nat.min_eq_right (by omega), List.take_of_length_le (Nat.le_refl _), List.take_of_length_le (by omega)]
theorem cutD_from {α : Type} {l : List α} {i : Int} (h : 0 ≤ i) : cutD l (some i) none = l.drop i.toNat := by
  unfold cutD
  rw [sIx_pos h, HT.sIx_none]
  by_cases h2 : i.toNat ≤ l.length
  · rw [Nat.min_eq_left h2, List.take_of_length_le (by simp)]
  · rw [Nat.min_eq_right (by omega), List.drop_of_length_le (by omega : l.length ≤ i.toNat), List.drop_of_length_le (Nat.le_refl _)]; simp
theorem cutD_ft {α : Type} {l : List α} {i j : Int} (h : 0 ≤ i) (hj : i ≤ j) : cutD l (some i) (some j) = (l.drop i.toNat).take (j.toNat - i.toNat) := by
  unfold cutD
  rw [sIx_pos h, sIx_pos (by omega)]
  by_cases h2 : i.toNat ≤ l.length
  · rw [Nat.min_eq_left h2]
    by_cases h3 : j.toNat ≤ l.length
    · rw [Nat.min_eq_left h3]
    · rw [Nat.min_eq_right (by omega), List.take_of_length_le (by simp), List.take_of_length_le (by simp; omega)]
  · rw [List.drop_of_length_le (by omega : l.length ≤ i.toNat), List.drop_of_length_le (by omega : l.length ≤ min i.toNat l.length)]; simp
theorem cutD_last {α : Type} {l : List α} : cutD l none (some (-1)) = l.dropLast := by
  unfold cutD
  have e : HT.sIx l.length l.length (some (-1)) = l.length - 1 := by
    show (if (-1 : Int) < 0 then ((-1 : Int) + (l.length : Int)).toNat else min (-1 : Int).toNat l.length) = _
    rw [if_pos (by decide)]; omega
  rw [e, HT.sIx_none, List.drop_zero, Nat.sub_zero, List.dropLast_eq_take]
theorem cutD_tail {α : Type} {l : List α} : cutD l (some (-1)) none = l.drop (l.length - 1) := by
  unfold cutD
  have e : HT.sIx l.length 0 (some (-1)) = l.length - 1 := by
    show (if (-1 : Int) < 0 then ((-1 : Int) + (l.length : Int)).toNat else min (-1 : Int).toNat l.length) = _
    rw [if_pos (by decide)]; omega
  rw [e, List.take_of_length_le (by rw [HT.sIx_none]; simp)]
theorem cutD_all {α : Type} {l : List α} : cutD l none none = l := by
  unfold cutD
  rw [HT.sIx_none, HT.sIx_none]; simp

/-! ### cells of the script, boxes -/
def cellB (C : Int) : List MS := [.ret (.ife (.op .lt [.v 1, .op .len [.v 0]]) (.op .ix [.v 0, .v 1]) (.op (.add false) [.op .mul [.k (.int C), .v 1], .op .mod [.op .int [.op .sum [.sl false (.v 0) none (some (.k (.int 1)))]], .k (.int 1000003)]]))]
theorem cell_ok {f : Nat} {C : Int} (ht : tab f = some ⟨2, 2, cellB C, true⟩) (hC : 0 ≤ C) (hC2 : C < 65536) {ns : List Int} {k : Int} (hk : 0 ≤ k) (hk2 : k < 1000) :
    ∃ i, callM tab L true (n + 1) f [.lst (ns.map D.int), .int k] g = .ok (.int i) g := by
  rw [call_at (ρ0 := [some (.lst (ns.map D.int)), some (.int k)]) ht rfl rfl]; unfold cellB
  by_cases h : k < (ns.length : Int)
  · obtain ⟨i, hi⟩ : ∃ i, ns[k.toNat]? = some i := ⟨_, List.getElem?_eq_getElem (by omega)⟩
    refine ⟨i, ?_⟩
    have e : atI (ns.map D.int) k = some (.int i) := by rw [atI_of hk (by simpa using h)]; simp [hi]
    kit_pair [List.length_map, decide_eq_true h, e, fin_pure (show noRef (.int i) = true from rfl)]
  · have e : cutD (ns.map D.int) none (some 1) = (ns.take 1).map fun i => D.int (id i) := by
      rw [cutD_to (by decide), List.map_take]; rfl
    have q : noRef (D.int (C * k + ((ns.take 1).map id).sum % 1000003)) = true := rfl
    refine ⟨C * k + ((ns.take 1).map id).sum % 1000003, ?_⟩
    have h0 : 0 ≤ C * k := Int.mul_nonneg hC hk
    kit_pair [List.length_map, decide_eq_false h, e, o_mul', fin_pure q]
def boxB : List MS := [.ret (.lst true [.op .abs [.v 0], .op .ge [.op .abs [.v 0], .op .pow [.k (.int 10), .k (.int 18)]], .op .mod [.op .int [.op .abs [.v 0]], .k (.int 2147483629)], .k (.int 0)])]
theorem box_ok {f : Nat} (ht : tab f = some ⟨1, 1, boxB, false⟩) {i : Int} : ∃ c, callM tab L calm (n + 1) f [.int i] g = .ok (.ref g.length) (g ++ [c]) ∧ BoxC 0 c := by
  rw [call_at (ρ0 := [some (.int i)]) ht rfl rfl]; unfold boxB
  refine ⟨.lst [.int (if i < 0 then -i else i), .bl (decide (1000000000000000000 ≤ (if i < 0 then -i else i))), .int ((if i < 0 then -i else i) % 2147483629), .int 0], ?_, ⟨_, _, _, _, rfl, Int.emod_nonneg _ (by decide), Int.emod_lt_of_pos _ (by decide), by decide, by decide⟩⟩
  kit_pair [o_pow1018]

/-! ### the same kind all through -/
def sameB (f : Nat) : List MS := [.ite (.or (.op .isNone [.v 1]) (.op (.isT .bool) [.v 1])) [.ret (.ife (.op .isNone [.v 1]) (.op .isNone [.v 0]) (.and (.op (.isT .bool) [.v 0]) (.op .eq [.op .isTrue [.v 0], .op .isTrue [.v 1]])))] [], .ite (.op (.isT .int) [.v 1]) [.ret (.and (.op (.isT .int) [.v 0]) (.and (.not (.op (.isT .bool) [.v 0])) (.op .eq [.op .sub [.op .int [.v 0], .v 1], .k (.int 0)])))] [], .ite (.op (.isT .str) [.v 1]) [.ret (.and (.op (.isT .str) [.v 0]) (.and (.op .eq [.op .len [.v 0], .op .len [.v 1]]) (.op .eq [.comp false [2] .rng1 [.op .len [.v 1]] (.nm 2) [.op .ne [.sl false (.v 0) (some (.v 2)) (some (.op (.add false) [.v 2, .k (.int 1)])), .op .ix [.v 1, .v 2]]] (.v 2), .lst false []])))] [], .ite (.or (.op .ne [.op (.isT .list) [.v 0], .op (.isT .list) [.v 1]]) (.op .ne [.op (.isT .tuple) [.v 0], .op (.isT .tuple) [.v 1]])) [.ret (.k (.bl false))] [], .ret (.and (.op .eq [.op .len [.v 0], .op .len [.v 1]]) (.op .eq [.comp false [2] .rng1 [.op .len [.v 1]] (.nm 2) [.not (.call f [.op .ix [.v 0, .v 2], .op .ix [.v 1, .v 2]] [] [.inl 0, .inl 1])] (.v 2), .lst false []]))]
/-- what the law takes for the same -/
def Sm (g : G) : Nat → D → D → Prop
  | 0, _, _ => False
  | k + 1, a, b => (a = b ∧ flatD b = true ∧ ∀ s, b = .str s → s.length ≤ sizeLine) ∨
      (∃ xs ys : List D, ((a = .tup xs ∧ b = .tup ys) ∨ (b = .lst ys ∧ (a = .lst xs ∨ ∃ m, a = .ref m ∧ g[m]? = some (.lst xs)))) ∧ xs.length = ys.length ∧ xs.length ≤ sizeLine ∧
        ∀ (i : Nat) (x y : D), xs[i]? = some x → ys[i]? = some y → Sm g k x y)
theorem sizeLine_eq : sizeLine = 16777216 := rfl
theorem same_ok {f : Nat} (ht : tab f = some ⟨2, 3, sameB f, true⟩) : ∀ (k : Nat) (a b : D), Sm g k a b → callM tab L true (n + k) f [a, b] g = .ok (.bl true) g
  | 0, _, _, h => h.elim
  | k + 1, a, b, h => by
    have hz := sizeLine_eq
    rw [← Nat.add_assoc, call_at (ρ0 := [some a, some b, none]) ht rfl rfl]; unfold sameB
    have q : noRef (D.bl true) = true := rfl
    rcases h with ⟨e, hf, hs⟩ | ⟨xs, ys, e, hl, hz2, hi⟩
    · subst e
      cases a with
      | non => kit_pair [fin_pure q]
      | bl b => cases b <;> kit_pair [fin_pure q, beq_self_eq_true]
      | int i => kit_pair [fin_pure q, Int.sub_self, beq_self_eq_true]
      | str s =>
        have hs' : s.length ≤ 16777216 := hs s rfl
        have hc : ∀ x ∈ (List.range ((s.length : Nat) : Int).toNat).map (fun (k : Nat) => D.int (0 + (k : Int))), ∃ ρ', bindT g (.nm 2) x [some (D.str s), some (.str s), none] = some ρ' ∧
            cturn (cf tab L true (n + k)) [.op .ne [.sl false (.v 0) (some (.v 2)) (some (.op (.add false) [.v 2, .k (.int 1)])), .op .ix [.v 1, .v 2]]] (.v 2) ρ' g = .ok none g := by
          intro x hx
          obtain ⟨j, hj, e⟩ := List.mem_map.mp hx
          subst e
          have hj2 : j < s.cps.toList.length := by
            have := List.mem_range.mp hj
            simp [Str.length] at this ⊢; omega
          refine ⟨_, rfl, ?_⟩
          rw [cturn_eq]
          have e1 : cutS s (some (0 + (j : Int))) (some (0 + (j : Int) + 1)) = ⟨#[s.cps.toList[j]]⟩ := by
            have e2 : cutS s (some (0 + (j : Int))) (some (0 + (j : Int) + 1)) = ⟨(cutD s.cps.toList (some (0 + (j : Int))) (some (0 + (j : Int) + 1))).toArray⟩ := by
              unfold cutS cutD; simp [Str.length]
            rw [e2, cutD_ft (by omega) (by omega), show (0 + (j : Int)).toNat = j by omega, show (0 + (j : Int) + 1).toNat - j = 1 by omega]
            rw [List.drop_eq_getElem_cons hj2]
            simp
          have e3 : atI s.cps.toList (0 + (j : Int)) = some s.cps.toList[j] := by
            rw [atI_of (by omega) (by simp only [Int.zero_add]; omega), show (0 + (j : Int)).toNat = j by omega, List.getElem?_eq_getElem hj2]
          kit_pair [e1, e3, x_str hs', Option.map_some, beq_self_eq_true]
        have hcm := comp_none (f := cturn (cf tab L true (n + k)) [.op .ne [.sl false (.v 0) (some (.v 2)) (some (.op (.add false) [.v 2, .k (.int 1)])), .op .ix [.v 1, .v 2]]] (.v 2)) (g := g) (tg := .nm 2) (ρ := [some (D.str s), some (.str s), none]) (w := []) stands_nil _ [] hc
        kit_pair [fin_pure q, beq_self_eq_true, sr_rng1, hcm]
      | tup _ => simp [flatD] at hf
      | lst _ => simp [flatD] at hf
      | dct _ _ => simp [flatD] at hf
      | ref _ => simp [flatD] at hf
    · have hc : ∀ (A B : D), (∀ (i : Nat), i < ys.length → ∃ x y, ixM g A (0 + (i : Int)) = some x ∧ ixM g B (0 + (i : Int)) = some y ∧ Sm g k x y) → ∀ z ∈ (List.range ((ys.length : Nat) : Int).toNat).map (fun (k : Nat) => D.int (0 + (k : Int))), ∃ ρ', bindT g (.nm 2) z [some A, some B, none] = some ρ' ∧
            cturn (cf tab L true (n + k)) [.not (.call f [.op .ix [.v 0, .v 2], .op .ix [.v 1, .v 2]] [] [.inl 0, .inl 1])] (.v 2) ρ' g = .ok none g := by
        intro A B hAB z hz3
        obtain ⟨j, hj, e⟩ := List.mem_map.mp hz3
        subst e
        have hj2 : j < ys.length := by have := List.mem_range.mp hj; omega
        obtain ⟨x, y, h1, h2, h3⟩ := hAB j hj2
        have ih := same_ok ht k x y h3
        refine ⟨_, rfl, ?_⟩
        rw [cturn_eq]
        kit_pair [h1, h2, ih]
      have hx : ∀ i, i < ys.length → ∃ x y, atI xs (0 + (i : Int)) = some x ∧ atI ys (0 + (i : Int)) = some y ∧ Sm g k x y := by
        intro i hi2
        refine ⟨xs[i]'(by omega), ys[i], ?_, ?_, hi i _ _ (List.getElem?_eq_getElem _) (List.getElem?_eq_getElem _)⟩
        · rw [atI_of (by omega) (by omega), show (0 + (i : Int)).toNat = i by omega, List.getElem?_eq_getElem]
        · rw [atI_of (by omega) (by omega), show (0 + (i : Int)).toNat = i by omega, List.getElem?_eq_getElem]
      rcases e with ⟨e1, e2⟩ | ⟨e1, e2 | ⟨m, e2, e3⟩⟩
      · subst e1; subst e2
        have hcm := comp_none (f := cturn (cf tab L true (n + k)) [.not (.call f [.op .ix [.v 0, .v 2], .op .ix [.v 1, .v 2]] [] [.inl 0, .inl 1])] (.v 2)) (g := g) (tg := .nm 2) (ρ := [some (D.tup xs), some (.tup ys), none]) (w := []) stands_nil _ [] (hc _ _ fun i hi2 => hx i hi2)
        kit_pair [fin_pure q, hl, beq_self_eq_true, sr_rng1, hcm]
      · subst e1; subst e2
        have hcm := comp_none (f := cturn (cf tab L true (n + k)) [.not (.call f [.op .ix [.v 0, .v 2], .op .ix [.v 1, .v 2]] [] [.inl 0, .inl 1])] (.v 2)) (g := g) (tg := .nm 2) (ρ := [some (D.lst xs), some (.lst ys), none]) (w := []) stands_nil _ [] (hc _ _ fun i hi2 => hx i hi2)
        kit_pair [fin_pure q, hl, beq_self_eq_true, sr_rng1, hcm]
      · subst e1; subst e2
        have hcm := comp_none (f := cturn (cf tab L true (n + k)) [.not (.call f [.op .ix [.v 0, .v 2], .op .ix [.v 1, .v 2]] [] [.inl 0, .inl 1])] (.v 2)) (g := g) (tg := .nm 2) (ρ := [some (D.ref m), some (.lst ys), none]) (w := []) stands_nil _ [] (hc _ _ fun i hi2 => by rw [x_ref e3]; exact hx i hi2)
        kit_pair [fin_pure q, hl, beq_self_eq_true, sr_rng1, hcm, is_list_rl e3, is_tuple_rl e3, o_len_ref e3]

/-- a comprehension that draws -/
theorem comp_draw {f : Env → G → R (Option D)} {tg : Tgt} {ρ : Env} {g : G} {p : Nat} {k δ : Int} (P : D → Prop) (hp : p < g.length) (xs : List D) (hδ : 0 ≤ δ) (hl : xs.length ≤ sizeLine)
    (step : ∀ x ∈ xs, ∀ c j, k ≤ j → j ≤ k + δ * xs.length → BoxC j c → ∃ ρ', bindT (g.set p c) tg x ρ = some ρ' ∧ ∃ d c', f ρ' (g.set p c) = .ok (some d) (g.set p c') ∧ P d ∧ BoxC (j + δ) c') (c0 : Cell) (h0 : BoxC k c0) :
    ∃ ds c1, compM f tg ρ [] xs [] (g.set p c0) = .ok ds (g.set p c1) ∧ ds.length = xs.length ∧ (∀ d ∈ ds, P d) ∧ BoxC (k + δ * xs.length) c1 := by
  have key : ∀ (ys acc : List D) (c : Cell), (∀ y ∈ ys, y ∈ xs) → acc.length + ys.length = xs.length → (∀ d ∈ acc, P d) → BoxC (k + δ * acc.length) c →
      ∃ ds c1, compM f tg ρ [] ys acc (g.set p c) = .ok ds (g.set p c1) ∧ ds.length = xs.length ∧ (∀ d ∈ ds, P d) ∧ BoxC (k + δ * xs.length) c1 := by
    intro ys
    induction ys with
    | nil =>
      intro acc c _ hl hP hb
      simp only [List.length_nil, Nat.add_zero] at hl
      exact ⟨acc, c, by simp [compM, stands_nil], hl, hP, by rw [← hl]; exact hb⟩
    | cons y ys ih =>
      intro acc c hm hl2 hP hb
      simp only [List.length_cons] at hl2
      have hle : δ * (acc.length : Int) ≤ δ * (xs.length : Int) := Int.mul_le_mul_of_nonneg_left (by omega) hδ
      have hge : 0 ≤ δ * (acc.length : Int) := Int.mul_nonneg hδ (by omega)
      obtain ⟨ρ', h1, d, c', h2, h3, h4⟩ := step y (hm y (by simp)) c (k + δ * acc.length) (by omega) (by omega) hb
      have h5 := ih (acc ++ [d]) c' (fun z hz => hm z (by simp [hz])) (by simp; omega) (by
        intro z hz
        rcases List.mem_append.mp hz with hz | hz
        · exact hP z hz
        · simp at hz; subst hz; exact h3) (by
        have e : k + δ * ((acc ++ [d]).length : Int) = k + δ * (acc.length : Int) + δ := by
          simp [Int.mul_add]; omega
        rw [e]; exact h4)
      obtain ⟨ds, c1, e, r⟩ := h5
      refine ⟨ds, c1, ?_, r⟩
      unfold compM
      rw [if_pos stands_nil, h1]
      simp only [h2]
      rw [if_pos (by omega)]
      exact e
  exact key xs [] c0 (fun y h => h) (by simp) (by simp) (by simpa using h0)
theorem all_map {α : Type} {v : α → D} {Q : α → Prop} : ∀ (ds : List D), (∀ d ∈ ds, ∃ a, Q a ∧ d = v a) → ∃ l : List α, ds = l.map v ∧ ∀ a ∈ l, Q a
  | [], _ => ⟨[], rfl, by simp⟩
  | d :: ds, h => by
    obtain ⟨a, ha, e⟩ := h d (by simp)
    obtain ⟨l, e2, hl⟩ := all_map ds (fun x hx => h x (by simp [hx]))
    refine ⟨a :: l, by rw [e, e2]; rfl, ?_⟩
    intro b hb
    rcases List.mem_cons.mp hb with e | hb
    · rw [e]; exact ha
    · exact hl b hb
end
end M3.EvM
/-! L3Txt: texts by their signs -/
namespace M3.EvM
open PySem L2
theorem find_one {p q : List Nat} {c : Nat} (h : c ∉ p) : Txt.find (sL (p ++ c :: q)) (sL [c]) = (p.length : Int) := by
  have hp : Txt.partition (sL (p ++ c :: q)) (sL [c]) = (sL p, sL [c], sL q) := SX.partition_some (List.cons_ne_nil c []) (SX.par_head (sep := []) q h)
  have hc : (!(Builtin.Str.occurrences (sL (p ++ c :: q)) (sL [c]) 0 (sL (p ++ c :: q)).length 1).isEmpty) = true := by
    rw [show sL [c] = ⟨#[c]⟩ from rfl, PySem.StrLaws.found_one, sL_cps]; simp
  unfold Txt.partition at hp
  unfold Txt.find
  cases ho : Builtin.Str.occurrences (sL (p ++ c :: q)) (sL [c]) 0 (sL (p ++ c :: q)).length 1 with
  | nil => rw [ho] at hc; simp at hc
  | cons i r =>
    rw [ho] at hp
    simp only [Prod.mk.injEq] at hp
    have h1 := congrArg (fun s : Str => s.cps.toList.length) hp.1
    have hi := (PySem.StrLaws.occ_spec (sL (p ++ c :: q)) (sL [c]) 0 (sL (p ++ c :: q)).length 1 i (by rw [ho]; simp)).1
    simp only [sL_len, List.length_append, List.length_cons] at hi
    simp only []
    have h2 : (Builtin.Str.strSub (sL (p ++ c :: q)) 0 i).cps.toList.length = i := by
      unfold Builtin.Str.strSub
      simp [sL]; omega
    rw [h2, sL_cps] at h1
    omega
theorem part_one {p q : List Nat} {c : Nat} (h : c ∉ p) : Txt.partition (sL (p ++ c :: q)) (sL [c]) = (sL p, sL [c], sL q) := SX.partition_some (List.cons_ne_nil c []) (SX.par_head (sep := []) q h)
theorem part_none {p : List Nat} {c : Nat} (h : c ∉ p) : Txt.partition (sL p) (sL [c]) = (sL p, sL [], sL []) := SX.partition_none (List.cons_ne_nil c []) (TL.par_none1 h)
theorem join_nil (ls : List (List Nat)) : Txt.join (sL []) (ls.map sL) = sL ls.flatten := by
  have h := SX.join_S [] ls
  have e : TL.joinL [] ls = ls.flatten := by
    induction ls with
    | nil => rfl
    | cons a r ih => cases r with
      | nil => simp [TL.joinL]
      | cons b r =>
        show a ++ ([] ++ TL.joinL [] (b :: r)) = _
        rw [ih (SX.join_S [] (b :: r))]; simp
  rw [e] at h
  exact h
/-- a text's first blank -/
theorem split_at {l : List Nat} {c : Nat} (h : c ∈ l) : ∃ p q, l = p ++ c :: q ∧ c ∉ p := by
  induction l with
  | nil => simp at h
  | cons a r ih =>
    by_cases e : c = a
    · exact ⟨[], r, by simp [e], by simp⟩
    · obtain ⟨p, q, h1, h2⟩ := ih (by simpa [e] using h)
      exact ⟨a :: p, q, by simp [h1], by simp [e, h2]⟩
theorem num_sL (n : Nat) : Str.ofString (toString ((n : Nat) : Int)) = sL (TL.numL n) := SX.num_S n
theorem int_sL {a : List Nat} (h : NumText.AllDigits a) (hne : a ≠ []) (hl : a.length ≤ 4300) : PySem.intText? (sL a) = some ((NumText.digitsVal a : Nat) : Int) := by
  refine PySem.intText_digits ?_ ?_ ?_
  · rw [sL_cps]; exact h
  · rw [sL_cps]; exact hne
  · rw [sL_len]; exact hl
theorem int_neg {a : List Nat} (h : NumText.AllDigits a) (hne : a ≠ []) (hl : a.length < 4300) : PySem.intText? (sL (45 :: a)) = some (-((NumText.digitsVal a : Nat) : Int)) := by
  refine PySem.intText_neg (cs := a) ?_ h hne ?_
  · rw [sL_cps]
  · rw [sL_len]; simp; omega
end M3.EvM
namespace K57
open PySem L2 M3
def top (i : Nat) : Stmt := PySem.Challenge.pw_streamrows_k57_stores_and_sealed_lines.main.body.getD i (.Pass ⟨0, 0, 0, 0⟩)
/-- is_whole -/
abbrev d0 : Stmt := top 6
def n0 : List Str := ["thing", "low", "high"]
abbrev q0 : List Str := ["thing", "low", "high"]
def b0 : List MS := [.ite (.or (.not (.op (.isT .int) [.v 0])) (.op (.isT .bool) [.v 0])) [.ret (.k (.bl false))] [], .ret (.and (.or (.op .isNone [.v 1]) (.op .le [.v 1, .v 0])) (.or (.op .isNone [.v 2]) (.op .le [.v 0, .v 2])))]
/-- number_in -/
abbrev d1 : Stmt := top 7
def n1 : List Str := ["thing", "least", "most", "figures", "number", "sign"]
abbrev q1 : List Str := ["thing", "least", "most"]
def b1 : List MS := [.ite (.not (.op (.isT .str) [.v 0])) [.ret (.k .non)] [], .asg 3 (.ife (.op .eq [.sl false (.v 0) none (some (.k (.int 1))), .k (.str "-")]) (.sl false (.v 0) (some (.k (.int 1))) none) (.v 0)), .ite (.or (.op .eq [.v 3, .k (.str "")]) (.not (.op .all [.comp false [5] .seq [.v 3] (.nm 5) [] (.op .isin [.v 5, .k (.str "0123456789")])]))) [.ret (.k .non)] [], .ite (.and (.op .eq [.op .ix [.v 3, .k (.int 0)], .k (.str "0")]) (.op .ne [.v 0, .k (.str "0")])) [.ret (.k .non)] [], .asg 4 (.op .int [.v 0]), .ret (.ife (.call 0 [.v 4, .v 1, .v 2] [] [.inl 0, .inl 1, .inl 2]) (.v 4) (.k .non))]
/-- need_line -/
abbrev d2 : Stmt := top 10
def n2 : List Str := ["thing"]
abbrev q2 : List Str := ["thing"]
def b2 : List MS := [.ite (.or (.not (.op (.isT .str) [.v 0])) (.op .isin [.k (.str "\n"), .v 0])) [.raise 2 ["found"] [.v 0]] []]
/-- Store.__init__ -/
abbrev d3 : Stmt := inClass (top 11) 0
def n3 : List Str := ["self"]
abbrev q3 : List Str := ["self"]
def b3 : List MS := [.fset 0 (.v 0) "all_lines" (.lst true []), .fset 0 (.v 0) "many_safe" (.k (.int 0))]
/-- Store.write -/
abbrev d4 : Stmt := inClass (top 11) 1
def n4 : List Str := ["self", "line"]
abbrev q4 : List Str := ["self", "line"]
def b4 : List MS := [.ex (.call 2 [.v 1] [] [.inl 0]), .ex (.bm .append (.fld 0 "all_lines" (.v 0)) [.v 1])]
/-- Store.sync -/
abbrev d5 : Stmt := inClass (top 11) 2
def n5 : List Str := ["self"]
abbrev q5 : List Str := ["self"]
def b5 : List MS := [.fset 0 (.v 0) "many_safe" (.op .len [.fld 0 "all_lines" (.v 0)])]
/-- Store.lines -/
abbrev d6 : Stmt := inClass (top 11) 3
def n6 : List Str := ["self"]
abbrev q6 : List Str := ["self"]
def b6 : List MS := [.ret (.op (.list true) [.fld 0 "all_lines" (.v 0)])]
/-- Store.safe -/
abbrev d7 : Stmt := inClass (top 11) 4
def n7 : List Str := ["self"]
abbrev q7 : List Str := ["self"]
def b7 : List MS := [.ret (.fld 0 "many_safe" (.v 0))]
/-- Store.crash -/
abbrev d8 : Stmt := inClass (top 11) 5
def n8 : List Str := ["self", "many", "cut", "unsafe", "torn", "line"]
abbrev q8 : List Str := ["self", "many", "cut"]
def b8 : List MS := [.asg 3 (.sl false (.fld 0 "all_lines" (.v 0)) (some (.fld 0 "many_safe" (.v 0))) none), .ite (.not (.call 0 [.v 1, .k (.int 0), .op .len [.v 3]] [] [.inl 0, .inl 1, .inl 2])) [.raise 1 ["found"] [.v 1]] [], .asg 4 (.sl false (.v 3) (some (.v 1)) (some (.op (.add false) [.v 1, .k (.int 1)]))), .ite (.not (.call 0 [.v 2, .k (.int 0), .op .sum [.comp false [5] .seq [.v 4] (.nm 5) [] (.op .len [.v 5])]] [] [.inl 0, .inl 1, .inl 2])) [.raise 1 ["found"] [.v 2]] [], .fset 0 (.v 0) "all_lines" (.sl true (.fld 0 "all_lines" (.v 0)) none (some (.op (.add false) [.fld 0 "many_safe" (.v 0), .v 1]))), .ite (.op .gt [.v 2, .k (.int 0)]) [.ex (.bm .append (.fld 0 "all_lines" (.v 0)) [.sl false (.op .ix [.v 4, .k (.int 0)]) none (some (.v 2))])] [], .fset 0 (.v 0) "many_safe" (.op .len [.fld 0 "all_lines" (.v 0)])]
/-- Store.keep -/
abbrev d9 : Stmt := inClass (top 11) 6
def n9 : List Str := ["self", "many"]
abbrev q9 : List Str := ["self", "many"]
def b9 : List MS := [.ite (.not (.call 0 [.v 1, .k (.int 0), .op .len [.fld 0 "all_lines" (.v 0)]] [] [.inl 0, .inl 1, .inl 2])) [.raise 1 ["found"] [.v 1]] [], .fset 0 (.v 0) "all_lines" (.sl true (.fld 0 "all_lines" (.v 0)) none (some (.v 1))), .fset 0 (.v 0) "many_safe" (.v 1)]
/-- Store.copied -/
abbrev d10 : Stmt := inClass (top 11) 7
def n10 : List Str := ["self", "other"]
abbrev q10 : List Str := ["self"]
def b10 : List MS := [.asg 1 (.mk 0 3 [] [] [.inl 0]), .fset 0 (.v 1) "all_lines" (.op (.list true) [.fld 0 "all_lines" (.v 0)]), .fset 0 (.v 1) "many_safe" (.fld 0 "many_safe" (.v 0)), .ret (.v 1)]
/-- sealed -/
abbrev d11 : Stmt := top 12
def n11 : List Str := ["line"]
abbrev q11 : List Str := ["line"]
def b11 : List MS := [.ex (.call 2 [.v 0] [] [.inl 0]), .ret (.js [.op .fs [.op .len [.v 0]], .k (.str " "), .op .fs [.v 0], .op .fs [.k (.str ".")]])]
/-- opened -/
abbrev d12 : Stmt := top 13
def n12 : List Str := ["text", "head", "blank", "line", "many"]
abbrev q12 : List Str := ["text"]
def b12 : List MS := [.ite (.not (.op (.isT .str) [.v 0])) [.ret (.k .non)] [], .asgT [1, 2, 3] (.bm .partition (.v 0) [.k (.str " ")]), .asg 4 (.call 1 [.v 1] [.k (.int 0)] [.inl 0, .inl 1, .inr .non]), .ite (.or (.op .isNone [.v 4]) (.or (.op .eq [.v 2, .k (.str "")]) (.or (.op .ne [.op .len [.v 3], .op (.add false) [.v 4, .k (.int 1)]]) (.or (.op .ne [.op .ix [.v 3, .op .neg [.k (.int 1)]], .k (.str ".")]) (.op .isin [.k (.str "\n"), .v 3]))))) [.ret (.k .non)] [], .ret (.sl false (.v 3) none (some (.op .neg [.k (.int 1)])))]
/-- _law_cell -/
abbrev d13 : Stmt := top 15
def n13 : List Str := ["script", "k"]
abbrev q13 : List Str := ["script", "k"]
def b13 : List MS := [.ret (.ife (.op .lt [.v 1, .op .len [.v 0]]) (.op .ix [.v 0, .v 1]) (.op (.add false) [.op .mul [.k (.int 8191), .v 1], .op .mod [.op .int [.op .sum [.sl false (.v 0) none (some (.k (.int 1)))]], .k (.int 1000003)]]))]
/-- _law_box -/
abbrev d14 : Stmt := top 16
def n14 : List Str := ["great"]
abbrev q14 : List Str := ["great"]
def b14 : List MS := [.ret (.lst true [.op .abs [.v 0], .op .ge [.op .abs [.v 0], .op .pow [.k (.int 10), .k (.int 18)]], .op .mod [.op .int [.op .abs [.v 0]], .k (.int 2147483629)], .k (.int 0)])]
/-- _law_take -/
abbrev d15 : Stmt := top 17
def n15 : List Str := ["box", "many", "mixed", "digit"]
abbrev q15 : List Str := ["box", "many"]
def b15 : List MS := [.ite (.and (.op .ix [.v 0, .k (.int 1)]) (.op .gt [.op .ix [.v 0, .k (.int 0)], .k (.int 0)])) [.asg 3 (.op .mod [.op .int [.op .ix [.v 0, .k (.int 0)]], .v 1]), .iset (.v 0) (.k (.int 0)) (.op .fdiv [.op .ix [.v 0, .k (.int 0)], .v 1]), .ret (.v 3)] [], .iset (.v 0) (.k (.int 3)) (.op (.add false) [.op .ix [.v 0, .k (.int 3)], .k (.int 1)]), .asg 2 (.op .mod [.op .int [.op .pow [.op (.add false) [.op (.add false) [.op .ix [.v 0, .k (.int 2)], .op .mul [.k (.int 15486209), .op .ix [.v 0, .k (.int 3)]]], .k (.int 179425097)], .k (.int 5)]], .k (.int 2147483647)]), .ret (.op .mod [.op .int [.op .fdiv [.op .mod [.op .int [.op .pow [.op (.add false) [.op .mul [.v 2, .k (.int 48271)], .op .mul [.k (.int 8191), .op .ix [.v 0, .k (.int 3)]]], .k (.int 3)]], .k (.int 2147483587)], .k (.int 64)]], .v 1])]
/-- _law_same -/
abbrev d16 : Stmt := top 18
def n16 : List Str := ["given", "due", "k"]
abbrev q16 : List Str := ["given", "due"]
def b16 : List MS := [.ite (.or (.op .isNone [.v 1]) (.op (.isT .bool) [.v 1])) [.ret (.ife (.op .isNone [.v 1]) (.op .isNone [.v 0]) (.and (.op (.isT .bool) [.v 0]) (.op .eq [.op .isTrue [.v 0], .op .isTrue [.v 1]])))] [], .ite (.op (.isT .int) [.v 1]) [.ret (.and (.op (.isT .int) [.v 0]) (.and (.not (.op (.isT .bool) [.v 0])) (.op .eq [.op .sub [.op .int [.v 0], .v 1], .k (.int 0)])))] [], .ite (.op (.isT .str) [.v 1]) [.ret (.and (.op (.isT .str) [.v 0]) (.and (.op .eq [.op .len [.v 0], .op .len [.v 1]]) (.op .eq [.comp false [2] .rng1 [.op .len [.v 1]] (.nm 2) [.op .ne [.sl false (.v 0) (some (.v 2)) (some (.op (.add false) [.v 2, .k (.int 1)])), .op .ix [.v 1, .v 2]]] (.v 2), .lst false []])))] [], .ite (.or (.op .ne [.op (.isT .list) [.v 0], .op (.isT .list) [.v 1]]) (.op .ne [.op (.isT .tuple) [.v 0], .op (.isT .tuple) [.v 1]])) [.ret (.k (.bl false))] [], .ret (.and (.op .eq [.op .len [.v 0], .op .len [.v 1]]) (.op .eq [.comp false [2] .rng1 [.op .len [.v 1]] (.nm 2) [.not (.call 16 [.op .ix [.v 0, .v 2], .op .ix [.v 1, .v 2]] [] [.inl 0, .inl 1])] (.v 2), .lst false []]))]
/-- _law_grown -/
abbrev d17 : Stmt := top 20
def n17 : List Str := ["value", "item"]
abbrev q17 : List Str := ["value"]
def b17 : List MS := [.ite (.op (.isT .list) [.v 0]) [.ex (.bm .append (.v 0) [.k (.str "more")])] [], .ite (.op (.isT .tuple) [.v 0]) [.for_ (.nm 1) .seq [.v 0] [.ex (.call 17 [.v 1] [] [.inl 0])]] [], .ret (.op .repr [.v 0])]
/-- _law_line -/
abbrev d18 : Stmt := top 21
def n18 : List Str := ["box", "k"]
abbrev q18 : List Str := ["box"]
def b18 : List MS := [.ret (.bm .join (.k (.str "")) [.comp false [1] .rng1 [.op .ix [.lst false [.k (.int 0), .k (.int 1), .k (.int 2), .k (.int 5), .k (.int 12), .call 15 [.v 0, .k (.int 60)] [] [.inl 0, .inl 1]], .call 15 [.v 0, .k (.int 6)] [] [.inl 0, .inl 1]]] (.nm 1) [] (.op .ix [.k (.str "ab 0.1Z,-"), .call 15 [.v 0, .k (.int 9)] [] [.inl 0, .inl 1]])])]
/-- _law_opened -/
abbrev d19 : Stmt := top 22
def n19 : List Str := ["value", "head", "line", "sign"]
abbrev q19 : List Str := ["value"]
def b19 : List MS := [.ite (.or (.not (.op (.isT .str) [.v 0])) (.or (.op .isin [.k (.str "\n"), .v 0]) (.op .notin [.k (.str " "), .v 0]))) [.ret (.k .non)] [], .par [1, 2] [.sl false (.v 0) none (some (.bm .sindex (.v 0) [.k (.str " ")])), .sl false (.v 0) (some (.op (.add false) [.bm .sindex (.v 0) [.k (.str " ")], .k (.int 1)])) none], .ite (.or (.op .eq [.v 1, .k (.str "")]) (.or (.op .ne [.comp false [3] .seq [.v 1] (.nm 3) [.op .notin [.v 3, .k (.str "0123456789")]] (.v 3), .lst false []]) (.and (.op .eq [.op .ix [.v 1, .k (.int 0)], .k (.str "0")]) (.op .ne [.v 1, .k (.str "0")])))) [.ret (.k .non)] [], .ite (.or (.op .gt [.op .len [.v 1], .k (.int 6)]) (.or (.op .ne [.op .len [.v 2], .op (.add false) [.op .int [.v 1], .k (.int 1)]]) (.op .ne [.sl false (.v 2) (some (.op .neg [.k (.int 1)])) none, .k (.str ".")]))) [.ret (.k .non)] [], .ret (.sl false (.v 2) none (some (.op .neg [.k (.int 1)])))]
/-- _law_seals_right -/
abbrev d20 : Stmt := top 23
def n20 : List Str := ["box", "line", "due", "at", "other", "texts", "value", "kind", "k", "text", "e"]
abbrev q20 : List Str := ["box"]
def b20 : List MS := [.asg 1 (.call 18 [.v 0] [] [.inl 0]), .asg 2 (.op (.add false) [.op (.add false) [.op (.add false) [.op .str [.op .len [.v 1]], .k (.str " ")], .v 1], .k (.str ".")]), .ite (.or (.not (.call 16 [.call 11 [.v 1] [] [.inl 0], .v 2] [] [.inl 0, .inl 1])) (.or (.not (.call 16 [.call 11 [] [.v 1] [.inl 0], .v 2] [] [.inl 0, .inl 1])) (.not (.call 16 [.call 12 [.v 2] [] [.inl 0], .v 1] [] [.inl 0, .inl 1])))) [.ret (.k (.bl false))] [], .ite (.op .ne [.comp false [8] .rng1 [.op .len [.v 2]] (.nm 8) [.op .notNone [.call 12 [.sl false (.v 2) none (some (.v 8))] [] [.inl 0]]] (.v 8), .lst false []]) [.ret (.k (.bl false))] [], .par [3, 4] [.call 15 [.v 0, .op .len [.v 2]] [] [.inl 0, .inl 1], .call 18 [.v 0] [] [.inl 0]], .asg 5 (.lst false [.op (.add false) [.v 2, .k (.str ".")], .op (.add false) [.v 2, .k (.str " ")], .op (.add false) [.k (.str " "), .v 2], .op (.add false) [.k (.str "0"), .v 2], .op (.add false) [.k (.str "-"), .v 2], .op (.add false) [.k (.str "+"), .v 2], .sl false (.v 2) (some (.k (.int 1))) none, .bm .upper (.v 2) [], .op (.add false) [.v 2, .k (.str "\n")], .op (.add false) [.v 2, .v 2]]), .asg 5 (.op (.add false) [.v 5, .lst false [.op (.add false) [.sl false (.v 2) none (some (.v 3)), .sl false (.v 2) (some (.op (.add false) [.v 3, .k (.int 1)])) none], .op (.add false) [.op (.add false) [.sl false (.v 2) none (some (.v 3)), .k (.str ".")], .sl false (.v 2) (some (.v 3)) none], .op (.add false) [.op (.add false) [.sl false (.v 2) none (some (.v 3)), .k (.str "1")], .sl false (.v 2) (some (.op (.add false) [.v 3, .k (.int 1)])) none], .op (.add false) [.op (.add false) [.op .str [.op .len [.v 1]], .v 1], .k (.str ".")]]]), .asg 5 (.op (.add false) [.v 5, .lst false [.op (.add false) [.op (.add false) [.op (.add false) [.op .str [.op (.add false) [.op .len [.v 1], .k (.int 1)]], .k (.str " ")], .v 1], .k (.str "..")], .v 4, .call 11 [.v 4] [] [.inl 0], .op (.add false) [.op (.add false) [.op (.add false) [.op .str [.op .len [.v 1]], .k (.str "  ")], .v 1], .k (.str ".")], .k (.str "0 ."), .k (.str "1 .."), .k (.str "0 "), .k (.str ".")]]), .asg 5 (.op (.add false) [.v 5, .lst false [.k .non, .k (.int 0), .k (.bl true), .tup [.v 2], .lst false [.v 2], .dct false [] [], .op .len [.v 1], .k (.str ""), .k (.str "1 \n."), .k (.str "two ab."), .k (.str "1_0 0123456789.")]]), .ite (.op .ne [.comp false [9] .seq [.v 5] (.nm 9) [.or (.not (.call 16 [.call 12 [.v 9] [] [.inl 0], .call 19 [.v 9] [] [.inl 0]] [] [.inl 0, .inl 1])) (.not (.call 16 [.call 12 [] [.v 9] [.inl 0], .call 19 [.v 9] [] [.inl 0]] [] [.inl 0, .inl 1]))] (.v 9), .lst false []]) [.ret (.k (.bl false))] [], .for_ (.nm 6) .seq [.lst false [.k .non, .k (.int 0), .k (.bl true), .lst true [.v 1], .tup [.v 1], .dct false [] [], .op (.add false) [.v 1, .k (.str "\n")], .k (.str "\n"), .k (.int 1)]] [.for_ (.nm 7) .rng1 [.k (.int 2)] [.try_ [.ex (.ife (.op .eq [.v 7, .k (.int 0)]) (.call 11 [.v 6] [] [.inl 0]) (.meth 0 4 "write" (.mk 0 3 [] [] [.inl 0]) [] [.v 6] [.inl 0, .inl 1])), .ret (.k (.bl false))] [1, 2] [[2]] [some 10] [[.ite (.or (.not (.eis 10 [1, 2])) (.op .ne [.call 17 [.v 6] [] [.inl 0], .op .repr [.efld 10 "found"]])) [.ret (.k (.bl false))] []]]]], .ret (.k (.bl true))]
/-- _law_shown_right -/
abbrev d21 : Stmt := top 24
def n21 : List Str := ["store", "lines", "safe", "found"]
abbrev q21 : List Str := ["store", "lines", "safe"]
def b21 : List MS := [.asg 3 (.meth 0 6 "lines" (.v 0) [] [] [.inl 0]), .ite (.or (.not (.call 16 [.v 3, .v 1] [] [.inl 0, .inl 1])) (.not (.call 16 [.meth 0 7 "safe" (.v 0) [] [] [.inl 0], .v 2] [] [.inl 0, .inl 1]))) [.ret (.k (.bl false))] [], .ex (.bm .insert (.v 3) [.k (.int 0), .k (.str "more")]), .ret (.call 16 [.meth 0 6 "lines" (.v 0) [] [] [.inl 0], .v 1] [] [.inl 0, .inl 1])]
/-- _law_refused -/
abbrev d22 : Stmt := top 25
def n22 : List Str := ["store", "kind", "args", "e"]
abbrev q22 : List Str := ["store", "kind", "args"]
def b22 : List MS := [.try_ [.ite (.op .eq [.v 1, .k (.int 0)]) [.ex (.meth 0 8 "crash" (.v 0) [] [.op .ix [.v 2, .k (.int 0)], .op .ix [.v 2, .k (.int 1)]] [.inl 0, .inl 1, .inl 2])] [.ex (.meth 0 9 "keep" (.v 0) [.op .ix [.v 2, .k (.int 0)]] [] [.inl 0, .inl 1])]] [1, 2] [[1]] [some 3] [[.ret (.lst false [.k (.str "number"), .efld 3 "found"])]], .ret (.lst false [.k (.str "told"), .k .non])]
/-- _law_refusals_right -/
abbrev d23 : Stmt := top 26
def n23 : List Str := ["store", "lines", "safe", "rest", "asks", "many", "kind", "args", "at", "size", "found", "value"]
abbrev q23 : List Str := ["store", "lines", "safe"]
def b23 : List MS := [.asg 3 (.op .sub [.op .len [.v 1], .v 2]), .asg 4 (.comp false [11] .seq [.lst false [.op .neg [.k (.int 1)], .op (.add false) [.v 3, .k (.int 1)], .k .non, .k (.bl true), .k (.bl false), .k (.str "0"), .lst true [.k (.int 0)], .tup [.k (.int 0)], .dct false [] []]] (.nm 11) [] (.lst false [.k (.int 0), .lst false [.v 11, .op .neg [.k (.int 5)]], .k (.int 0)])), .for_ (.nm 5) .rng1 [.op (.add false) [.v 3, .k (.int 1)]] [.asg 9 (.ife (.op .lt [.v 5, .v 3]) (.op .len [.op .ix [.v 1, .op (.add false) [.v 2, .v 5]]]) (.k (.int 0))), .asg 4 (.op (.add false) [.v 4, .comp false [11] .seq [.lst false [.op (.add false) [.v 9, .k (.int 1)], .op .neg [.k (.int 1)], .k .non, .k (.bl true), .k (.str "0"), .lst true [.k (.int 1)]]] (.nm 11) [] (.lst false [.k (.int 0), .lst false [.v 5, .v 11], .k (.int 1)])])], .asg 4 (.op (.add false) [.v 4, .comp false [11] .seq [.lst false [.op .neg [.k (.int 1)], .op (.add false) [.op .len [.v 1], .k (.int 1)], .k .non, .k (.bl true), .k (.bl false), .k (.str "1"), .lst true [.k (.int 0)], .tup [.k (.int 0)]]] (.nm 11) [] (.lst false [.k (.int 1), .lst false [.v 11], .k (.int 0)])]), .for_ (.tp [6, 7, 8]) .seq [.v 4] [.asg 10 (.call 22 [.v 0, .v 6, .v 7] [] [.inl 0, .inl 1, .inl 2]), .ite (.or (.op .ne [.op .ix [.v 10, .k (.int 0)], .k (.str "number")]) (.op .ne [.call 17 [.op .ix [.v 7, .v 8]] [] [.inl 0], .op .repr [.op .ix [.v 10, .k (.int 1)]]])) [.ret (.k (.bl false))] []], .ret (.call 21 [.v 0, .v 1, .v 2] [] [.inl 0, .inl 1, .inl 2])]
/-- _law_store_right -/
abbrev d24 : Stmt := top 27
def n24 : List Str := ["box", "store", "lines", "safe", "turn", "way", "rest", "line", "done", "other", "many", "torn", "cut"]
abbrev q24 : List Str := ["box"]
def b24 : List MS := [.par [1, 2, 3] [.mk 0 3 [] [] [.inl 0], .lst false [], .k (.int 0)], .for_ (.nm 4) .rng1 [.op (.add false) [.k (.int 6), .call 15 [.v 0, .k (.int 18)] [] [.inl 0, .inl 1]]] [.asg 5 (.call 15 [.v 0, .k (.int 9)] [] [.inl 0, .inl 1]), .asg 6 (.op .sub [.op .len [.v 2], .v 3]), .ite (.op .lt [.v 5, .k (.int 4)]) [.asg 7 (.call 18 [.v 0] [] [.inl 0]), .asg 2 (.op (.add false) [.v 2, .lst false [.v 7]]), .asg 8 (.ife (.op .lt [.v 5, .k (.int 3)]) (.meth 0 4 "write" (.v 1) [.v 7] [] [.inl 0, .inl 1]) (.meth 0 4 "write" (.v 1) [] [.v 7] [.inl 0, .inl 1]))] [.ite (.op .eq [.v 5, .k (.int 4)]) [.par [3, 8] [.op .len [.v 2], .meth 0 5 "sync" (.v 1) [] [] [.inl 0]]] [.ite (.op .eq [.v 5, .k (.int 5)]) [.asg 9 (.meth 0 10 "copied" (.v 1) [] [] [.inl 0]), .ite (.not (.call 21 [.v 9, .v 2, .v 3] [] [.inl 0, .inl 1, .inl 2])) [.ret (.k (.bl false))] [], .ex (.meth 0 4 "write" (.v 9) [.k (.str "apart")] [] [.inl 0, .inl 1]), .ex (.meth 0 5 "sync" (.v 9) [] [] [.inl 0]), .ex (.meth 0 9 "keep" (.v 9) [.k (.int 0)] [] [.inl 0, .inl 1]), .asg 8 (.k .non)] [.ite (.op .eq [.v 5, .k (.int 6)]) [.asg 10 (.call 15 [.v 0, .op (.add false) [.op .len [.v 2], .k (.int 1)]] [] [.inl 0, .inl 1]), .par [2, 3, 8] [.sl false (.v 2) none (some (.v 10)), .v 10, .meth 0 9 "keep" (.v 1) [] [.v 10] [.inl 0, .inl 1]]] [.asg 10 (.call 15 [.v 0, .op (.add false) [.v 6, .k (.int 1)]] [] [.inl 0, .inl 1]), .asg 11 (.sl false (.v 2) (some (.op (.add false) [.v 3, .v 10])) (some (.op (.add false) [.op (.add false) [.v 3, .v 10], .k (.int 1)]))), .asg 12 (.op .ix [.lst false [.k (.int 0), .op .len [.bm .join (.k (.str "")) [.v 11]], .call 15 [.v 0, .op (.add false) [.op .len [.bm .join (.k (.str "")) [.v 11]], .k (.int 1)]] [] [.inl 0, .inl 1]], .call 15 [.v 0, .k (.int 3)] [] [.inl 0, .inl 1]]), .asg 8 (.ife (.op .eq [.v 5, .k (.int 7)]) (.meth 0 8 "crash" (.v 1) [.v 10, .v 12] [] [.inl 0, .inl 1, .inl 2]) (.meth 0 8 "crash" (.v 1) [] [.v 12, .v 10] [.inl 0, .inl 2, .inl 1])), .asg 2 (.op (.add false) [.sl false (.v 2) none (some (.op (.add false) [.v 3, .v 10])), .ife (.op .gt [.v 12, .k (.int 0)]) (.lst false [.sl false (.op .ix [.v 11, .k (.int 0)]) none (some (.v 12))]) (.lst false [])]), .asg 3 (.op .len [.v 2])]]]], .ite (.or (.op .notNone [.v 8]) (.not (.call 21 [.v 1, .v 2, .v 3] [] [.inl 0, .inl 1, .inl 2]))) [.ret (.k (.bl false))] []], .ret (.call 23 [.v 1, .v 2, .v 3] [] [.inl 0, .inl 1, .inl 2])]
/-- law -/
abbrev d25 : Stmt := top 28
def n25 : List Str := ["script", "k", "box"]
abbrev q25 : List Str := ["script"]
def b25 : List MS := [.for_ (.nm 1) .rng1 [.op .max [.k (.int 3), .op .min [.k (.int 6), .op .len [.v 0]]]] [.asg 2 (.call 14 [.call 13 [.v 0, .v 1] [] [.inl 0, .inl 1]] [] [.inl 0]), .ite (.or (.not (.call 20 [.v 2] [] [.inl 0])) (.not (.call 24 [.v 2] [] [.inl 0]))) [.ret (.k (.bl false))] []], .ret (.k (.bl true))]
def tab : Nat → Option Fn
  | 0 => some ⟨3, 3, b0, false⟩
  | 1 => some ⟨3, 6, b1, true⟩
  | 2 => some ⟨1, 1, b2, false⟩
  | 3 => some ⟨1, 1, b3, false⟩
  | 4 => some ⟨2, 2, b4, false⟩
  | 5 => some ⟨1, 1, b5, false⟩
  | 6 => some ⟨1, 1, b6, false⟩
  | 7 => some ⟨1, 1, b7, false⟩
  | 8 => some ⟨3, 6, b8, false⟩
  | 9 => some ⟨2, 2, b9, false⟩
  | 10 => some ⟨1, 2, b10, false⟩
  | 11 => some ⟨1, 1, b11, true⟩
  | 12 => some ⟨1, 5, b12, true⟩
  | 13 => some ⟨2, 2, b13, true⟩
  | 14 => some ⟨1, 1, b14, false⟩
  | 15 => some ⟨2, 4, b15, false⟩
  | 16 => some ⟨2, 3, b16, true⟩
  | 17 => some ⟨1, 2, b17, false⟩
  | 18 => some ⟨1, 2, b18, true⟩
  | 19 => some ⟨1, 4, b19, true⟩
  | 20 => some ⟨1, 11, b20, false⟩
  | 21 => some ⟨3, 4, b21, true⟩
  | 22 => some ⟨3, 4, b22, false⟩
  | 23 => some ⟨3, 12, b23, false⟩
  | 24 => some ⟨1, 13, b24, false⟩
  | 25 => some ⟨1, 3, b25, false⟩
  | _ => none
abbrev x1 : Stmt := inClass (top 2) 0
abbrev x2 : Stmt := inClass (top 3) 0
/-- what the top has written -/
structure Txt (Z : Ws) (dfs : Nat → Def) : Prop where
  b_abs : Z.mg "abs" = none
  b_all : Z.mg "all" = none
  b_bool : Z.mg "bool" = none
  b_int : Z.mg "int" = none
  b_isinstance : Z.mg "isinstance" = none
  b_len : Z.mg "len" = none
  b_list : Z.mg "list" = none
  b_max : Z.mg "max" = none
  b_min : Z.mg "min" = none
  b_range : Z.mg "range" = none
  b_repr : Z.mg "repr" = none
  b_str : Z.mg "str" = none
  b_sum : Z.mg "sum" = none
  b_tuple : Z.mg "tuple" = none
  g_FIGURES : ∃ t, Z.mg "FIGURES" = some (.str "0123456789" t)
  g_SEAL : ∃ t, Z.mg "SEAL" = some (.str "." t)
  m_0 : Z.mg "is_whole" = some (.ref (dfs 0).f)
  kp_0 : PySem.W.keepIn Z.K (.ref (dfs 0).f) = true
  m_1 : Z.mg "number_in" = some (.ref (dfs 1).f)
  kp_1 : PySem.W.keepIn Z.K (.ref (dfs 1).f) = true
  m_2 : Z.mg "need_line" = some (.ref (dfs 2).f)
  kp_2 : PySem.W.keepIn Z.K (.ref (dfs 2).f) = true
  me_4 : Meth Z.K (Z.cl 0) "write" (dfs 4).f
  me_5 : Meth Z.K (Z.cl 0) "sync" (dfs 5).f
  me_6 : Meth Z.K (Z.cl 0) "lines" (dfs 6).f
  me_7 : Meth Z.K (Z.cl 0) "safe" (dfs 7).f
  me_8 : Meth Z.K (Z.cl 0) "crash" (dfs 8).f
  me_9 : Meth Z.K (Z.cl 0) "keep" (dfs 9).f
  me_10 : Meth Z.K (Z.cl 0) "copied" (dfs 10).f
  m_11 : Z.mg "sealed" = some (.ref (dfs 11).f)
  kp_11 : PySem.W.keepIn Z.K (.ref (dfs 11).f) = true
  m_12 : Z.mg "opened" = some (.ref (dfs 12).f)
  kp_12 : PySem.W.keepIn Z.K (.ref (dfs 12).f) = true
  m_13 : Z.mg "_law_cell" = some (.ref (dfs 13).f)
  kp_13 : PySem.W.keepIn Z.K (.ref (dfs 13).f) = true
  m_14 : Z.mg "_law_box" = some (.ref (dfs 14).f)
  kp_14 : PySem.W.keepIn Z.K (.ref (dfs 14).f) = true
  m_15 : Z.mg "_law_take" = some (.ref (dfs 15).f)
  kp_15 : PySem.W.keepIn Z.K (.ref (dfs 15).f) = true
  m_16 : Z.mg "_law_same" = some (.ref (dfs 16).f)
  kp_16 : PySem.W.keepIn Z.K (.ref (dfs 16).f) = true
  m_17 : Z.mg "_law_grown" = some (.ref (dfs 17).f)
  kp_17 : PySem.W.keepIn Z.K (.ref (dfs 17).f) = true
  m_18 : Z.mg "_law_line" = some (.ref (dfs 18).f)
  kp_18 : PySem.W.keepIn Z.K (.ref (dfs 18).f) = true
  m_19 : Z.mg "_law_opened" = some (.ref (dfs 19).f)
  kp_19 : PySem.W.keepIn Z.K (.ref (dfs 19).f) = true
  m_20 : Z.mg "_law_seals_right" = some (.ref (dfs 20).f)
  kp_20 : PySem.W.keepIn Z.K (.ref (dfs 20).f) = true
  m_21 : Z.mg "_law_shown_right" = some (.ref (dfs 21).f)
  kp_21 : PySem.W.keepIn Z.K (.ref (dfs 21).f) = true
  m_22 : Z.mg "_law_refused" = some (.ref (dfs 22).f)
  kp_22 : PySem.W.keepIn Z.K (.ref (dfs 22).f) = true
  m_23 : Z.mg "_law_refusals_right" = some (.ref (dfs 23).f)
  kp_23 : PySem.W.keepIn Z.K (.ref (dfs 23).f) = true
  m_24 : Z.mg "_law_store_right" = some (.ref (dfs 24).f)
  kp_24 : PySem.W.keepIn Z.K (.ref (dfs 24).f) = true
  m_25 : Z.mg "law" = some (.ref (dfs 25).f)
  kp_25 : PySem.W.keepIn Z.K (.ref (dfs 25).f) = true
  cls_0 : Cls Z.K (Z.cl 0)
  mc_Store : Z.mg "Store" = some (.ref (Z.cl 0))
  mk_0 : Mk Z.K (Z.cl 0) (dfs 3).f
  na_0_all_lines : NoAttr Z.K (Z.cl 0) "all_lines"
  na_0_many_safe : NoAttr Z.K (Z.cl 0) "many_safe"
  kb_0 : KB Z.K (dfs 0).fd (dfs 0).ps [] 3 0 [.inl 0, .inl 1, .inl 2]
  kb_1 : KB Z.K (dfs 2).fd (dfs 2).ps [] 1 0 [.inl 0]
  kb_2 : KB Z.K (dfs 3).fd (dfs 3).ps [] 1 0 [.inl 0]
  kb_3 : KB Z.K (dfs 1).fd (dfs 1).ps ["least"] 1 1 [.inl 0, .inl 1, .inr .non]
  kb_4 : KB Z.K (dfs 16).fd (dfs 16).ps [] 2 0 [.inl 0, .inl 1]
  kb_5 : KB Z.K (dfs 17).fd (dfs 17).ps [] 1 0 [.inl 0]
  kb_6 : KB Z.K (dfs 15).fd (dfs 15).ps [] 2 0 [.inl 0, .inl 1]
  kb_7 : KB Z.K (dfs 18).fd (dfs 18).ps [] 1 0 [.inl 0]
  kb_8 : KB Z.K (dfs 11).fd (dfs 11).ps [] 1 0 [.inl 0]
  kb_9 : KB Z.K (dfs 11).fd (dfs 11).ps ["line"] 0 1 [.inl 0]
  kb_10 : KB Z.K (dfs 12).fd (dfs 12).ps [] 1 0 [.inl 0]
  kb_11 : KB Z.K (dfs 19).fd (dfs 19).ps [] 1 0 [.inl 0]
  kb_12 : KB Z.K (dfs 12).fd (dfs 12).ps ["text"] 0 1 [.inl 0]
  kb_13 : KB Z.K (dfs 4).fd (dfs 4).ps ["line"] 1 1 [.inl 0, .inl 1]
  kb_14 : KB Z.K (dfs 6).fd (dfs 6).ps [] 1 0 [.inl 0]
  kb_15 : KB Z.K (dfs 7).fd (dfs 7).ps [] 1 0 [.inl 0]
  kb_16 : KB Z.K (dfs 8).fd (dfs 8).ps ["many", "cut"] 1 2 [.inl 0, .inl 1, .inl 2]
  kb_17 : KB Z.K (dfs 9).fd (dfs 9).ps [] 2 0 [.inl 0, .inl 1]
  kb_18 : KB Z.K (dfs 22).fd (dfs 22).ps [] 3 0 [.inl 0, .inl 1, .inl 2]
  kb_19 : KB Z.K (dfs 21).fd (dfs 21).ps [] 3 0 [.inl 0, .inl 1, .inl 2]
  kb_20 : KB Z.K (dfs 4).fd (dfs 4).ps [] 2 0 [.inl 0, .inl 1]
  kb_21 : KB Z.K (dfs 5).fd (dfs 5).ps [] 1 0 [.inl 0]
  kb_22 : KB Z.K (dfs 10).fd (dfs 10).ps [] 1 0 [.inl 0]
  kb_23 : KB Z.K (dfs 9).fd (dfs 9).ps ["many"] 1 1 [.inl 0, .inl 1]
  kb_24 : KB Z.K (dfs 8).fd (dfs 8).ps [] 3 0 [.inl 0, .inl 1, .inl 2]
  kb_25 : KB Z.K (dfs 8).fd (dfs 8).ps ["cut", "many"] 1 2 [.inl 0, .inl 2, .inl 1]
  kb_26 : KB Z.K (dfs 23).fd (dfs 23).ps [] 3 0 [.inl 0, .inl 1, .inl 2]
  kb_27 : KB Z.K (dfs 14).fd (dfs 14).ps [] 1 0 [.inl 0]
  kb_28 : KB Z.K (dfs 13).fd (dfs 13).ps [] 2 0 [.inl 0, .inl 1]
  kb_29 : KB Z.K (dfs 20).fd (dfs 20).ps [] 1 0 [.inl 0]
  kb_30 : KB Z.K (dfs 24).fd (dfs 24).ps [] 1 0 [.inl 0]
  mc_NoNumber : Z.mg "NoNumber" = some (.ref (Z.cl 1))
  xk_1 : ∃ fd, XcOk Z 1 "found" fd
  xf_1 : XfC Z.K (Z.cl 1)
  xno_1 : PySem.W.findIn Z.K (.ref (Z.cl 1)) "found" = some none
  xc_1 : ExcC Z.K (Z.cl 1)
  mc_NoWord : Z.mg "NoWord" = some (.ref (Z.cl 2))
  xk_2 : ∃ fd, XcOk Z 2 "found" fd
  xf_2 : XfC Z.K (Z.cl 2)
  xno_2 : PySem.W.findIn Z.K (.ref (Z.cl 2)) "found" = some none
  xc_2 : ExcC Z.K (Z.cl 2)
  ex_NoNumber_1 : PySem.W.exmOne Z.K (.ref (Z.cl 1)) (.ref (Z.cl 1)) = some true
  ex_NoNumber_2 : PySem.W.exmOne Z.K (.ref (Z.cl 2)) (.ref (Z.cl 1)) = some false
  ex_NoWord_1 : PySem.W.exmOne Z.K (.ref (Z.cl 1)) (.ref (Z.cl 2)) = some false
  ex_NoWord_2 : PySem.W.exmOne Z.K (.ref (Z.cl 2)) (.ref (Z.cl 2)) = some true
  ko_2_PlanError : PySem.W.kitOne Z.K (.ref (Z.cl 2)) (.ref (Z.cl 9)) = some true
  mc_PlanError : Z.mg "PlanError" = some (.ref (Z.cl 9))
set_option maxHeartbeats 4000000 in
theorem t0 {Z : Ws} {dfs : Nat → Def} {n : Nat} (T : Txt Z dfs) {ok : Nat → Prop} (okf : ∀ i, i < 26 → ok i) {fa : Addr} {cd : Value} (hid : List Addr) (A : Around) (outer : List PySem.Env) (s : Shared) (H : Hp) (E : XK) (pn : List (Addr × Obj))
    (C : COk Z (cxG false pn Z.P Z.wd Z.K Z.mg Z.base n0 "is_whole" (defScope d0) fa cd A outer s H E) (Z.w hid) (fun cls d _ H => E cls d H) (Z.cfg false n) false n dfs ok) :
    SSs (cxG false pn Z.P Z.wd Z.K Z.mg Z.base n0 "is_whole" (defScope d0) fa cd A outer s H E) (Z.w hid) (fun cls d _ H => E cls d H) (Z.cfg false n) (defBody d0) b0 := by
  exact ss_cons (st_if ((sw_or (sb_not (sb_val C.E (s_isT .int C.E T.b_isinstance T.b_int (by decide +kernel) (sv 0)))) (sw_or1 (sb_val C.E (s_isT .bool C.E T.b_isinstance T.b_bool (by decide +kernel) (sv 0))))).pt) (ss_cons (st_ret (sk_bl)) (ss_nil)) (ss_nil)) (ss_cons (st_ret (s_and C.E (s_or C.E (s_isNone C.E (sv 1)) (s_one (s_cmp C.E snd_le (sv 1) (sv 0) (nomark _)))) (s_one (s_or C.E (s_isNone C.E (sv 2)) (s_one (s_cmp C.E snd_le (sv 0) (sv 2) (nomark _))))))) (ss_nil))
set_option maxHeartbeats 4000000 in
theorem t1 {Z : Ws} {dfs : Nat → Def} {n : Nat} (T : Txt Z dfs) {ok : Nat → Prop} (okf : ∀ i, i < 26 → ok i) {fa : Addr} {cd : Value} (hid : List Addr) (A : Around) (outer : List PySem.Env) (s : Shared) (H : Hp) (E : XK) (pn : List (Addr × Obj))
    (C : COk Z (cxG false pn Z.P Z.wd Z.K Z.mg Z.base n1 "number_in" (defScope d1) fa cd A outer s H E) (Z.w hid) (fun cls d _ H => E cls d H) (Z.cfg false n) false n dfs ok) :
    SSs (cxG false pn Z.P Z.wd Z.K Z.mg Z.base n1 "number_in" (defScope d1) fa cd A outer s H E) (Z.w hid) (fun cls d _ H => E cls d H) (Z.cfg false n) (defBody d1) b1 := by
  obtain ⟨_, t_FIGURES⟩ := T.g_FIGURES
  exact ss_cons (st_if (sb_not (sb_val C.E (s_isT .str C.E T.b_isinstance T.b_str (by decide +kernel) (sv 0)))) (ss_cons (st_ret (sk_non)) (ss_nil)) (ss_nil)) (ss_cons (st_asg 3 C.nd (s_ife (sb_cmp C.E bo_eq (snd_eq C.E.hK (un64 C.E)) (s_sl C.E (sv 0) so_none (so_some (sk_int))) (sk_str) (nomark _)) (s_sl C.E (sv 0) (so_some (sk_int)) so_none) (sv 0))) (ss_cons (st_if ((sw_or (sb_cmp C.E bo_eq (snd_eq C.E.hK (un64 C.E)) (sv 3) (sk_str) (nomark _)) (sw_or1 (sb_not (sb_val C.E (s_bi C.E (callK rfl (snd_all C.E.hK)) T.b_all (by decide +kernel) (sa_cons (s_lc C rfl (si_seq C.E (sv 3)) (own := [("sign", 5)]) (blkOk_by (N := n1) (sc := defScope d1) (by decide +kernel)) rfl (by decide) (fun _ _ _ _ _ _ => sg_nm 5 C.nd) (fun _ _ _ _ _ _ C => sts_nil) (fun _ _ _ _ _ _ C => s_cmp C.E (snd_in C.E.hK) (sv 5) (sk_glob t_FIGURES) (by with_unfolding_all rfl))) (sa_nil))))))).pt) (ss_cons (st_ret (sk_non)) (ss_nil)) (ss_nil)) (ss_cons (st_if ((sw_and (sb_cmp C.E bo_eq (snd_eq C.E.hK (un64 C.E)) (s_ix C.E (sv 3) (sk_int)) (sk_str) (nomark _)) (sw_and1 (sb_cmp C.E bo_ne (snd_ne C.E.hK (un64 C.E)) (sv 0) (sk_str) (nomark _)))).pt) (ss_cons (st_ret (sk_non)) (ss_nil)) (ss_nil)) (ss_cons (st_asg 4 C.nd (s_ty C.E (callP snd_int) T.b_int (by decide +kernel) (sa_cons (sv 0) (sa_nil)))) (ss_cons (st_ret (s_ife (sb_val C.E (s_call C (okf 0 (by decide)) T.kb_0 T.m_0 T.kp_0 (sa_cons (sv 4) (sa_cons (sv 1) (sa_cons (sv 2) (sa_nil)))) (skw_nil))) (sv 4) (sk_non))) (ss_nil))))))
set_option maxHeartbeats 4000000 in
theorem t2 {Z : Ws} {dfs : Nat → Def} {n : Nat} (T : Txt Z dfs) {ok : Nat → Prop} (okf : ∀ i, i < 26 → ok i) {fa : Addr} {cd : Value} (hid : List Addr) (A : Around) (outer : List PySem.Env) (s : Shared) (H : Hp) (E : XK) (pn : List (Addr × Obj))
    (C : COk Z (cxG false pn Z.P Z.wd Z.K Z.mg Z.base n2 "need_line" (defScope d2) fa cd A outer s H E) (Z.w hid) (fun cls d _ H => E cls d H) (Z.cfg false n) false n dfs ok) :
    SSs (cxG false pn Z.P Z.wd Z.K Z.mg Z.base n2 "need_line" (defScope d2) fa cd A outer s H E) (Z.w hid) (fun cls d _ H => E cls d H) (Z.cfg false n) (defBody d2) b2 := by
  obtain ⟨_, x_2⟩ := T.xk_2
  exact ss_cons (st_if ((sw_or (sb_not (sb_val C.E (s_isT .str C.E T.b_isinstance T.b_str (by decide +kernel) (sv 0)))) (sw_or1 (sb_cmp C.E bo_isin (snd_in C.E.hK) (sk_str) (sv 0) (by with_unfolding_all rfl)))).pt) (ss_cons (st_raise C rfl x_2 T.mc_NoWord (sv 0)) (ss_nil)) (ss_nil)) (ss_nil)
set_option maxHeartbeats 4000000 in
theorem t3 {Z : Ws} {dfs : Nat → Def} {n : Nat} (T : Txt Z dfs) {ok : Nat → Prop} (okf : ∀ i, i < 26 → ok i) {fa : Addr} {cd : Value} (hid : List Addr) (A : Around) (outer : List PySem.Env) (s : Shared) (H : Hp) (E : XK) (pn : List (Addr × Obj))
    (C : COk Z (cxG false pn Z.P Z.wd Z.K Z.mg Z.base n3 "Store.__init__" (defScope d3) fa cd A outer s H E) (Z.w hid) (fun cls d _ H => E cls d H) (Z.cfg false n) false n dfs ok) :
    SSs (cxG false pn Z.P Z.wd Z.K Z.mg Z.base n3 "Store.__init__" (defScope d3) fa cd A outer s H E) (Z.w hid) (fun cls d _ H => E cls d H) (Z.cfg false n) (defBody d3) b3 := by
  exact ss_cons (st_fset C.E.hK T.cls_0 T.na_0_all_lines (sv 0) (s_lst (sa_nil))) (ss_cons (st_fset C.E.hK T.cls_0 T.na_0_many_safe (sv 0) (sk_int)) (ss_nil))
set_option maxHeartbeats 4000000 in
theorem t4 {Z : Ws} {dfs : Nat → Def} {n : Nat} (T : Txt Z dfs) {ok : Nat → Prop} (okf : ∀ i, i < 26 → ok i) {fa : Addr} {cd : Value} (hid : List Addr) (A : Around) (outer : List PySem.Env) (s : Shared) (H : Hp) (E : XK) (pn : List (Addr × Obj))
    (C : COk Z (cxG false pn Z.P Z.wd Z.K Z.mg Z.base n4 "Store.write" (defScope d4) fa cd A outer s H E) (Z.w hid) (fun cls d _ H => E cls d H) (Z.cfg false n) false n dfs ok) :
    SSs (cxG false pn Z.P Z.wd Z.K Z.mg Z.base n4 "Store.write" (defScope d4) fa cd A outer s H E) (Z.w hid) (fun cls d _ H => E cls d H) (Z.cfg false n) (defBody d4) b4 := by
  exact ss_cons (st_ex (s_call C (okf 2 (by decide)) T.kb_1 T.m_2 T.kp_2 (sa_cons (sv 1) (sa_nil)) (skw_nil))) (ss_cons (st_ex (s_bm C.E rfl PySem.F.plainAttrs_list PySem.F.slot_list_append PySem.F.type_list_append (fun _ => snd_append) (s_fld C.E T.cls_0 T.na_0_all_lines (sv 0)) (sa_cons (sv 1) (sa_nil)))) (ss_nil))
set_option maxHeartbeats 4000000 in
theorem t5 {Z : Ws} {dfs : Nat → Def} {n : Nat} (T : Txt Z dfs) {ok : Nat → Prop} (okf : ∀ i, i < 26 → ok i) {fa : Addr} {cd : Value} (hid : List Addr) (A : Around) (outer : List PySem.Env) (s : Shared) (H : Hp) (E : XK) (pn : List (Addr × Obj))
    (C : COk Z (cxG false pn Z.P Z.wd Z.K Z.mg Z.base n5 "Store.sync" (defScope d5) fa cd A outer s H E) (Z.w hid) (fun cls d _ H => E cls d H) (Z.cfg false n) false n dfs ok) :
    SSs (cxG false pn Z.P Z.wd Z.K Z.mg Z.base n5 "Store.sync" (defScope d5) fa cd A outer s H E) (Z.w hid) (fun cls d _ H => E cls d H) (Z.cfg false n) (defBody d5) b5 := by
  exact ss_cons (st_fset C.E.hK T.cls_0 T.na_0_many_safe (sv 0) (s_bi C.E (callP (snd_len C.E.hK)) T.b_len (by decide +kernel) (sa_cons (s_fld C.E T.cls_0 T.na_0_all_lines (sv 0)) (sa_nil)))) (ss_nil)
set_option maxHeartbeats 4000000 in
theorem t6 {Z : Ws} {dfs : Nat → Def} {n : Nat} (T : Txt Z dfs) {ok : Nat → Prop} (okf : ∀ i, i < 26 → ok i) {fa : Addr} {cd : Value} (hid : List Addr) (A : Around) (outer : List PySem.Env) (s : Shared) (H : Hp) (E : XK) (pn : List (Addr × Obj))
    (C : COk Z (cxG false pn Z.P Z.wd Z.K Z.mg Z.base n6 "Store.lines" (defScope d6) fa cd A outer s H E) (Z.w hid) (fun cls d _ H => E cls d H) (Z.cfg false n) false n dfs ok) :
    SSs (cxG false pn Z.P Z.wd Z.K Z.mg Z.base n6 "Store.lines" (defScope d6) fa cd A outer s H E) (Z.w hid) (fun cls d _ H => E cls d H) (Z.cfg false n) (defBody d6) b6 := by
  exact ss_cons (st_ret (s_ty C.E (callP (snd_list C.E.hK true)) T.b_list (by decide +kernel) (sa_cons (s_fld C.E T.cls_0 T.na_0_all_lines (sv 0)) (sa_nil)))) (ss_nil)
set_option maxHeartbeats 4000000 in
theorem t7 {Z : Ws} {dfs : Nat → Def} {n : Nat} (T : Txt Z dfs) {ok : Nat → Prop} (okf : ∀ i, i < 26 → ok i) {fa : Addr} {cd : Value} (hid : List Addr) (A : Around) (outer : List PySem.Env) (s : Shared) (H : Hp) (E : XK) (pn : List (Addr × Obj))
    (C : COk Z (cxG false pn Z.P Z.wd Z.K Z.mg Z.base n7 "Store.safe" (defScope d7) fa cd A outer s H E) (Z.w hid) (fun cls d _ H => E cls d H) (Z.cfg false n) false n dfs ok) :
    SSs (cxG false pn Z.P Z.wd Z.K Z.mg Z.base n7 "Store.safe" (defScope d7) fa cd A outer s H E) (Z.w hid) (fun cls d _ H => E cls d H) (Z.cfg false n) (defBody d7) b7 := by
  exact ss_cons (st_ret (s_fld C.E T.cls_0 T.na_0_many_safe (sv 0))) (ss_nil)
set_option maxHeartbeats 4000000 in
theorem t8 {Z : Ws} {dfs : Nat → Def} {n : Nat} (T : Txt Z dfs) {ok : Nat → Prop} (okf : ∀ i, i < 26 → ok i) {fa : Addr} {cd : Value} (hid : List Addr) (A : Around) (outer : List PySem.Env) (s : Shared) (H : Hp) (E : XK) (pn : List (Addr × Obj))
    (C : COk Z (cxG false pn Z.P Z.wd Z.K Z.mg Z.base n8 "Store.crash" (defScope d8) fa cd A outer s H E) (Z.w hid) (fun cls d _ H => E cls d H) (Z.cfg false n) false n dfs ok) :
    SSs (cxG false pn Z.P Z.wd Z.K Z.mg Z.base n8 "Store.crash" (defScope d8) fa cd A outer s H E) (Z.w hid) (fun cls d _ H => E cls d H) (Z.cfg false n) (defBody d8) b8 := by
  obtain ⟨_, x_1⟩ := T.xk_1
  exact ss_cons (st_asg 3 C.nd (s_sl C.E (s_fld C.E T.cls_0 T.na_0_all_lines (sv 0)) (so_some (s_fld C.E T.cls_0 T.na_0_many_safe (sv 0))) so_none)) (ss_cons (st_if (sb_not (sb_val C.E (s_call C (okf 0 (by decide)) T.kb_0 T.m_0 T.kp_0 (sa_cons (sv 1) (sa_cons (sk_int) (sa_cons (s_bi C.E (callP (snd_len C.E.hK)) T.b_len (by decide +kernel) (sa_cons (sv 3) (sa_nil))) (sa_nil)))) (skw_nil)))) (ss_cons (st_raise C rfl x_1 T.mc_NoNumber (sv 1)) (ss_nil)) (ss_nil)) (ss_cons (st_asg 4 C.nd (s_sl C.E (sv 3) (so_some (sv 1)) (so_some (s_bin C.E (snd_add C.E.hK false) (sv 1) (sk_int))))) (ss_cons (st_if (sb_not (sb_val C.E (s_call C (okf 0 (by decide)) T.kb_0 T.m_0 T.kp_0 (sa_cons (sv 2) (sa_cons (sk_int) (sa_cons (s_bi C.E (callK rfl (snd_sum C.E.hK)) T.b_sum (by decide +kernel) (sa_cons (s_lc C rfl (si_seq C.E (sv 4)) (own := [("line", 5)]) (blkOk_by (N := n8) (sc := defScope d8) (by decide +kernel)) rfl (by decide) (fun _ _ _ _ _ _ => sg_nm 5 C.nd) (fun _ _ _ _ _ _ C => sts_nil) (fun _ _ _ _ _ _ C => s_bi C.E (callP (snd_len C.E.hK)) T.b_len (by decide +kernel) (sa_cons (sv 5) (sa_nil)))) (sa_nil))) (sa_nil)))) (skw_nil)))) (ss_cons (st_raise C rfl x_1 T.mc_NoNumber (sv 2)) (ss_nil)) (ss_nil)) (ss_cons (st_fset C.E.hK T.cls_0 T.na_0_all_lines (sv 0) (s_sl C.E (s_fld C.E T.cls_0 T.na_0_all_lines (sv 0)) so_none (so_some (s_bin C.E (snd_add C.E.hK false) (s_fld C.E T.cls_0 T.na_0_many_safe (sv 0)) (sv 1))))) (ss_cons (st_if (sb_cmp C.E bo_gt snd_gt (sv 2) (sk_int) (nomark _)) (ss_cons (st_ex (s_bm C.E rfl PySem.F.plainAttrs_list PySem.F.slot_list_append PySem.F.type_list_append (fun _ => snd_append) (s_fld C.E T.cls_0 T.na_0_all_lines (sv 0)) (sa_cons (s_sl C.E (s_ix C.E (sv 4) (sk_int)) so_none (so_some (sv 2))) (sa_nil)))) (ss_nil)) (ss_nil)) (ss_cons (st_fset C.E.hK T.cls_0 T.na_0_many_safe (sv 0) (s_bi C.E (callP (snd_len C.E.hK)) T.b_len (by decide +kernel) (sa_cons (s_fld C.E T.cls_0 T.na_0_all_lines (sv 0)) (sa_nil)))) (ss_nil)))))))
set_option maxHeartbeats 4000000 in
theorem t9 {Z : Ws} {dfs : Nat → Def} {n : Nat} (T : Txt Z dfs) {ok : Nat → Prop} (okf : ∀ i, i < 26 → ok i) {fa : Addr} {cd : Value} (hid : List Addr) (A : Around) (outer : List PySem.Env) (s : Shared) (H : Hp) (E : XK) (pn : List (Addr × Obj))
    (C : COk Z (cxG false pn Z.P Z.wd Z.K Z.mg Z.base n9 "Store.keep" (defScope d9) fa cd A outer s H E) (Z.w hid) (fun cls d _ H => E cls d H) (Z.cfg false n) false n dfs ok) :
    SSs (cxG false pn Z.P Z.wd Z.K Z.mg Z.base n9 "Store.keep" (defScope d9) fa cd A outer s H E) (Z.w hid) (fun cls d _ H => E cls d H) (Z.cfg false n) (defBody d9) b9 := by
  obtain ⟨_, x_1⟩ := T.xk_1
  exact ss_cons (st_if (sb_not (sb_val C.E (s_call C (okf 0 (by decide)) T.kb_0 T.m_0 T.kp_0 (sa_cons (sv 1) (sa_cons (sk_int) (sa_cons (s_bi C.E (callP (snd_len C.E.hK)) T.b_len (by decide +kernel) (sa_cons (s_fld C.E T.cls_0 T.na_0_all_lines (sv 0)) (sa_nil))) (sa_nil)))) (skw_nil)))) (ss_cons (st_raise C rfl x_1 T.mc_NoNumber (sv 1)) (ss_nil)) (ss_nil)) (ss_cons (st_fset C.E.hK T.cls_0 T.na_0_all_lines (sv 0) (s_sl C.E (s_fld C.E T.cls_0 T.na_0_all_lines (sv 0)) so_none (so_some (sv 1)))) (ss_cons (st_fset C.E.hK T.cls_0 T.na_0_many_safe (sv 0) (sv 1)) (ss_nil)))
set_option maxHeartbeats 4000000 in
theorem t10 {Z : Ws} {dfs : Nat → Def} {n : Nat} (T : Txt Z dfs) {ok : Nat → Prop} (okf : ∀ i, i < 26 → ok i) {fa : Addr} {cd : Value} (hid : List Addr) (A : Around) (outer : List PySem.Env) (s : Shared) (H : Hp) (E : XK) (pn : List (Addr × Obj))
    (C : COk Z (cxG false pn Z.P Z.wd Z.K Z.mg Z.base n10 "Store.copied" (defScope d10) fa cd A outer s H E) (Z.w hid) (fun cls d _ H => E cls d H) (Z.cfg false n) false n dfs ok) :
    SSs (cxG false pn Z.P Z.wd Z.K Z.mg Z.base n10 "Store.copied" (defScope d10) fa cd A outer s H E) (Z.w hid) (fun cls d _ H => E cls d H) (Z.cfg false n) (defBody d10) b10 := by
  exact ss_cons (st_asg 1 C.nd (s_mk0 C (okf 3 (by decide)) T.kb_2 T.mk_0 T.mc_Store (skw_nil))) (ss_cons (st_fset C.E.hK T.cls_0 T.na_0_all_lines (sv 1) (s_ty C.E (callP (snd_list C.E.hK true)) T.b_list (by decide +kernel) (sa_cons (s_fld C.E T.cls_0 T.na_0_all_lines (sv 0)) (sa_nil)))) (ss_cons (st_fset C.E.hK T.cls_0 T.na_0_many_safe (sv 1) (s_fld C.E T.cls_0 T.na_0_many_safe (sv 0))) (ss_cons (st_ret (sv 1)) (ss_nil))))
set_option maxHeartbeats 4000000 in
theorem t11 {Z : Ws} {dfs : Nat → Def} {n : Nat} (T : Txt Z dfs) {ok : Nat → Prop} (okf : ∀ i, i < 26 → ok i) {fa : Addr} {cd : Value} (hid : List Addr) (A : Around) (outer : List PySem.Env) (s : Shared) (H : Hp) (E : XK) (pn : List (Addr × Obj))
    (C : COk Z (cxG false pn Z.P Z.wd Z.K Z.mg Z.base n11 "sealed" (defScope d11) fa cd A outer s H E) (Z.w hid) (fun cls d _ H => E cls d H) (Z.cfg false n) false n dfs ok) :
    SSs (cxG false pn Z.P Z.wd Z.K Z.mg Z.base n11 "sealed" (defScope d11) fa cd A outer s H E) (Z.w hid) (fun cls d _ H => E cls d H) (Z.cfg false n) (defBody d11) b11 := by
  obtain ⟨_, t_SEAL⟩ := T.g_SEAL
  exact ss_cons (st_ex (s_call C (okf 2 (by decide)) T.kb_1 T.m_2 T.kp_2 (sa_cons (sv 0) (sa_nil)) (skw_nil))) (ss_cons (st_ret (s_js (.cons (s_fs C.E (s_bi C.E (callP (snd_len C.E.hK)) T.b_len (by decide +kernel) (sa_cons (sv 0) (sa_nil)))) (.cons (sk_str) (.cons (s_fs C.E (sv 0)) (.cons (s_fs C.E (sk_glob t_SEAL)) (.nil))))))) (ss_nil))
set_option maxHeartbeats 4000000 in
theorem t12 {Z : Ws} {dfs : Nat → Def} {n : Nat} (T : Txt Z dfs) {ok : Nat → Prop} (okf : ∀ i, i < 26 → ok i) {fa : Addr} {cd : Value} (hid : List Addr) (A : Around) (outer : List PySem.Env) (s : Shared) (H : Hp) (E : XK) (pn : List (Addr × Obj))
    (C : COk Z (cxG false pn Z.P Z.wd Z.K Z.mg Z.base n12 "opened" (defScope d12) fa cd A outer s H E) (Z.w hid) (fun cls d _ H => E cls d H) (Z.cfg false n) false n dfs ok) :
    SSs (cxG false pn Z.P Z.wd Z.K Z.mg Z.base n12 "opened" (defScope d12) fa cd A outer s H E) (Z.w hid) (fun cls d _ H => E cls d H) (Z.cfg false n) (defBody d12) b12 := by
  obtain ⟨_, t_SEAL⟩ := T.g_SEAL
  exact ss_cons (st_if (sb_not (sb_val C.E (s_isT .str C.E T.b_isinstance T.b_str (by decide +kernel) (sv 0)))) (ss_cons (st_ret (sk_non)) (ss_nil)) (ss_nil)) (ss_cons (st_asgT (s_bm C.E rfl PySem.F.plainAttrs_str PySem.F.slot_str_partition PySem.F.type_str_partition (fun _ => snd_partition) (sv 0) (sa_cons (sk_str) (sa_nil))) (sg_tp C.E.hK rfl (sgs_cons 1 C.nd (sgs_cons 2 C.nd (sgs_cons 3 C.nd (sgs_nil)))))) (ss_cons (st_asg 4 C.nd (s_call C (okf 1 (by decide)) T.kb_3 T.m_1 T.kp_1 (sa_cons (sv 1) (sa_nil)) (skw_cons (sk_int) (skw_nil)))) (ss_cons (st_if ((sw_or (sb_isNone C.E (sv 4)) (sw_or (sb_cmp C.E bo_eq (snd_eq C.E.hK (un64 C.E)) (sv 2) (sk_str) (nomark _)) (sw_or (sb_cmp C.E bo_ne (snd_ne C.E.hK (un64 C.E)) (s_bi C.E (callP (snd_len C.E.hK)) T.b_len (by decide +kernel) (sa_cons (sv 3) (sa_nil))) (s_bin C.E (snd_add C.E.hK false) (sv 4) (sk_int)) (nomark _)) (sw_or (sb_cmp C.E bo_ne (snd_ne C.E.hK (un64 C.E)) (s_ix C.E (sv 3) (s_neg C.E (sk_int))) (sk_glob t_SEAL) (nomark _)) (sw_or1 (sb_cmp C.E bo_isin (snd_in C.E.hK) (sk_str) (sv 3) (by with_unfolding_all rfl))))))).pt) (ss_cons (st_ret (sk_non)) (ss_nil)) (ss_nil)) (ss_cons (st_ret (s_sl C.E (sv 3) so_none (so_some (s_neg C.E (sk_int))))) (ss_nil)))))
set_option maxHeartbeats 4000000 in
theorem t13 {Z : Ws} {dfs : Nat → Def} {n : Nat} (T : Txt Z dfs) {ok : Nat → Prop} (okf : ∀ i, i < 26 → ok i) {fa : Addr} {cd : Value} (hid : List Addr) (A : Around) (outer : List PySem.Env) (s : Shared) (H : Hp) (E : XK) (pn : List (Addr × Obj))
    (C : COk Z (cxG false pn Z.P Z.wd Z.K Z.mg Z.base n13 "_law_cell" (defScope d13) fa cd A outer s H E) (Z.w hid) (fun cls d _ H => E cls d H) (Z.cfg false n) false n dfs ok) :
    SSs (cxG false pn Z.P Z.wd Z.K Z.mg Z.base n13 "_law_cell" (defScope d13) fa cd A outer s H E) (Z.w hid) (fun cls d _ H => E cls d H) (Z.cfg false n) (defBody d13) b13 := by
  exact ss_cons (st_ret (s_ife (sb_cmp C.E bo_lt snd_lt (sv 1) (s_bi C.E (callP (snd_len C.E.hK)) T.b_len (by decide +kernel) (sa_cons (sv 0) (sa_nil))) (nomark _)) (s_ix C.E (sv 0) (sv 1)) (s_bin C.E (snd_add C.E.hK false) (s_bin C.E snd_mul (sk_int) (sv 1)) (s_bin C.E snd_mod (s_ty C.E (callP snd_int) T.b_int (by decide +kernel) (sa_cons (s_bi C.E (callK rfl (snd_sum C.E.hK)) T.b_sum (by decide +kernel) (sa_cons (s_sl C.E (sv 0) so_none (so_some (sk_int))) (sa_nil))) (sa_nil))) (sk_int))))) (ss_nil)
set_option maxHeartbeats 4000000 in
theorem t14 {Z : Ws} {dfs : Nat → Def} {n : Nat} (T : Txt Z dfs) {ok : Nat → Prop} (okf : ∀ i, i < 26 → ok i) {fa : Addr} {cd : Value} (hid : List Addr) (A : Around) (outer : List PySem.Env) (s : Shared) (H : Hp) (E : XK) (pn : List (Addr × Obj))
    (C : COk Z (cxG false pn Z.P Z.wd Z.K Z.mg Z.base n14 "_law_box" (defScope d14) fa cd A outer s H E) (Z.w hid) (fun cls d _ H => E cls d H) (Z.cfg false n) false n dfs ok) :
    SSs (cxG false pn Z.P Z.wd Z.K Z.mg Z.base n14 "_law_box" (defScope d14) fa cd A outer s H E) (Z.w hid) (fun cls d _ H => E cls d H) (Z.cfg false n) (defBody d14) b14 := by
  exact ss_cons (st_ret (s_lst (sa_cons (s_bi C.E (callP snd_abs) T.b_abs (by decide +kernel) (sa_cons (sv 0) (sa_nil))) (sa_cons (s_cmp C.E snd_ge (s_bi C.E (callP snd_abs) T.b_abs (by decide +kernel) (sa_cons (sv 0) (sa_nil))) (s_bin C.E snd_pow (sk_int) (sk_int)) (nomark _)) (sa_cons (s_bin C.E snd_mod (s_ty C.E (callP snd_int) T.b_int (by decide +kernel) (sa_cons (s_bi C.E (callP snd_abs) T.b_abs (by decide +kernel) (sa_cons (sv 0) (sa_nil))) (sa_nil))) (sk_int)) (sa_cons (sk_int) (sa_nil))))))) (ss_nil)
set_option maxHeartbeats 4000000 in
theorem t15 {Z : Ws} {dfs : Nat → Def} {n : Nat} (T : Txt Z dfs) {ok : Nat → Prop} (okf : ∀ i, i < 26 → ok i) {fa : Addr} {cd : Value} (hid : List Addr) (A : Around) (outer : List PySem.Env) (s : Shared) (H : Hp) (E : XK) (pn : List (Addr × Obj))
    (C : COk Z (cxG false pn Z.P Z.wd Z.K Z.mg Z.base n15 "_law_take" (defScope d15) fa cd A outer s H E) (Z.w hid) (fun cls d _ H => E cls d H) (Z.cfg false n) false n dfs ok) :
    SSs (cxG false pn Z.P Z.wd Z.K Z.mg Z.base n15 "_law_take" (defScope d15) fa cd A outer s H E) (Z.w hid) (fun cls d _ H => E cls d H) (Z.cfg false n) (defBody d15) b15 := by
  exact ss_cons (st_if ((sw_and (sb_val C.E (s_ix C.E (sv 0) (sk_int))) (sw_and1 (sb_cmp C.E bo_gt snd_gt (s_ix C.E (sv 0) (sk_int)) (sk_int) (nomark _)))).pt) (ss_cons (st_asg 3 C.nd (s_bin C.E snd_mod (s_ty C.E (callP snd_int) T.b_int (by decide +kernel) (sa_cons (s_ix C.E (sv 0) (sk_int)) (sa_nil))) (sv 1))) (ss_cons (st_iset (sv 0) (sk_int) (s_bin C.E snd_fdiv (s_ix C.E (sv 0) (sk_int)) (sv 1))) (ss_cons (st_ret (sv 3)) (ss_nil)))) (ss_nil)) (ss_cons (st_iset (sv 0) (sk_int) (s_bin C.E (snd_add C.E.hK false) (s_ix C.E (sv 0) (sk_int)) (sk_int))) (ss_cons (st_asg 2 C.nd (s_bin C.E snd_mod (s_ty C.E (callP snd_int) T.b_int (by decide +kernel) (sa_cons (s_bin C.E snd_pow (s_bin C.E (snd_add C.E.hK false) (s_bin C.E (snd_add C.E.hK false) (s_ix C.E (sv 0) (sk_int)) (s_bin C.E snd_mul (sk_int) (s_ix C.E (sv 0) (sk_int)))) (sk_int)) (sk_int)) (sa_nil))) (sk_int))) (ss_cons (st_ret (s_bin C.E snd_mod (s_ty C.E (callP snd_int) T.b_int (by decide +kernel) (sa_cons (s_bin C.E snd_fdiv (s_bin C.E snd_mod (s_ty C.E (callP snd_int) T.b_int (by decide +kernel) (sa_cons (s_bin C.E snd_pow (s_bin C.E (snd_add C.E.hK false) (s_bin C.E snd_mul (sv 2) (sk_int)) (s_bin C.E snd_mul (sk_int) (s_ix C.E (sv 0) (sk_int)))) (sk_int)) (sa_nil))) (sk_int)) (sk_int)) (sa_nil))) (sv 1))) (ss_nil))))
set_option maxHeartbeats 4000000 in
theorem t16 {Z : Ws} {dfs : Nat → Def} {n : Nat} (T : Txt Z dfs) {ok : Nat → Prop} (okf : ∀ i, i < 26 → ok i) {fa : Addr} {cd : Value} (hid : List Addr) (A : Around) (outer : List PySem.Env) (s : Shared) (H : Hp) (E : XK) (pn : List (Addr × Obj))
    (C : COk Z (cxG false pn Z.P Z.wd Z.K Z.mg Z.base n16 "_law_same" (defScope d16) fa cd A outer s H E) (Z.w hid) (fun cls d _ H => E cls d H) (Z.cfg false n) false n dfs ok) :
    SSs (cxG false pn Z.P Z.wd Z.K Z.mg Z.base n16 "_law_same" (defScope d16) fa cd A outer s H E) (Z.w hid) (fun cls d _ H => E cls d H) (Z.cfg false n) (defBody d16) b16 := by
  exact ss_cons (st_if ((sw_or (sb_isNone C.E (sv 1)) (sw_or1 (sb_val C.E (s_isT .bool C.E T.b_isinstance T.b_bool (by decide +kernel) (sv 1))))).pt) (ss_cons (st_ret (s_ife (sb_isNone C.E (sv 1)) (s_isNone C.E (sv 0)) (s_and C.E (s_isT .bool C.E T.b_isinstance T.b_bool (by decide +kernel) (sv 0)) (s_one (s_cmp C.E (snd_eq C.E.hK (un64 C.E)) (s_isTrue C.E (sv 0)) (s_isTrue C.E (sv 1)) (nomark _)))))) (ss_nil)) (ss_nil)) (ss_cons (st_if (sb_val C.E (s_isT .int C.E T.b_isinstance T.b_int (by decide +kernel) (sv 1))) (ss_cons (st_ret (s_and C.E (s_isT .int C.E T.b_isinstance T.b_int (by decide +kernel) (sv 0)) (s_and C.E (s_not C.E (s_isT .bool C.E T.b_isinstance T.b_bool (by decide +kernel) (sv 0))) (s_one (s_cmp C.E (snd_eq C.E.hK (un64 C.E)) (s_bin C.E snd_sub (s_ty C.E (callP snd_int) T.b_int (by decide +kernel) (sa_cons (sv 0) (sa_nil))) (sv 1)) (sk_int) (nomark _)))))) (ss_nil)) (ss_nil)) (ss_cons (st_if (sb_val C.E (s_isT .str C.E T.b_isinstance T.b_str (by decide +kernel) (sv 1))) (ss_cons (st_ret (s_and C.E (s_isT .str C.E T.b_isinstance T.b_str (by decide +kernel) (sv 0)) (s_and C.E (s_cmp C.E (snd_eq C.E.hK (un64 C.E)) (s_bi C.E (callP (snd_len C.E.hK)) T.b_len (by decide +kernel) (sa_cons (sv 0) (sa_nil))) (s_bi C.E (callP (snd_len C.E.hK)) T.b_len (by decide +kernel) (sa_cons (sv 1) (sa_nil))) (nomark _)) (s_one (s_cmp C.E (snd_eq C.E.hK (un64 C.E)) (s_lc C rfl (si_rng1 C.E T.b_range (s_bi C.E (callP (snd_len C.E.hK)) T.b_len (by decide +kernel) (sa_cons (sv 1) (sa_nil)))) (own := [("k", 2)]) (blkOk_by (N := n16) (sc := defScope d16) (by decide +kernel)) rfl (by decide) (fun _ _ _ _ _ _ => sg_nm 2 C.nd) (fun _ _ _ _ _ _ C => sts_one (sb_cmp C.E bo_ne (snd_ne C.E.hK (un64 C.E)) (s_sl C.E (sv 0) (so_some (sv 2)) (so_some (s_bin C.E (snd_add C.E.hK false) (sv 2) (sk_int)))) (s_ix C.E (sv 1) (sv 2)) (nomark _))) (fun _ _ _ _ _ _ C => sv 2)) (s_lst (sa_nil)) (nomark _)))))) (ss_nil)) (ss_nil)) (ss_cons (st_if ((sw_or (sb_cmp C.E bo_ne (snd_ne C.E.hK (un64 C.E)) (s_isT .list C.E T.b_isinstance T.b_list (by decide +kernel) (sv 0)) (s_isT .list C.E T.b_isinstance T.b_list (by decide +kernel) (sv 1)) (nomark _)) (sw_or1 (sb_cmp C.E bo_ne (snd_ne C.E.hK (un64 C.E)) (s_isT .tuple C.E T.b_isinstance T.b_tuple (by decide +kernel) (sv 0)) (s_isT .tuple C.E T.b_isinstance T.b_tuple (by decide +kernel) (sv 1)) (nomark _)))).pt) (ss_cons (st_ret (sk_bl)) (ss_nil)) (ss_nil)) (ss_cons (st_ret (s_and C.E (s_cmp C.E (snd_eq C.E.hK (un64 C.E)) (s_bi C.E (callP (snd_len C.E.hK)) T.b_len (by decide +kernel) (sa_cons (sv 0) (sa_nil))) (s_bi C.E (callP (snd_len C.E.hK)) T.b_len (by decide +kernel) (sa_cons (sv 1) (sa_nil))) (nomark _)) (s_one (s_cmp C.E (snd_eq C.E.hK (un64 C.E)) (s_lc C rfl (si_rng1 C.E T.b_range (s_bi C.E (callP (snd_len C.E.hK)) T.b_len (by decide +kernel) (sa_cons (sv 1) (sa_nil)))) (own := [("k", 2)]) (blkOk_by (N := n16) (sc := defScope d16) (by decide +kernel)) rfl (by decide) (fun _ _ _ _ _ _ => sg_nm 2 C.nd) (fun _ _ _ _ _ _ C => sts_one (sb_not (sb_val C.E (s_call C (okf 16 (by decide)) T.kb_4 T.m_16 T.kp_16 (sa_cons (s_ix C.E (sv 0) (sv 2)) (sa_cons (s_ix C.E (sv 1) (sv 2)) (sa_nil))) (skw_nil))))) (fun _ _ _ _ _ _ C => sv 2)) (s_lst (sa_nil)) (nomark _))))) (ss_nil)))))
set_option maxHeartbeats 4000000 in
theorem t17 {Z : Ws} {dfs : Nat → Def} {n : Nat} (T : Txt Z dfs) {ok : Nat → Prop} (okf : ∀ i, i < 26 → ok i) {fa : Addr} {cd : Value} (hid : List Addr) (A : Around) (outer : List PySem.Env) (s : Shared) (H : Hp) (E : XK) (pn : List (Addr × Obj))
    (C : COk Z (cxG false pn Z.P Z.wd Z.K Z.mg Z.base n17 "_law_grown" (defScope d17) fa cd A outer s H E) (Z.w hid) (fun cls d _ H => E cls d H) (Z.cfg false n) false n dfs ok) :
    SSs (cxG false pn Z.P Z.wd Z.K Z.mg Z.base n17 "_law_grown" (defScope d17) fa cd A outer s H E) (Z.w hid) (fun cls d _ H => E cls d H) (Z.cfg false n) (defBody d17) b17 := by
  exact ss_cons (st_if (sb_val C.E (s_isT .list C.E T.b_isinstance T.b_list (by decide +kernel) (sv 0))) (ss_cons (st_ex (s_bm C.E rfl PySem.F.plainAttrs_list PySem.F.slot_list_append PySem.F.type_list_append (fun _ => snd_append) (sv 0) (sa_cons (sk_str) (sa_nil)))) (ss_nil)) (ss_nil)) (ss_cons (st_if (sb_val C.E (s_isT .tuple C.E T.b_isinstance T.b_tuple (by decide +kernel) (sv 0))) (ss_cons (st_for C.E.cm rfl C.po (si_seq C.E (sv 0)) (sg_nm 1 C.nd) (ss_cons (st_ex (s_call C (okf 17 (by decide)) T.kb_5 T.m_17 T.kp_17 (sa_cons (sv 1) (sa_nil)) (skw_nil))) (ss_nil))) (ss_nil)) (ss_nil)) (ss_cons (st_ret (s_bi C.E (callP (snd_repr C.E.hK (un80 C.E) C.E.gd)) T.b_repr (by decide +kernel) (sa_cons (sv 0) (sa_nil)))) (ss_nil)))
set_option maxHeartbeats 4000000 in
theorem h17 {Z : Ws} {dfs : Nat → Def} {n : Nat} (T : Txt Z dfs) {ok : Nat → Prop} (okh : ∀ i, i = 17 → ok i) {fa : Addr} {cd : Value} (hid : List Addr) (A : Around) (outer : List PySem.Env) (s : Shared) (H : Hp) (E : XK) (pn : List (Addr × Obj))
    (C : COk Z (cxG true pn Z.P Z.wd Z.K Z.mg Z.base n17 "_law_grown" (defScope d17) fa cd A outer s H E) (Z.w hid) (fun cls d _ H => E cls d H) (Z.cfg true n) true n dfs ok) :
    SSs (cxG true pn Z.P Z.wd Z.K Z.mg Z.base n17 "_law_grown" (defScope d17) fa cd A outer s H E) (Z.w hid) (fun cls d _ H => E cls d H) (Z.cfg true n) (defBody d17) b17 := by
  exact ss_cons (st_if (sb_val C.E (s_isT .list C.E T.b_isinstance T.b_list (by decide +kernel) (sv 0))) (ss_cons (st_ex (s_bm C.E rfl PySem.F.plainAttrs_list PySem.F.slot_list_append PySem.F.type_list_append (fun _ => snd_append) (sv 0) (sa_cons (sk_str) (sa_nil)))) (ss_nil)) (ss_nil)) (ss_cons (st_if (sb_val C.E (s_isT .tuple C.E T.b_isinstance T.b_tuple (by decide +kernel) (sv 0))) (ss_cons (st_forH C (sv 0) (sg_nm 1 C.nd) (ss_cons (st_ex (s_call C (okh 17 rfl) T.kb_5 T.m_17 T.kp_17 (sa_cons (sv 1) (sa_nil)) (skw_nil))) (ss_nil))) (ss_nil)) (ss_nil)) (ss_cons (st_ret (s_bi C.E (callP (snd_repr C.E.hK (un80 C.E) C.E.gd)) T.b_repr (by decide +kernel) (sa_cons (sv 0) (sa_nil)))) (ss_nil)))
set_option maxHeartbeats 4000000 in
theorem t18 {Z : Ws} {dfs : Nat → Def} {n : Nat} (T : Txt Z dfs) {ok : Nat → Prop} (okf : ∀ i, i < 26 → ok i) {fa : Addr} {cd : Value} (hid : List Addr) (A : Around) (outer : List PySem.Env) (s : Shared) (H : Hp) (E : XK) (pn : List (Addr × Obj))
    (C : COk Z (cxG false pn Z.P Z.wd Z.K Z.mg Z.base n18 "_law_line" (defScope d18) fa cd A outer s H E) (Z.w hid) (fun cls d _ H => E cls d H) (Z.cfg false n) false n dfs ok) :
    SSs (cxG false pn Z.P Z.wd Z.K Z.mg Z.base n18 "_law_line" (defScope d18) fa cd A outer s H E) (Z.w hid) (fun cls d _ H => E cls d H) (Z.cfg false n) (defBody d18) b18 := by
  exact ss_cons (st_ret (s_bm C.E rfl PySem.F.plainAttrs_str PySem.F.slot_str_join PySem.F.type_str_join (fun _ => snd_join C.E.hK) (sk_str) (sa_cons (s_lc C rfl (si_rng1 C.E T.b_range (s_ix C.E (s_lst (sa_cons (sk_int) (sa_cons (sk_int) (sa_cons (sk_int) (sa_cons (sk_int) (sa_cons (sk_int) (sa_cons (s_call C (okf 15 (by decide)) T.kb_6 T.m_15 T.kp_15 (sa_cons (sv 0) (sa_cons (sk_int) (sa_nil))) (skw_nil)) (sa_nil)))))))) (s_call C (okf 15 (by decide)) T.kb_6 T.m_15 T.kp_15 (sa_cons (sv 0) (sa_cons (sk_int) (sa_nil))) (skw_nil)))) (own := [("k", 1)]) (blkOk_by (N := n18) (sc := defScope d18) (by decide +kernel)) rfl (by decide) (fun _ _ _ _ _ _ => sg_nm 1 C.nd) (fun _ _ _ _ _ _ C => sts_nil) (fun _ _ _ _ _ _ C => s_ix C.E (sk_str) (s_call C (okf 15 (by decide)) T.kb_6 T.m_15 T.kp_15 (sa_cons (sv 0) (sa_cons (sk_int) (sa_nil))) (skw_nil)))) (sa_nil)))) (ss_nil)
set_option maxHeartbeats 4000000 in
theorem t19 {Z : Ws} {dfs : Nat → Def} {n : Nat} (T : Txt Z dfs) {ok : Nat → Prop} (okf : ∀ i, i < 26 → ok i) {fa : Addr} {cd : Value} (hid : List Addr) (A : Around) (outer : List PySem.Env) (s : Shared) (H : Hp) (E : XK) (pn : List (Addr × Obj))
    (C : COk Z (cxG false pn Z.P Z.wd Z.K Z.mg Z.base n19 "_law_opened" (defScope d19) fa cd A outer s H E) (Z.w hid) (fun cls d _ H => E cls d H) (Z.cfg false n) false n dfs ok) :
    SSs (cxG false pn Z.P Z.wd Z.K Z.mg Z.base n19 "_law_opened" (defScope d19) fa cd A outer s H E) (Z.w hid) (fun cls d _ H => E cls d H) (Z.cfg false n) (defBody d19) b19 := by
  exact ss_cons (st_if ((sw_or (sb_not (sb_val C.E (s_isT .str C.E T.b_isinstance T.b_str (by decide +kernel) (sv 0)))) (sw_or (sb_cmp C.E bo_isin (snd_in C.E.hK) (sk_str) (sv 0) (by with_unfolding_all rfl)) (sw_or1 (sb_cmp C.E bo_notin (snd_notin C.E.hK) (sk_str) (sv 0) (by with_unfolding_all rfl))))).pt) (ss_cons (st_ret (sk_non)) (ss_nil)) (ss_nil)) (ss_cons (st_par2 1 2 rfl C.nd (sa_cons (s_sl C.E (sv 0) so_none (so_some (s_bm C.E rfl PySem.F.plainAttrs_str PySem.F.slot_str_index PySem.F.type_str_index (fun _ => snd_sindex) (sv 0) (sa_cons (sk_str) (sa_nil))))) (sa_cons (s_sl C.E (sv 0) (so_some (s_bin C.E (snd_add C.E.hK false) (s_bm C.E rfl PySem.F.plainAttrs_str PySem.F.slot_str_index PySem.F.type_str_index (fun _ => snd_sindex) (sv 0) (sa_cons (sk_str) (sa_nil))) (sk_int))) so_none) (sa_nil)))) (ss_cons (st_if ((sw_or (sb_cmp C.E bo_eq (snd_eq C.E.hK (un64 C.E)) (sv 1) (sk_str) (nomark _)) (sw_or (sb_cmp C.E bo_ne (snd_ne C.E.hK (un64 C.E)) (s_lc C rfl (si_seq C.E (sv 1)) (own := [("sign", 3)]) (blkOk_by (N := n19) (sc := defScope d19) (by decide +kernel)) rfl (by decide) (fun _ _ _ _ _ _ => sg_nm 3 C.nd) (fun _ _ _ _ _ _ C => sts_one (sb_cmp C.E bo_notin (snd_notin C.E.hK) (sv 3) (sk_str) (by with_unfolding_all rfl))) (fun _ _ _ _ _ _ C => sv 3)) (s_lst (sa_nil)) (nomark _)) (sw_or1 ((sw_and (sb_cmp C.E bo_eq (snd_eq C.E.hK (un64 C.E)) (s_ix C.E (sv 1) (sk_int)) (sk_str) (nomark _)) (sw_and1 (sb_cmp C.E bo_ne (snd_ne C.E.hK (un64 C.E)) (sv 1) (sk_str) (nomark _)))).pt)))).pt) (ss_cons (st_ret (sk_non)) (ss_nil)) (ss_nil)) (ss_cons (st_if ((sw_or (sb_cmp C.E bo_gt snd_gt (s_bi C.E (callP (snd_len C.E.hK)) T.b_len (by decide +kernel) (sa_cons (sv 1) (sa_nil))) (sk_int) (nomark _)) (sw_or (sb_cmp C.E bo_ne (snd_ne C.E.hK (un64 C.E)) (s_bi C.E (callP (snd_len C.E.hK)) T.b_len (by decide +kernel) (sa_cons (sv 2) (sa_nil))) (s_bin C.E (snd_add C.E.hK false) (s_ty C.E (callP snd_int) T.b_int (by decide +kernel) (sa_cons (sv 1) (sa_nil))) (sk_int)) (nomark _)) (sw_or1 (sb_cmp C.E bo_ne (snd_ne C.E.hK (un64 C.E)) (s_sl C.E (sv 2) (so_some (s_neg C.E (sk_int))) so_none) (sk_str) (nomark _))))).pt) (ss_cons (st_ret (sk_non)) (ss_nil)) (ss_nil)) (ss_cons (st_ret (s_sl C.E (sv 2) so_none (so_some (s_neg C.E (sk_int))))) (ss_nil)))))
set_option maxHeartbeats 4000000 in
theorem t20 {Z : Ws} {dfs : Nat → Def} {n : Nat} (T : Txt Z dfs) {ok : Nat → Prop} (okf : ∀ i, i < 26 → ok i) (hZ : Z.okH = fun i => i = 17) {fa : Addr} {cd : Value} (hid : List Addr) (A : Around) (outer : List PySem.Env) (s : Shared) (H : Hp) (E : XK) (pn : List (Addr × Obj))
    (C : COk Z (cxG false pn Z.P Z.wd Z.K Z.mg Z.base n20 "_law_seals_right" (defScope d20) fa cd A outer s H E) (Z.w hid) (fun cls d _ H => E cls d H) (Z.cfg false n) false n dfs ok) :
    SSs (cxG false pn Z.P Z.wd Z.K Z.mg Z.base n20 "_law_seals_right" (defScope d20) fa cd A outer s H E) (Z.w hid) (fun cls d _ H => E cls d H) (Z.cfg false n) (defBody d20) b20 := by
  exact ss_cons (st_asg 1 C.nd (s_call C (okf 18 (by decide)) T.kb_7 T.m_18 T.kp_18 (sa_cons (sv 0) (sa_nil)) (skw_nil))) (ss_cons (st_asg 2 C.nd (s_bin C.E (snd_add C.E.hK false) (s_bin C.E (snd_add C.E.hK false) (s_bin C.E (snd_add C.E.hK false) (s_ty C.E (callP snd_str) T.b_str (by decide +kernel) (sa_cons (s_bi C.E (callP (snd_len C.E.hK)) T.b_len (by decide +kernel) (sa_cons (sv 1) (sa_nil))) (sa_nil))) (sk_str)) (sv 1)) (sk_str))) (ss_cons (st_if ((sw_or (sb_not (sb_val C.E (s_call C (okf 16 (by decide)) T.kb_4 T.m_16 T.kp_16 (sa_cons (s_call C (okf 11 (by decide)) T.kb_8 T.m_11 T.kp_11 (sa_cons (sv 1) (sa_nil)) (skw_nil)) (sa_cons (sv 2) (sa_nil))) (skw_nil)))) (sw_or (sb_not (sb_val C.E (s_call C (okf 16 (by decide)) T.kb_4 T.m_16 T.kp_16 (sa_cons (s_call0 C (okf 11 (by decide)) T.kb_9 T.m_11 T.kp_11 (skw_cons (sv 1) (skw_nil))) (sa_cons (sv 2) (sa_nil))) (skw_nil)))) (sw_or1 (sb_not (sb_val C.E (s_call C (okf 16 (by decide)) T.kb_4 T.m_16 T.kp_16 (sa_cons (s_call C (okf 12 (by decide)) T.kb_10 T.m_12 T.kp_12 (sa_cons (sv 2) (sa_nil)) (skw_nil)) (sa_cons (sv 1) (sa_nil))) (skw_nil))))))).pt) (ss_cons (st_ret (sk_bl)) (ss_nil)) (ss_nil)) (ss_cons (st_if (sb_cmp C.E bo_ne (snd_ne C.E.hK (un64 C.E)) (s_lc C rfl (si_rng1 C.E T.b_range (s_bi C.E (callP (snd_len C.E.hK)) T.b_len (by decide +kernel) (sa_cons (sv 2) (sa_nil)))) (own := [("k", 8)]) (blkOk_by (N := n20) (sc := defScope d20) (by decide +kernel)) rfl (by decide) (fun _ _ _ _ _ _ => sg_nm 8 C.nd) (fun _ _ _ _ _ _ C => sts_one (sb_notNone C.E (s_call C (okf 12 (by decide)) T.kb_10 T.m_12 T.kp_12 (sa_cons (s_sl C.E (sv 2) so_none (so_some (sv 8))) (sa_nil)) (skw_nil)))) (fun _ _ _ _ _ _ C => sv 8)) (s_lst (sa_nil)) (nomark _)) (ss_cons (st_ret (sk_bl)) (ss_nil)) (ss_nil)) (ss_cons (st_par2 3 4 rfl C.nd (sa_cons (s_call C (okf 15 (by decide)) T.kb_6 T.m_15 T.kp_15 (sa_cons (sv 0) (sa_cons (s_bi C.E (callP (snd_len C.E.hK)) T.b_len (by decide +kernel) (sa_cons (sv 2) (sa_nil))) (sa_nil))) (skw_nil)) (sa_cons (s_call C (okf 18 (by decide)) T.kb_7 T.m_18 T.kp_18 (sa_cons (sv 0) (sa_nil)) (skw_nil)) (sa_nil)))) (ss_cons (st_asg 5 C.nd (s_lst (sa_cons (s_bin C.E (snd_add C.E.hK false) (sv 2) (sk_str)) (sa_cons (s_bin C.E (snd_add C.E.hK false) (sv 2) (sk_str)) (sa_cons (s_bin C.E (snd_add C.E.hK false) (sk_str) (sv 2)) (sa_cons (s_bin C.E (snd_add C.E.hK false) (sk_str) (sv 2)) (sa_cons (s_bin C.E (snd_add C.E.hK false) (sk_str) (sv 2)) (sa_cons (s_bin C.E (snd_add C.E.hK false) (sk_str) (sv 2)) (sa_cons (s_sl C.E (sv 2) (so_some (sk_int)) so_none) (sa_cons (s_bm0 C.E rfl PySem.F.plainAttrs_str PySem.F.slot_str_upper PySem.F.type_str_upper (fun _ => snd_upper) (sv 2)) (sa_cons (s_bin C.E (snd_add C.E.hK false) (sv 2) (sk_str)) (sa_cons (s_bin C.E (snd_add C.E.hK false) (sv 2) (sv 2)) (sa_nil))))))))))))) (ss_cons (st_asg 5 C.nd (s_bin C.E (snd_add C.E.hK false) (sv 5) (s_lst (sa_cons (s_bin C.E (snd_add C.E.hK false) (s_sl C.E (sv 2) so_none (so_some (sv 3))) (s_sl C.E (sv 2) (so_some (s_bin C.E (snd_add C.E.hK false) (sv 3) (sk_int))) so_none)) (sa_cons (s_bin C.E (snd_add C.E.hK false) (s_bin C.E (snd_add C.E.hK false) (s_sl C.E (sv 2) so_none (so_some (sv 3))) (sk_str)) (s_sl C.E (sv 2) (so_some (sv 3)) so_none)) (sa_cons (s_bin C.E (snd_add C.E.hK false) (s_bin C.E (snd_add C.E.hK false) (s_sl C.E (sv 2) so_none (so_some (sv 3))) (sk_str)) (s_sl C.E (sv 2) (so_some (s_bin C.E (snd_add C.E.hK false) (sv 3) (sk_int))) so_none)) (sa_cons (s_bin C.E (snd_add C.E.hK false) (s_bin C.E (snd_add C.E.hK false) (s_ty C.E (callP snd_str) T.b_str (by decide +kernel) (sa_cons (s_bi C.E (callP (snd_len C.E.hK)) T.b_len (by decide +kernel) (sa_cons (sv 1) (sa_nil))) (sa_nil))) (sv 1)) (sk_str)) (sa_nil)))))))) (ss_cons (st_asg 5 C.nd (s_bin C.E (snd_add C.E.hK false) (sv 5) (s_lst (sa_cons (s_bin C.E (snd_add C.E.hK false) (s_bin C.E (snd_add C.E.hK false) (s_bin C.E (snd_add C.E.hK false) (s_ty C.E (callP snd_str) T.b_str (by decide +kernel) (sa_cons (s_bin C.E (snd_add C.E.hK false) (s_bi C.E (callP (snd_len C.E.hK)) T.b_len (by decide +kernel) (sa_cons (sv 1) (sa_nil))) (sk_int)) (sa_nil))) (sk_str)) (sv 1)) (sk_str)) (sa_cons (sv 4) (sa_cons (s_call C (okf 11 (by decide)) T.kb_8 T.m_11 T.kp_11 (sa_cons (sv 4) (sa_nil)) (skw_nil)) (sa_cons (s_bin C.E (snd_add C.E.hK false) (s_bin C.E (snd_add C.E.hK false) (s_bin C.E (snd_add C.E.hK false) (s_ty C.E (callP snd_str) T.b_str (by decide +kernel) (sa_cons (s_bi C.E (callP (snd_len C.E.hK)) T.b_len (by decide +kernel) (sa_cons (sv 1) (sa_nil))) (sa_nil))) (sk_str)) (sv 1)) (sk_str)) (sa_cons (sk_str) (sa_cons (sk_str) (sa_cons (sk_str) (sa_cons (sk_str) (sa_nil)))))))))))) (ss_cons (st_asg 5 C.nd (s_bin C.E (snd_add C.E.hK false) (sv 5) (s_lst (sa_cons (sk_non) (sa_cons (sk_int) (sa_cons (sk_bl) (sa_cons (s_tup (sa_cons (sv 2) (sa_nil))) (sa_cons (s_lst (sa_cons (sv 2) (sa_nil))) (sa_cons (s_dct0) (sa_cons (s_bi C.E (callP (snd_len C.E.hK)) T.b_len (by decide +kernel) (sa_cons (sv 1) (sa_nil))) (sa_cons (sk_str) (sa_cons (sk_str) (sa_cons (sk_str) (sa_cons (sk_str) (sa_nil))))))))))))))) (ss_cons (st_if (sb_cmp C.E bo_ne (snd_ne C.E.hK (un64 C.E)) (s_lc C rfl (si_seq C.E (sv 5)) (own := [("text", 9)]) (blkOk_by (N := n20) (sc := defScope d20) (by decide +kernel)) rfl (by decide) (fun _ _ _ _ _ _ => sg_nm 9 C.nd) (fun _ _ _ _ _ _ C => sts_one ((sw_or (sb_not (sb_val C.E (s_call C (okf 16 (by decide)) T.kb_4 T.m_16 T.kp_16 (sa_cons (s_call C (okf 12 (by decide)) T.kb_10 T.m_12 T.kp_12 (sa_cons (sv 9) (sa_nil)) (skw_nil)) (sa_cons (s_call C (okf 19 (by decide)) T.kb_11 T.m_19 T.kp_19 (sa_cons (sv 9) (sa_nil)) (skw_nil)) (sa_nil))) (skw_nil)))) (sw_or1 (sb_not (sb_val C.E (s_call C (okf 16 (by decide)) T.kb_4 T.m_16 T.kp_16 (sa_cons (s_call0 C (okf 12 (by decide)) T.kb_12 T.m_12 T.kp_12 (skw_cons (sv 9) (skw_nil))) (sa_cons (s_call C (okf 19 (by decide)) T.kb_11 T.m_19 T.kp_19 (sa_cons (sv 9) (sa_nil)) (skw_nil)) (sa_nil))) (skw_nil)))))).pt)) (fun _ _ _ _ _ _ C => sv 9)) (s_lst (sa_nil)) (nomark _)) (ss_cons (st_ret (sk_bl)) (ss_nil)) (ss_nil)) (ss_cons (st_for C.E.cm rfl C.po (si_seq C.E (s_lst (sa_cons (sk_non) (sa_cons (sk_int) (sa_cons (sk_bl) (sa_cons (s_lst (sa_cons (sv 1) (sa_nil))) (sa_cons (s_tup (sa_cons (sv 1) (sa_nil))) (sa_cons (s_dct0) (sa_cons (s_bin C.E (snd_add C.E.hK false) (sv 1) (sk_str)) (sa_cons (sk_str) (sa_cons (sk_int) (sa_nil)))))))))))) (sg_nm 6 C.nd) (ss_cons (st_for C.E.cm rfl C.po (si_rng1 C.E T.b_range (sk_int)) (sg_nm 7 C.nd) (ss_cons (st_try C rfl rfl rfl ⟨rfl, (by decide), .inl T.mc_NoWord⟩ (by intro k hk; rcases (by simpa using hk : k = 1 ∨ k = 2) with rfl | rfl <;> first | exact T.ex_NoWord_1 | exact T.ex_NoWord_2) (fun _ _ _ C => ss_cons (st_ex (s_ife (sb_cmp C.E bo_eq (snd_eq C.E.hK (un64 C.E)) (sv 7) (sk_int) (nomark _)) (s_call C (okf 11 (by decide)) T.kb_8 T.m_11 T.kp_11 (sa_cons (sv 6) (sa_nil)) (skw_nil)) (s_meth0 C (okf 4 (by decide)) T.kb_13 T.cls_0 T.me_4 (s_mk0 C (okf 3 (by decide)) T.kb_2 T.mk_0 T.mc_Store (skw_nil)) (skw_cons (sv 6) (skw_nil))))) (ss_cons (st_ret (sk_bl)) (ss_nil))) (fun a oe pn k fs dx hk hcs hz hf C => by obtain rfl : k = 2 := (by simpa using hcs); exact ss_cons (st_if ((sw_or (sb_not (sb_val C.E (s_eis C rfl hz hf T.xc_2 T.ko_2_PlanError T.b_isinstance T.mc_PlanError))) (sw_or1 (sb_cmp C.E bo_ne (snd_ne C.E.hK (un64 C.E)) (s_call C (by rw [hZ]) T.kb_5 T.m_17 T.kp_17 (sa_cons (sv 6) (sa_nil)) (skw_nil)) (s_bi C.E (callP (snd_repr C.E.hK (un80 C.E) C.E.gd)) T.b_repr (by decide +kernel) (sa_cons (s_efld C rfl hz hf T.xf_2 T.xno_2) (sa_nil))) (nomark _)))).pt) (ss_cons (st_ret (sk_bl)) (ss_nil)) (ss_nil)) (ss_nil))) (ss_nil))) (ss_nil))) (ss_cons (st_ret (sk_bl)) (ss_nil))))))))))))
set_option maxHeartbeats 4000000 in
theorem t21 {Z : Ws} {dfs : Nat → Def} {n : Nat} (T : Txt Z dfs) {ok : Nat → Prop} (okf : ∀ i, i < 26 → ok i) {fa : Addr} {cd : Value} (hid : List Addr) (A : Around) (outer : List PySem.Env) (s : Shared) (H : Hp) (E : XK) (pn : List (Addr × Obj))
    (C : COk Z (cxG false pn Z.P Z.wd Z.K Z.mg Z.base n21 "_law_shown_right" (defScope d21) fa cd A outer s H E) (Z.w hid) (fun cls d _ H => E cls d H) (Z.cfg false n) false n dfs ok) :
    SSs (cxG false pn Z.P Z.wd Z.K Z.mg Z.base n21 "_law_shown_right" (defScope d21) fa cd A outer s H E) (Z.w hid) (fun cls d _ H => E cls d H) (Z.cfg false n) (defBody d21) b21 := by
  exact ss_cons (st_asg 3 C.nd (s_meth0 C (okf 6 (by decide)) T.kb_14 T.cls_0 T.me_6 (sv 0) (skw_nil))) (ss_cons (st_if ((sw_or (sb_not (sb_val C.E (s_call C (okf 16 (by decide)) T.kb_4 T.m_16 T.kp_16 (sa_cons (sv 3) (sa_cons (sv 1) (sa_nil))) (skw_nil)))) (sw_or1 (sb_not (sb_val C.E (s_call C (okf 16 (by decide)) T.kb_4 T.m_16 T.kp_16 (sa_cons (s_meth0 C (okf 7 (by decide)) T.kb_15 T.cls_0 T.me_7 (sv 0) (skw_nil)) (sa_cons (sv 2) (sa_nil))) (skw_nil)))))).pt) (ss_cons (st_ret (sk_bl)) (ss_nil)) (ss_nil)) (ss_cons (st_ex (s_bm C.E rfl PySem.F.plainAttrs_list PySem.F.slot_list_insert PySem.F.type_list_insert (fun _ => snd_insert) (sv 3) (sa_cons (sk_int) (sa_cons (sk_str) (sa_nil))))) (ss_cons (st_ret (s_call C (okf 16 (by decide)) T.kb_4 T.m_16 T.kp_16 (sa_cons (s_meth0 C (okf 6 (by decide)) T.kb_14 T.cls_0 T.me_6 (sv 0) (skw_nil)) (sa_cons (sv 1) (sa_nil))) (skw_nil))) (ss_nil))))
set_option maxHeartbeats 4000000 in
theorem t22 {Z : Ws} {dfs : Nat → Def} {n : Nat} (T : Txt Z dfs) {ok : Nat → Prop} (okf : ∀ i, i < 26 → ok i) (hZ : Z.okH = fun i => i = 17) {fa : Addr} {cd : Value} (hid : List Addr) (A : Around) (outer : List PySem.Env) (s : Shared) (H : Hp) (E : XK) (pn : List (Addr × Obj))
    (C : COk Z (cxG false pn Z.P Z.wd Z.K Z.mg Z.base n22 "_law_refused" (defScope d22) fa cd A outer s H E) (Z.w hid) (fun cls d _ H => E cls d H) (Z.cfg false n) false n dfs ok) :
    SSs (cxG false pn Z.P Z.wd Z.K Z.mg Z.base n22 "_law_refused" (defScope d22) fa cd A outer s H E) (Z.w hid) (fun cls d _ H => E cls d H) (Z.cfg false n) (defBody d22) b22 := by
  exact ss_cons (st_try C rfl rfl rfl ⟨rfl, (by decide), .inl T.mc_NoNumber⟩ (by intro k hk; rcases (by simpa using hk : k = 1 ∨ k = 2) with rfl | rfl <;> first | exact T.ex_NoNumber_1 | exact T.ex_NoNumber_2) (fun _ _ _ C => ss_cons (st_if (sb_cmp C.E bo_eq (snd_eq C.E.hK (un64 C.E)) (sv 1) (sk_int) (nomark _)) (ss_cons (st_ex (s_meth0 C (okf 8 (by decide)) T.kb_16 T.cls_0 T.me_8 (sv 0) (skw_cons (s_ix C.E (sv 2) (sk_int)) (skw_cons (s_ix C.E (sv 2) (sk_int)) (skw_nil))))) (ss_nil)) (ss_cons (st_ex (s_meth C (okf 9 (by decide)) T.kb_17 T.cls_0 T.me_9 (sv 0) (sa_cons (s_ix C.E (sv 2) (sk_int)) (sa_nil)) (skw_nil))) (ss_nil))) (ss_nil)) (fun a oe pn k fs dx hk hcs hz hf C => by obtain rfl : k = 1 := (by simpa using hcs); exact ss_cons (st_ret (s_lst (sa_cons (sk_str) (sa_cons (s_efld C rfl hz hf T.xf_1 T.xno_1) (sa_nil))))) (ss_nil))) (ss_cons (st_ret (s_lst (sa_cons (sk_str) (sa_cons (sk_non) (sa_nil))))) (ss_nil))
set_option maxHeartbeats 4000000 in
theorem t23 {Z : Ws} {dfs : Nat → Def} {n : Nat} (T : Txt Z dfs) {ok : Nat → Prop} (okf : ∀ i, i < 26 → ok i) {fa : Addr} {cd : Value} (hid : List Addr) (A : Around) (outer : List PySem.Env) (s : Shared) (H : Hp) (E : XK) (pn : List (Addr × Obj))
    (C : COk Z (cxG false pn Z.P Z.wd Z.K Z.mg Z.base n23 "_law_refusals_right" (defScope d23) fa cd A outer s H E) (Z.w hid) (fun cls d _ H => E cls d H) (Z.cfg false n) false n dfs ok) :
    SSs (cxG false pn Z.P Z.wd Z.K Z.mg Z.base n23 "_law_refusals_right" (defScope d23) fa cd A outer s H E) (Z.w hid) (fun cls d _ H => E cls d H) (Z.cfg false n) (defBody d23) b23 := by
  exact ss_cons (st_asg 3 C.nd (s_bin C.E snd_sub (s_bi C.E (callP (snd_len C.E.hK)) T.b_len (by decide +kernel) (sa_cons (sv 1) (sa_nil))) (sv 2))) (ss_cons (st_asgLc C rfl (si_seq C.E (s_lst (sa_cons (s_neg C.E (sk_int)) (sa_cons (s_bin C.E (snd_add C.E.hK false) (sv 3) (sk_int)) (sa_cons (sk_non) (sa_cons (sk_bl) (sa_cons (sk_bl) (sa_cons (sk_str) (sa_cons (s_lst (sa_cons (sk_int) (sa_nil))) (sa_cons (s_tup (sa_cons (sk_int) (sa_nil))) (sa_cons (s_dct0) (sa_nil)))))))))))) (own := [("value", 11)]) (blkOk_by (N := n23) (sc := defScope d23) (by decide +kernel)) rfl (by decide) (fun _ _ _ _ _ _ => sg_nm 11 C.nd) (fun _ _ _ _ _ _ C => sts_nil) (fun _ _ _ _ _ _ C => s_lst (sa_cons (sk_int) (sa_cons (s_lst (sa_cons (sv 11) (sa_cons (s_neg C.E (sk_int)) (sa_nil)))) (sa_cons (sk_int) (sa_nil))))) (sw_true rfl rfl rfl rfl)) (ss_cons (st_for C.E.cm rfl C.po (si_rng1 C.E T.b_range (s_bin C.E (snd_add C.E.hK false) (sv 3) (sk_int))) (sg_nm 5 C.nd) (ss_cons (st_asg 9 C.nd (s_ife (sb_cmp C.E bo_lt snd_lt (sv 5) (sv 3) (nomark _)) (s_bi C.E (callP (snd_len C.E.hK)) T.b_len (by decide +kernel) (sa_cons (s_ix C.E (sv 1) (s_bin C.E (snd_add C.E.hK false) (sv 2) (sv 5))) (sa_nil))) (sk_int))) (ss_cons (st_asg 4 C.nd (s_bin C.E (snd_add C.E.hK false) (sv 4) (s_lc C rfl (si_seq C.E (s_lst (sa_cons (s_bin C.E (snd_add C.E.hK false) (sv 9) (sk_int)) (sa_cons (s_neg C.E (sk_int)) (sa_cons (sk_non) (sa_cons (sk_bl) (sa_cons (sk_str) (sa_cons (s_lst (sa_cons (sk_int) (sa_nil))) (sa_nil))))))))) (own := [("value", 11)]) (blkOk_by (N := n23) (sc := defScope d23) (by decide +kernel)) rfl (by decide) (fun _ _ _ _ _ _ => sg_nm 11 C.nd) (fun _ _ _ _ _ _ C => sts_nil) (fun _ _ _ _ _ _ C => s_lst (sa_cons (sk_int) (sa_cons (s_lst (sa_cons (sv 5) (sa_cons (sv 11) (sa_nil)))) (sa_cons (sk_int) (sa_nil)))))))) (ss_nil)))) (ss_cons (st_asg 4 C.nd (s_bin C.E (snd_add C.E.hK false) (sv 4) (s_lc C rfl (si_seq C.E (s_lst (sa_cons (s_neg C.E (sk_int)) (sa_cons (s_bin C.E (snd_add C.E.hK false) (s_bi C.E (callP (snd_len C.E.hK)) T.b_len (by decide +kernel) (sa_cons (sv 1) (sa_nil))) (sk_int)) (sa_cons (sk_non) (sa_cons (sk_bl) (sa_cons (sk_bl) (sa_cons (sk_str) (sa_cons (s_lst (sa_cons (sk_int) (sa_nil))) (sa_cons (s_tup (sa_cons (sk_int) (sa_nil))) (sa_nil))))))))))) (own := [("value", 11)]) (blkOk_by (N := n23) (sc := defScope d23) (by decide +kernel)) rfl (by decide) (fun _ _ _ _ _ _ => sg_nm 11 C.nd) (fun _ _ _ _ _ _ C => sts_nil) (fun _ _ _ _ _ _ C => s_lst (sa_cons (sk_int) (sa_cons (s_lst (sa_cons (sv 11) (sa_nil))) (sa_cons (sk_int) (sa_nil)))))))) (ss_cons (st_for C.E.cm rfl C.po (si_seq C.E (sv 4)) (sg_tp C.E.hK rfl (sgs_cons 6 C.nd (sgs_cons 7 C.nd (sgs_cons 8 C.nd (sgs_nil))))) (ss_cons (st_asg 10 C.nd (s_call C (okf 22 (by decide)) T.kb_18 T.m_22 T.kp_22 (sa_cons (sv 0) (sa_cons (sv 6) (sa_cons (sv 7) (sa_nil)))) (skw_nil))) (ss_cons (st_if ((sw_or (sb_cmp C.E bo_ne (snd_ne C.E.hK (un64 C.E)) (s_ix C.E (sv 10) (sk_int)) (sk_str) (nomark _)) (sw_or1 (sb_cmp C.E bo_ne (snd_ne C.E.hK (un64 C.E)) (s_call C (okf 17 (by decide)) T.kb_5 T.m_17 T.kp_17 (sa_cons (s_ix C.E (sv 7) (sv 8)) (sa_nil)) (skw_nil)) (s_bi C.E (callP (snd_repr C.E.hK (un80 C.E) C.E.gd)) T.b_repr (by decide +kernel) (sa_cons (s_ix C.E (sv 10) (sk_int)) (sa_nil))) (nomark _)))).pt) (ss_cons (st_ret (sk_bl)) (ss_nil)) (ss_nil)) (ss_nil)))) (ss_cons (st_ret (s_call C (okf 21 (by decide)) T.kb_19 T.m_21 T.kp_21 (sa_cons (sv 0) (sa_cons (sv 1) (sa_cons (sv 2) (sa_nil)))) (skw_nil))) (ss_nil))))))
set_option maxHeartbeats 4000000 in
theorem t24 {Z : Ws} {dfs : Nat → Def} {n : Nat} (T : Txt Z dfs) {ok : Nat → Prop} (okf : ∀ i, i < 26 → ok i) {fa : Addr} {cd : Value} (hid : List Addr) (A : Around) (outer : List PySem.Env) (s : Shared) (H : Hp) (E : XK) (pn : List (Addr × Obj))
    (C : COk Z (cxG false pn Z.P Z.wd Z.K Z.mg Z.base n24 "_law_store_right" (defScope d24) fa cd A outer s H E) (Z.w hid) (fun cls d _ H => E cls d H) (Z.cfg false n) false n dfs ok) :
    SSs (cxG false pn Z.P Z.wd Z.K Z.mg Z.base n24 "_law_store_right" (defScope d24) fa cd A outer s H E) (Z.w hid) (fun cls d _ H => E cls d H) (Z.cfg false n) (defBody d24) b24 := by
  exact ss_cons (st_par3 1 2 3 rfl C.nd (sa_cons (s_mk0 C (okf 3 (by decide)) T.kb_2 T.mk_0 T.mc_Store (skw_nil)) (sa_cons (s_lst (sa_nil)) (sa_cons (sk_int) (sa_nil))))) (ss_cons (st_for C.E.cm rfl C.po (si_rng1 C.E T.b_range (s_bin C.E (snd_add C.E.hK false) (sk_int) (s_call C (okf 15 (by decide)) T.kb_6 T.m_15 T.kp_15 (sa_cons (sv 0) (sa_cons (sk_int) (sa_nil))) (skw_nil)))) (sg_nm 4 C.nd) (ss_cons (st_asg 5 C.nd (s_call C (okf 15 (by decide)) T.kb_6 T.m_15 T.kp_15 (sa_cons (sv 0) (sa_cons (sk_int) (sa_nil))) (skw_nil))) (ss_cons (st_asg 6 C.nd (s_bin C.E snd_sub (s_bi C.E (callP (snd_len C.E.hK)) T.b_len (by decide +kernel) (sa_cons (sv 2) (sa_nil))) (sv 3))) (ss_cons (st_if (sb_cmp C.E bo_lt snd_lt (sv 5) (sk_int) (nomark _)) (ss_cons (st_asg 7 C.nd (s_call C (okf 18 (by decide)) T.kb_7 T.m_18 T.kp_18 (sa_cons (sv 0) (sa_nil)) (skw_nil))) (ss_cons (st_asg 2 C.nd (s_bin C.E (snd_add C.E.hK false) (sv 2) (s_lst (sa_cons (sv 7) (sa_nil))))) (ss_cons (st_asg 8 C.nd (s_ife (sb_cmp C.E bo_lt snd_lt (sv 5) (sk_int) (nomark _)) (s_meth C (okf 4 (by decide)) T.kb_20 T.cls_0 T.me_4 (sv 1) (sa_cons (sv 7) (sa_nil)) (skw_nil)) (s_meth0 C (okf 4 (by decide)) T.kb_13 T.cls_0 T.me_4 (sv 1) (skw_cons (sv 7) (skw_nil))))) (ss_nil)))) (ss_cons (st_if (sb_cmp C.E bo_eq (snd_eq C.E.hK (un64 C.E)) (sv 5) (sk_int) (nomark _)) (ss_cons (st_par2 3 8 rfl C.nd (sa_cons (s_bi C.E (callP (snd_len C.E.hK)) T.b_len (by decide +kernel) (sa_cons (sv 2) (sa_nil))) (sa_cons (s_meth0 C (okf 5 (by decide)) T.kb_21 T.cls_0 T.me_5 (sv 1) (skw_nil)) (sa_nil)))) (ss_nil)) (ss_cons (st_if (sb_cmp C.E bo_eq (snd_eq C.E.hK (un64 C.E)) (sv 5) (sk_int) (nomark _)) (ss_cons (st_asg 9 C.nd (s_meth0 C (okf 10 (by decide)) T.kb_22 T.cls_0 T.me_10 (sv 1) (skw_nil))) (ss_cons (st_if (sb_not (sb_val C.E (s_call C (okf 21 (by decide)) T.kb_19 T.m_21 T.kp_21 (sa_cons (sv 9) (sa_cons (sv 2) (sa_cons (sv 3) (sa_nil)))) (skw_nil)))) (ss_cons (st_ret (sk_bl)) (ss_nil)) (ss_nil)) (ss_cons (st_ex (s_meth C (okf 4 (by decide)) T.kb_20 T.cls_0 T.me_4 (sv 9) (sa_cons (sk_str) (sa_nil)) (skw_nil))) (ss_cons (st_ex (s_meth0 C (okf 5 (by decide)) T.kb_21 T.cls_0 T.me_5 (sv 9) (skw_nil))) (ss_cons (st_ex (s_meth C (okf 9 (by decide)) T.kb_17 T.cls_0 T.me_9 (sv 9) (sa_cons (sk_int) (sa_nil)) (skw_nil))) (ss_cons (st_asg 8 C.nd (sk_non)) (ss_nil))))))) (ss_cons (st_if (sb_cmp C.E bo_eq (snd_eq C.E.hK (un64 C.E)) (sv 5) (sk_int) (nomark _)) (ss_cons (st_asg 10 C.nd (s_call C (okf 15 (by decide)) T.kb_6 T.m_15 T.kp_15 (sa_cons (sv 0) (sa_cons (s_bin C.E (snd_add C.E.hK false) (s_bi C.E (callP (snd_len C.E.hK)) T.b_len (by decide +kernel) (sa_cons (sv 2) (sa_nil))) (sk_int)) (sa_nil))) (skw_nil))) (ss_cons (st_par3 2 3 8 rfl C.nd (sa_cons (s_sl C.E (sv 2) so_none (so_some (sv 10))) (sa_cons (sv 10) (sa_cons (s_meth0 C (okf 9 (by decide)) T.kb_23 T.cls_0 T.me_9 (sv 1) (skw_cons (sv 10) (skw_nil))) (sa_nil))))) (ss_nil))) (ss_cons (st_asg 10 C.nd (s_call C (okf 15 (by decide)) T.kb_6 T.m_15 T.kp_15 (sa_cons (sv 0) (sa_cons (s_bin C.E (snd_add C.E.hK false) (sv 6) (sk_int)) (sa_nil))) (skw_nil))) (ss_cons (st_asg 11 C.nd (s_sl C.E (sv 2) (so_some (s_bin C.E (snd_add C.E.hK false) (sv 3) (sv 10))) (so_some (s_bin C.E (snd_add C.E.hK false) (s_bin C.E (snd_add C.E.hK false) (sv 3) (sv 10)) (sk_int))))) (ss_cons (st_asg 12 C.nd (s_ix C.E (s_lst (sa_cons (sk_int) (sa_cons (s_bi C.E (callP (snd_len C.E.hK)) T.b_len (by decide +kernel) (sa_cons (s_bm C.E rfl PySem.F.plainAttrs_str PySem.F.slot_str_join PySem.F.type_str_join (fun _ => snd_join C.E.hK) (sk_str) (sa_cons (sv 11) (sa_nil))) (sa_nil))) (sa_cons (s_call C (okf 15 (by decide)) T.kb_6 T.m_15 T.kp_15 (sa_cons (sv 0) (sa_cons (s_bin C.E (snd_add C.E.hK false) (s_bi C.E (callP (snd_len C.E.hK)) T.b_len (by decide +kernel) (sa_cons (s_bm C.E rfl PySem.F.plainAttrs_str PySem.F.slot_str_join PySem.F.type_str_join (fun _ => snd_join C.E.hK) (sk_str) (sa_cons (sv 11) (sa_nil))) (sa_nil))) (sk_int)) (sa_nil))) (skw_nil)) (sa_nil))))) (s_call C (okf 15 (by decide)) T.kb_6 T.m_15 T.kp_15 (sa_cons (sv 0) (sa_cons (sk_int) (sa_nil))) (skw_nil)))) (ss_cons (st_asg 8 C.nd (s_ife (sb_cmp C.E bo_eq (snd_eq C.E.hK (un64 C.E)) (sv 5) (sk_int) (nomark _)) (s_meth C (okf 8 (by decide)) T.kb_24 T.cls_0 T.me_8 (sv 1) (sa_cons (sv 10) (sa_cons (sv 12) (sa_nil))) (skw_nil)) (s_meth0 C (okf 8 (by decide)) T.kb_25 T.cls_0 T.me_8 (sv 1) (skw_cons (sv 12) (skw_cons (sv 10) (skw_nil)))))) (ss_cons (st_asg 2 C.nd (s_bin C.E (snd_add C.E.hK false) (s_sl C.E (sv 2) so_none (so_some (s_bin C.E (snd_add C.E.hK false) (sv 3) (sv 10)))) (s_ife (sb_cmp C.E bo_gt snd_gt (sv 12) (sk_int) (nomark _)) (s_lst (sa_cons (s_sl C.E (s_ix C.E (sv 11) (sk_int)) so_none (so_some (sv 12))) (sa_nil))) (s_lst (sa_nil))))) (ss_cons (st_asg 3 C.nd (s_bi C.E (callP (snd_len C.E.hK)) T.b_len (by decide +kernel) (sa_cons (sv 2) (sa_nil)))) (ss_nil)))))))) (ss_nil))) (ss_nil))) (ss_nil))) (ss_cons (st_if ((sw_or (sb_notNone C.E (sv 8)) (sw_or1 (sb_not (sb_val C.E (s_call C (okf 21 (by decide)) T.kb_19 T.m_21 T.kp_21 (sa_cons (sv 1) (sa_cons (sv 2) (sa_cons (sv 3) (sa_nil)))) (skw_nil)))))).pt) (ss_cons (st_ret (sk_bl)) (ss_nil)) (ss_nil)) (ss_nil)))))) (ss_cons (st_ret (s_call C (okf 23 (by decide)) T.kb_26 T.m_23 T.kp_23 (sa_cons (sv 1) (sa_cons (sv 2) (sa_cons (sv 3) (sa_nil)))) (skw_nil))) (ss_nil)))
set_option maxHeartbeats 4000000 in
theorem t25 {Z : Ws} {dfs : Nat → Def} {n : Nat} (T : Txt Z dfs) {ok : Nat → Prop} (okf : ∀ i, i < 26 → ok i) {fa : Addr} {cd : Value} (hid : List Addr) (A : Around) (outer : List PySem.Env) (s : Shared) (H : Hp) (E : XK) (pn : List (Addr × Obj))
    (C : COk Z (cxG false pn Z.P Z.wd Z.K Z.mg Z.base n25 "law" (defScope d25) fa cd A outer s H E) (Z.w hid) (fun cls d _ H => E cls d H) (Z.cfg false n) false n dfs ok) :
    SSs (cxG false pn Z.P Z.wd Z.K Z.mg Z.base n25 "law" (defScope d25) fa cd A outer s H E) (Z.w hid) (fun cls d _ H => E cls d H) (Z.cfg false n) (defBody d25) b25 := by
  exact ss_cons (st_for C.E.cm rfl C.po (si_rng1 C.E T.b_range (s_bi C.E (callK rfl snd_max) T.b_max (by decide +kernel) (sa_cons (sk_int) (sa_cons (s_bi C.E (callK rfl snd_min) T.b_min (by decide +kernel) (sa_cons (sk_int) (sa_cons (s_bi C.E (callP (snd_len C.E.hK)) T.b_len (by decide +kernel) (sa_cons (sv 0) (sa_nil))) (sa_nil)))) (sa_nil))))) (sg_nm 1 C.nd) (ss_cons (st_asg 2 C.nd (s_call C (okf 14 (by decide)) T.kb_27 T.m_14 T.kp_14 (sa_cons (s_call C (okf 13 (by decide)) T.kb_28 T.m_13 T.kp_13 (sa_cons (sv 0) (sa_cons (sv 1) (sa_nil))) (skw_nil)) (sa_nil)) (skw_nil))) (ss_cons (st_if ((sw_or (sb_not (sb_val C.E (s_call C (okf 20 (by decide)) T.kb_29 T.m_20 T.kp_20 (sa_cons (sv 2) (sa_nil)) (skw_nil)))) (sw_or1 (sb_not (sb_val C.E (s_call C (okf 24 (by decide)) T.kb_30 T.m_24 T.kp_24 (sa_cons (sv 2) (sa_nil)) (skw_nil)))))).pt) (ss_cons (st_ret (sk_bl)) (ss_nil)) (ss_nil)) (ss_nil)))) (ss_cons (st_ret (sk_bl)) (ss_nil))
structure Src (Z : Ws) (dfs : Nat → Def) : Prop where
  f0 : FunG Z.K "is_whole" "is_whole" d0 (dfs 0).f (dfs 0).fd
  p0 : (dfs 0).ps = q0
  f1 : FunG Z.K "number_in" "number_in" d1 (dfs 1).f (dfs 1).fd
  p1 : (dfs 1).ps = q1
  f2 : FunG Z.K "need_line" "need_line" d2 (dfs 2).f (dfs 2).fd
  p2 : (dfs 2).ps = q2
  f3 : FunG Z.K "__init__" "Store.__init__" d3 (dfs 3).f (dfs 3).fd
  p3 : (dfs 3).ps = q3
  f4 : FunG Z.K "write" "Store.write" d4 (dfs 4).f (dfs 4).fd
  p4 : (dfs 4).ps = q4
  f5 : FunG Z.K "sync" "Store.sync" d5 (dfs 5).f (dfs 5).fd
  p5 : (dfs 5).ps = q5
  f6 : FunG Z.K "lines" "Store.lines" d6 (dfs 6).f (dfs 6).fd
  p6 : (dfs 6).ps = q6
  f7 : FunG Z.K "safe" "Store.safe" d7 (dfs 7).f (dfs 7).fd
  p7 : (dfs 7).ps = q7
  f8 : FunG Z.K "crash" "Store.crash" d8 (dfs 8).f (dfs 8).fd
  p8 : (dfs 8).ps = q8
  f9 : FunG Z.K "keep" "Store.keep" d9 (dfs 9).f (dfs 9).fd
  p9 : (dfs 9).ps = q9
  f10 : FunG Z.K "copied" "Store.copied" d10 (dfs 10).f (dfs 10).fd
  p10 : (dfs 10).ps = q10
  f11 : FunG Z.K "sealed" "sealed" d11 (dfs 11).f (dfs 11).fd
  p11 : (dfs 11).ps = q11
  f12 : FunG Z.K "opened" "opened" d12 (dfs 12).f (dfs 12).fd
  p12 : (dfs 12).ps = q12
  f13 : FunG Z.K "_law_cell" "_law_cell" d13 (dfs 13).f (dfs 13).fd
  p13 : (dfs 13).ps = q13
  f14 : FunG Z.K "_law_box" "_law_box" d14 (dfs 14).f (dfs 14).fd
  p14 : (dfs 14).ps = q14
  f15 : FunG Z.K "_law_take" "_law_take" d15 (dfs 15).f (dfs 15).fd
  p15 : (dfs 15).ps = q15
  f16 : FunG Z.K "_law_same" "_law_same" d16 (dfs 16).f (dfs 16).fd
  p16 : (dfs 16).ps = q16
  f17 : FunG Z.K "_law_grown" "_law_grown" d17 (dfs 17).f (dfs 17).fd
  p17 : (dfs 17).ps = q17
  f18 : FunG Z.K "_law_line" "_law_line" d18 (dfs 18).f (dfs 18).fd
  p18 : (dfs 18).ps = q18
  f19 : FunG Z.K "_law_opened" "_law_opened" d19 (dfs 19).f (dfs 19).fd
  p19 : (dfs 19).ps = q19
  f20 : FunG Z.K "_law_seals_right" "_law_seals_right" d20 (dfs 20).f (dfs 20).fd
  p20 : (dfs 20).ps = q20
  f21 : FunG Z.K "_law_shown_right" "_law_shown_right" d21 (dfs 21).f (dfs 21).fd
  p21 : (dfs 21).ps = q21
  f22 : FunG Z.K "_law_refused" "_law_refused" d22 (dfs 22).f (dfs 22).fd
  p22 : (dfs 22).ps = q22
  f23 : FunG Z.K "_law_refusals_right" "_law_refusals_right" d23 (dfs 23).f (dfs 23).fd
  p23 : (dfs 23).ps = q23
  f24 : FunG Z.K "_law_store_right" "_law_store_right" d24 (dfs 24).f (dfs 24).fd
  p24 : (dfs 24).ps = q24
  f25 : FunG Z.K "law" "law" d25 (dfs 25).f (dfs 25).fd
  p25 : (dfs 25).ps = q25
theorem sc0 : FnScope n0 q0 (defScope d0) := ⟨rfl, rfl, rfl, by decide +kernel, rfl, by decide +kernel, by decide +kernel⟩
theorem sc1 : FnScope n1 q1 (defScope d1) := ⟨rfl, rfl, rfl, by decide +kernel, rfl, by decide +kernel, by decide +kernel⟩
theorem sc2 : FnScope n2 q2 (defScope d2) := ⟨rfl, rfl, rfl, by decide +kernel, rfl, by decide +kernel, by decide +kernel⟩
theorem sc3 : FnScope n3 q3 (defScope d3) := ⟨rfl, rfl, rfl, by decide +kernel, rfl, by decide +kernel, by decide +kernel⟩
theorem sc4 : FnScope n4 q4 (defScope d4) := ⟨rfl, rfl, rfl, by decide +kernel, rfl, by decide +kernel, by decide +kernel⟩
theorem sc5 : FnScope n5 q5 (defScope d5) := ⟨rfl, rfl, rfl, by decide +kernel, rfl, by decide +kernel, by decide +kernel⟩
theorem sc6 : FnScope n6 q6 (defScope d6) := ⟨rfl, rfl, rfl, by decide +kernel, rfl, by decide +kernel, by decide +kernel⟩
theorem sc7 : FnScope n7 q7 (defScope d7) := ⟨rfl, rfl, rfl, by decide +kernel, rfl, by decide +kernel, by decide +kernel⟩
theorem sc8 : FnScope n8 q8 (defScope d8) := ⟨rfl, rfl, rfl, by decide +kernel, rfl, by decide +kernel, by decide +kernel⟩
theorem sc9 : FnScope n9 q9 (defScope d9) := ⟨rfl, rfl, rfl, by decide +kernel, rfl, by decide +kernel, by decide +kernel⟩
theorem sc10 : FnScope n10 q10 (defScope d10) := ⟨rfl, rfl, rfl, by decide +kernel, rfl, by decide +kernel, by decide +kernel⟩
theorem sc11 : FnScope n11 q11 (defScope d11) := ⟨rfl, rfl, rfl, by decide +kernel, rfl, by decide +kernel, by decide +kernel⟩
theorem sc12 : FnScope n12 q12 (defScope d12) := ⟨rfl, rfl, rfl, by decide +kernel, rfl, by decide +kernel, by decide +kernel⟩
theorem sc13 : FnScope n13 q13 (defScope d13) := ⟨rfl, rfl, rfl, by decide +kernel, rfl, by decide +kernel, by decide +kernel⟩
theorem sc14 : FnScope n14 q14 (defScope d14) := ⟨rfl, rfl, rfl, by decide +kernel, rfl, by decide +kernel, by decide +kernel⟩
theorem sc15 : FnScope n15 q15 (defScope d15) := ⟨rfl, rfl, rfl, by decide +kernel, rfl, by decide +kernel, by decide +kernel⟩
theorem sc16 : FnScope n16 q16 (defScope d16) := ⟨rfl, rfl, rfl, by decide +kernel, rfl, by decide +kernel, by decide +kernel⟩
theorem sc17 : FnScope n17 q17 (defScope d17) := ⟨rfl, rfl, rfl, by decide +kernel, rfl, by decide +kernel, by decide +kernel⟩
theorem sc18 : FnScope n18 q18 (defScope d18) := ⟨rfl, rfl, rfl, by decide +kernel, rfl, by decide +kernel, by decide +kernel⟩
theorem sc19 : FnScope n19 q19 (defScope d19) := ⟨rfl, rfl, rfl, by decide +kernel, rfl, by decide +kernel, by decide +kernel⟩
theorem sc20 : FnScope n20 q20 (defScope d20) := ⟨rfl, rfl, rfl, by decide +kernel, rfl, by decide +kernel, by decide +kernel⟩
theorem sc21 : FnScope n21 q21 (defScope d21) := ⟨rfl, rfl, rfl, by decide +kernel, rfl, by decide +kernel, by decide +kernel⟩
theorem sc22 : FnScope n22 q22 (defScope d22) := ⟨rfl, rfl, rfl, by decide +kernel, rfl, by decide +kernel, by decide +kernel⟩
theorem sc23 : FnScope n23 q23 (defScope d23) := ⟨rfl, rfl, rfl, by decide +kernel, rfl, by decide +kernel, by decide +kernel⟩
theorem sc24 : FnScope n24 q24 (defScope d24) := ⟨rfl, rfl, rfl, by decide +kernel, rfl, by decide +kernel, by decide +kernel⟩
theorem sc25 : FnScope n25 q25 (defScope d25) := ⟨rfl, rfl, rfl, by decide +kernel, rfl, by decide +kernel, by decide +kernel⟩
theorem g0 {Z : Ws} {dfs : Nat → Def} {n : Nat} (T : Txt Z dfs) (S : Src Z dfs) (ht : Z.tab = tab) (hZ : Z.okH = fun i => i = 17) (i1 : Lev Z false dfs (fun i => i < 26) n) (i2 : Lev Z true dfs Z.okH n) : FnG false Z.P Z.wd Z.K Z.mg Z.base (2 * (n + 1) + 2) (dfs 0).f (dfs 0).fd (dfs 0).ps (spM Z false (n + 1) 0) := by
  obtain ⟨oc, od, kV, doc, pm, an, cdv, ct, osl, e, lk, hc⟩ := S.f0
  rw [e] at lk
  rw [S.p0, e]
  exact fn_lev (ok := (fun i => i < 26)) lk hc sc0 (by rw [ht]; rfl) rfl rfl i1 i2 (fun hid A outer s H E pn C => t0 T (fun i h => h) hid A outer s H E pn C)
theorem g1 {Z : Ws} {dfs : Nat → Def} {n : Nat} (T : Txt Z dfs) (S : Src Z dfs) (ht : Z.tab = tab) (hZ : Z.okH = fun i => i = 17) (i1 : Lev Z false dfs (fun i => i < 26) n) (i2 : Lev Z true dfs Z.okH n) : FnG false Z.P Z.wd Z.K Z.mg Z.base (2 * (n + 1) + 2) (dfs 1).f (dfs 1).fd (dfs 1).ps (spM Z false (n + 1) 1) := by
  obtain ⟨oc, od, kV, doc, pm, an, cdv, ct, osl, e, lk, hc⟩ := S.f1
  rw [e] at lk
  rw [S.p1, e]
  exact fn_lev (ok := (fun i => i < 26)) lk hc sc1 (by rw [ht]; rfl) rfl rfl i1 i2 (fun hid A outer s H E pn C => t1 T (fun i h => h) hid A outer s H E pn C)
theorem g2 {Z : Ws} {dfs : Nat → Def} {n : Nat} (T : Txt Z dfs) (S : Src Z dfs) (ht : Z.tab = tab) (hZ : Z.okH = fun i => i = 17) (i1 : Lev Z false dfs (fun i => i < 26) n) (i2 : Lev Z true dfs Z.okH n) : FnG false Z.P Z.wd Z.K Z.mg Z.base (2 * (n + 1) + 2) (dfs 2).f (dfs 2).fd (dfs 2).ps (spM Z false (n + 1) 2) := by
  obtain ⟨oc, od, kV, doc, pm, an, cdv, ct, osl, e, lk, hc⟩ := S.f2
  rw [e] at lk
  rw [S.p2, e]
  exact fn_lev (ok := (fun i => i < 26)) lk hc sc2 (by rw [ht]; rfl) rfl rfl i1 i2 (fun hid A outer s H E pn C => t2 T (fun i h => h) hid A outer s H E pn C)
theorem g3 {Z : Ws} {dfs : Nat → Def} {n : Nat} (T : Txt Z dfs) (S : Src Z dfs) (ht : Z.tab = tab) (hZ : Z.okH = fun i => i = 17) (i1 : Lev Z false dfs (fun i => i < 26) n) (i2 : Lev Z true dfs Z.okH n) : FnG false Z.P Z.wd Z.K Z.mg Z.base (2 * (n + 1) + 2) (dfs 3).f (dfs 3).fd (dfs 3).ps (spM Z false (n + 1) 3) := by
  obtain ⟨oc, od, kV, doc, pm, an, cdv, ct, osl, e, lk, hc⟩ := S.f3
  rw [e] at lk
  rw [S.p3, e]
  exact fn_lev (ok := (fun i => i < 26)) lk hc sc3 (by rw [ht]; rfl) rfl rfl i1 i2 (fun hid A outer s H E pn C => t3 T (fun i h => h) hid A outer s H E pn C)
theorem g4 {Z : Ws} {dfs : Nat → Def} {n : Nat} (T : Txt Z dfs) (S : Src Z dfs) (ht : Z.tab = tab) (hZ : Z.okH = fun i => i = 17) (i1 : Lev Z false dfs (fun i => i < 26) n) (i2 : Lev Z true dfs Z.okH n) : FnG false Z.P Z.wd Z.K Z.mg Z.base (2 * (n + 1) + 2) (dfs 4).f (dfs 4).fd (dfs 4).ps (spM Z false (n + 1) 4) := by
  obtain ⟨oc, od, kV, doc, pm, an, cdv, ct, osl, e, lk, hc⟩ := S.f4
  rw [e] at lk
  rw [S.p4, e]
  exact fn_lev (ok := (fun i => i < 26)) lk hc sc4 (by rw [ht]; rfl) rfl rfl i1 i2 (fun hid A outer s H E pn C => t4 T (fun i h => h) hid A outer s H E pn C)
theorem g5 {Z : Ws} {dfs : Nat → Def} {n : Nat} (T : Txt Z dfs) (S : Src Z dfs) (ht : Z.tab = tab) (hZ : Z.okH = fun i => i = 17) (i1 : Lev Z false dfs (fun i => i < 26) n) (i2 : Lev Z true dfs Z.okH n) : FnG false Z.P Z.wd Z.K Z.mg Z.base (2 * (n + 1) + 2) (dfs 5).f (dfs 5).fd (dfs 5).ps (spM Z false (n + 1) 5) := by
  obtain ⟨oc, od, kV, doc, pm, an, cdv, ct, osl, e, lk, hc⟩ := S.f5
  rw [e] at lk
  rw [S.p5, e]
  exact fn_lev (ok := (fun i => i < 26)) lk hc sc5 (by rw [ht]; rfl) rfl rfl i1 i2 (fun hid A outer s H E pn C => t5 T (fun i h => h) hid A outer s H E pn C)
theorem g6 {Z : Ws} {dfs : Nat → Def} {n : Nat} (T : Txt Z dfs) (S : Src Z dfs) (ht : Z.tab = tab) (hZ : Z.okH = fun i => i = 17) (i1 : Lev Z false dfs (fun i => i < 26) n) (i2 : Lev Z true dfs Z.okH n) : FnG false Z.P Z.wd Z.K Z.mg Z.base (2 * (n + 1) + 2) (dfs 6).f (dfs 6).fd (dfs 6).ps (spM Z false (n + 1) 6) := by
  obtain ⟨oc, od, kV, doc, pm, an, cdv, ct, osl, e, lk, hc⟩ := S.f6
  rw [e] at lk
  rw [S.p6, e]
  exact fn_lev (ok := (fun i => i < 26)) lk hc sc6 (by rw [ht]; rfl) rfl rfl i1 i2 (fun hid A outer s H E pn C => t6 T (fun i h => h) hid A outer s H E pn C)
theorem g7 {Z : Ws} {dfs : Nat → Def} {n : Nat} (T : Txt Z dfs) (S : Src Z dfs) (ht : Z.tab = tab) (hZ : Z.okH = fun i => i = 17) (i1 : Lev Z false dfs (fun i => i < 26) n) (i2 : Lev Z true dfs Z.okH n) : FnG false Z.P Z.wd Z.K Z.mg Z.base (2 * (n + 1) + 2) (dfs 7).f (dfs 7).fd (dfs 7).ps (spM Z false (n + 1) 7) := by
  obtain ⟨oc, od, kV, doc, pm, an, cdv, ct, osl, e, lk, hc⟩ := S.f7
  rw [e] at lk
  rw [S.p7, e]
  exact fn_lev (ok := (fun i => i < 26)) lk hc sc7 (by rw [ht]; rfl) rfl rfl i1 i2 (fun hid A outer s H E pn C => t7 T (fun i h => h) hid A outer s H E pn C)
theorem g8 {Z : Ws} {dfs : Nat → Def} {n : Nat} (T : Txt Z dfs) (S : Src Z dfs) (ht : Z.tab = tab) (hZ : Z.okH = fun i => i = 17) (i1 : Lev Z false dfs (fun i => i < 26) n) (i2 : Lev Z true dfs Z.okH n) : FnG false Z.P Z.wd Z.K Z.mg Z.base (2 * (n + 1) + 2) (dfs 8).f (dfs 8).fd (dfs 8).ps (spM Z false (n + 1) 8) := by
  obtain ⟨oc, od, kV, doc, pm, an, cdv, ct, osl, e, lk, hc⟩ := S.f8
  rw [e] at lk
  rw [S.p8, e]
  exact fn_lev (ok := (fun i => i < 26)) lk hc sc8 (by rw [ht]; rfl) rfl rfl i1 i2 (fun hid A outer s H E pn C => t8 T (fun i h => h) hid A outer s H E pn C)
theorem g9 {Z : Ws} {dfs : Nat → Def} {n : Nat} (T : Txt Z dfs) (S : Src Z dfs) (ht : Z.tab = tab) (hZ : Z.okH = fun i => i = 17) (i1 : Lev Z false dfs (fun i => i < 26) n) (i2 : Lev Z true dfs Z.okH n) : FnG false Z.P Z.wd Z.K Z.mg Z.base (2 * (n + 1) + 2) (dfs 9).f (dfs 9).fd (dfs 9).ps (spM Z false (n + 1) 9) := by
  obtain ⟨oc, od, kV, doc, pm, an, cdv, ct, osl, e, lk, hc⟩ := S.f9
  rw [e] at lk
  rw [S.p9, e]
  exact fn_lev (ok := (fun i => i < 26)) lk hc sc9 (by rw [ht]; rfl) rfl rfl i1 i2 (fun hid A outer s H E pn C => t9 T (fun i h => h) hid A outer s H E pn C)
theorem g10 {Z : Ws} {dfs : Nat → Def} {n : Nat} (T : Txt Z dfs) (S : Src Z dfs) (ht : Z.tab = tab) (hZ : Z.okH = fun i => i = 17) (i1 : Lev Z false dfs (fun i => i < 26) n) (i2 : Lev Z true dfs Z.okH n) : FnG false Z.P Z.wd Z.K Z.mg Z.base (2 * (n + 1) + 2) (dfs 10).f (dfs 10).fd (dfs 10).ps (spM Z false (n + 1) 10) := by
  obtain ⟨oc, od, kV, doc, pm, an, cdv, ct, osl, e, lk, hc⟩ := S.f10
  rw [e] at lk
  rw [S.p10, e]
  exact fn_lev (ok := (fun i => i < 26)) lk hc sc10 (by rw [ht]; rfl) rfl rfl i1 i2 (fun hid A outer s H E pn C => t10 T (fun i h => h) hid A outer s H E pn C)
theorem g11 {Z : Ws} {dfs : Nat → Def} {n : Nat} (T : Txt Z dfs) (S : Src Z dfs) (ht : Z.tab = tab) (hZ : Z.okH = fun i => i = 17) (i1 : Lev Z false dfs (fun i => i < 26) n) (i2 : Lev Z true dfs Z.okH n) : FnG false Z.P Z.wd Z.K Z.mg Z.base (2 * (n + 1) + 2) (dfs 11).f (dfs 11).fd (dfs 11).ps (spM Z false (n + 1) 11) := by
  obtain ⟨oc, od, kV, doc, pm, an, cdv, ct, osl, e, lk, hc⟩ := S.f11
  rw [e] at lk
  rw [S.p11, e]
  exact fn_lev (ok := (fun i => i < 26)) lk hc sc11 (by rw [ht]; rfl) rfl rfl i1 i2 (fun hid A outer s H E pn C => t11 T (fun i h => h) hid A outer s H E pn C)
theorem g12 {Z : Ws} {dfs : Nat → Def} {n : Nat} (T : Txt Z dfs) (S : Src Z dfs) (ht : Z.tab = tab) (hZ : Z.okH = fun i => i = 17) (i1 : Lev Z false dfs (fun i => i < 26) n) (i2 : Lev Z true dfs Z.okH n) : FnG false Z.P Z.wd Z.K Z.mg Z.base (2 * (n + 1) + 2) (dfs 12).f (dfs 12).fd (dfs 12).ps (spM Z false (n + 1) 12) := by
  obtain ⟨oc, od, kV, doc, pm, an, cdv, ct, osl, e, lk, hc⟩ := S.f12
  rw [e] at lk
  rw [S.p12, e]
  exact fn_lev (ok := (fun i => i < 26)) lk hc sc12 (by rw [ht]; rfl) rfl rfl i1 i2 (fun hid A outer s H E pn C => t12 T (fun i h => h) hid A outer s H E pn C)
theorem g13 {Z : Ws} {dfs : Nat → Def} {n : Nat} (T : Txt Z dfs) (S : Src Z dfs) (ht : Z.tab = tab) (hZ : Z.okH = fun i => i = 17) (i1 : Lev Z false dfs (fun i => i < 26) n) (i2 : Lev Z true dfs Z.okH n) : FnG false Z.P Z.wd Z.K Z.mg Z.base (2 * (n + 1) + 2) (dfs 13).f (dfs 13).fd (dfs 13).ps (spM Z false (n + 1) 13) := by
  obtain ⟨oc, od, kV, doc, pm, an, cdv, ct, osl, e, lk, hc⟩ := S.f13
  rw [e] at lk
  rw [S.p13, e]
  exact fn_lev (ok := (fun i => i < 26)) lk hc sc13 (by rw [ht]; rfl) rfl rfl i1 i2 (fun hid A outer s H E pn C => t13 T (fun i h => h) hid A outer s H E pn C)
theorem g14 {Z : Ws} {dfs : Nat → Def} {n : Nat} (T : Txt Z dfs) (S : Src Z dfs) (ht : Z.tab = tab) (hZ : Z.okH = fun i => i = 17) (i1 : Lev Z false dfs (fun i => i < 26) n) (i2 : Lev Z true dfs Z.okH n) : FnG false Z.P Z.wd Z.K Z.mg Z.base (2 * (n + 1) + 2) (dfs 14).f (dfs 14).fd (dfs 14).ps (spM Z false (n + 1) 14) := by
  obtain ⟨oc, od, kV, doc, pm, an, cdv, ct, osl, e, lk, hc⟩ := S.f14
  rw [e] at lk
  rw [S.p14, e]
  exact fn_lev (ok := (fun i => i < 26)) lk hc sc14 (by rw [ht]; rfl) rfl rfl i1 i2 (fun hid A outer s H E pn C => t14 T (fun i h => h) hid A outer s H E pn C)
theorem g15 {Z : Ws} {dfs : Nat → Def} {n : Nat} (T : Txt Z dfs) (S : Src Z dfs) (ht : Z.tab = tab) (hZ : Z.okH = fun i => i = 17) (i1 : Lev Z false dfs (fun i => i < 26) n) (i2 : Lev Z true dfs Z.okH n) : FnG false Z.P Z.wd Z.K Z.mg Z.base (2 * (n + 1) + 2) (dfs 15).f (dfs 15).fd (dfs 15).ps (spM Z false (n + 1) 15) := by
  obtain ⟨oc, od, kV, doc, pm, an, cdv, ct, osl, e, lk, hc⟩ := S.f15
  rw [e] at lk
  rw [S.p15, e]
  exact fn_lev (ok := (fun i => i < 26)) lk hc sc15 (by rw [ht]; rfl) rfl rfl i1 i2 (fun hid A outer s H E pn C => t15 T (fun i h => h) hid A outer s H E pn C)
theorem g16 {Z : Ws} {dfs : Nat → Def} {n : Nat} (T : Txt Z dfs) (S : Src Z dfs) (ht : Z.tab = tab) (hZ : Z.okH = fun i => i = 17) (i1 : Lev Z false dfs (fun i => i < 26) n) (i2 : Lev Z true dfs Z.okH n) : FnG false Z.P Z.wd Z.K Z.mg Z.base (2 * (n + 1) + 2) (dfs 16).f (dfs 16).fd (dfs 16).ps (spM Z false (n + 1) 16) := by
  obtain ⟨oc, od, kV, doc, pm, an, cdv, ct, osl, e, lk, hc⟩ := S.f16
  rw [e] at lk
  rw [S.p16, e]
  exact fn_lev (ok := (fun i => i < 26)) lk hc sc16 (by rw [ht]; rfl) rfl rfl i1 i2 (fun hid A outer s H E pn C => t16 T (fun i h => h) hid A outer s H E pn C)
theorem g17 {Z : Ws} {dfs : Nat → Def} {n : Nat} (T : Txt Z dfs) (S : Src Z dfs) (ht : Z.tab = tab) (hZ : Z.okH = fun i => i = 17) (i1 : Lev Z false dfs (fun i => i < 26) n) (i2 : Lev Z true dfs Z.okH n) : FnG false Z.P Z.wd Z.K Z.mg Z.base (2 * (n + 1) + 2) (dfs 17).f (dfs 17).fd (dfs 17).ps (spM Z false (n + 1) 17) := by
  obtain ⟨oc, od, kV, doc, pm, an, cdv, ct, osl, e, lk, hc⟩ := S.f17
  rw [e] at lk
  rw [S.p17, e]
  exact fn_lev (ok := (fun i => i < 26)) lk hc sc17 (by rw [ht]; rfl) rfl rfl i1 i2 (fun hid A outer s H E pn C => t17 T (fun i h => h) hid A outer s H E pn C)
theorem gh17 {Z : Ws} {dfs : Nat → Def} {n : Nat} (T : Txt Z dfs) (S : Src Z dfs) (ht : Z.tab = tab) (hZ : Z.okH = fun i => i = 17) (i1 : Lev Z false dfs (fun i => i < 26) n) (i2 : Lev Z true dfs Z.okH n) : FnG true Z.P Z.wd Z.K Z.mg Z.base (2 * (n + 1) + 2) (dfs 17).f (dfs 17).fd (dfs 17).ps (spM Z true (n + 1) 17) := by
  obtain ⟨oc, od, kV, doc, pm, an, cdv, ct, osl, e, lk, hc⟩ := S.f17
  rw [e] at lk
  rw [S.p17, e]
  exact fn_lev (ok := Z.okH) lk hc sc17 (by rw [ht]; rfl) rfl rfl i2 i2 (fun hid A outer s H E pn C => h17 T (fun i h => by rw [hZ]; exact h) hid A outer s H E pn C)
theorem g18 {Z : Ws} {dfs : Nat → Def} {n : Nat} (T : Txt Z dfs) (S : Src Z dfs) (ht : Z.tab = tab) (hZ : Z.okH = fun i => i = 17) (i1 : Lev Z false dfs (fun i => i < 26) n) (i2 : Lev Z true dfs Z.okH n) : FnG false Z.P Z.wd Z.K Z.mg Z.base (2 * (n + 1) + 2) (dfs 18).f (dfs 18).fd (dfs 18).ps (spM Z false (n + 1) 18) := by
  obtain ⟨oc, od, kV, doc, pm, an, cdv, ct, osl, e, lk, hc⟩ := S.f18
  rw [e] at lk
  rw [S.p18, e]
  exact fn_lev (ok := (fun i => i < 26)) lk hc sc18 (by rw [ht]; rfl) rfl rfl i1 i2 (fun hid A outer s H E pn C => t18 T (fun i h => h) hid A outer s H E pn C)
theorem g19 {Z : Ws} {dfs : Nat → Def} {n : Nat} (T : Txt Z dfs) (S : Src Z dfs) (ht : Z.tab = tab) (hZ : Z.okH = fun i => i = 17) (i1 : Lev Z false dfs (fun i => i < 26) n) (i2 : Lev Z true dfs Z.okH n) : FnG false Z.P Z.wd Z.K Z.mg Z.base (2 * (n + 1) + 2) (dfs 19).f (dfs 19).fd (dfs 19).ps (spM Z false (n + 1) 19) := by
  obtain ⟨oc, od, kV, doc, pm, an, cdv, ct, osl, e, lk, hc⟩ := S.f19
  rw [e] at lk
  rw [S.p19, e]
  exact fn_lev (ok := (fun i => i < 26)) lk hc sc19 (by rw [ht]; rfl) rfl rfl i1 i2 (fun hid A outer s H E pn C => t19 T (fun i h => h) hid A outer s H E pn C)
theorem g20 {Z : Ws} {dfs : Nat → Def} {n : Nat} (T : Txt Z dfs) (S : Src Z dfs) (ht : Z.tab = tab) (hZ : Z.okH = fun i => i = 17) (i1 : Lev Z false dfs (fun i => i < 26) n) (i2 : Lev Z true dfs Z.okH n) : FnG false Z.P Z.wd Z.K Z.mg Z.base (2 * (n + 1) + 2) (dfs 20).f (dfs 20).fd (dfs 20).ps (spM Z false (n + 1) 20) := by
  obtain ⟨oc, od, kV, doc, pm, an, cdv, ct, osl, e, lk, hc⟩ := S.f20
  rw [e] at lk
  rw [S.p20, e]
  exact fn_lev (ok := (fun i => i < 26)) lk hc sc20 (by rw [ht]; rfl) rfl rfl i1 i2 (fun hid A outer s H E pn C => t20 T (fun i h => h) hZ hid A outer s H E pn C)
theorem g21 {Z : Ws} {dfs : Nat → Def} {n : Nat} (T : Txt Z dfs) (S : Src Z dfs) (ht : Z.tab = tab) (hZ : Z.okH = fun i => i = 17) (i1 : Lev Z false dfs (fun i => i < 26) n) (i2 : Lev Z true dfs Z.okH n) : FnG false Z.P Z.wd Z.K Z.mg Z.base (2 * (n + 1) + 2) (dfs 21).f (dfs 21).fd (dfs 21).ps (spM Z false (n + 1) 21) := by
  obtain ⟨oc, od, kV, doc, pm, an, cdv, ct, osl, e, lk, hc⟩ := S.f21
  rw [e] at lk
  rw [S.p21, e]
  exact fn_lev (ok := (fun i => i < 26)) lk hc sc21 (by rw [ht]; rfl) rfl rfl i1 i2 (fun hid A outer s H E pn C => t21 T (fun i h => h) hid A outer s H E pn C)
theorem g22 {Z : Ws} {dfs : Nat → Def} {n : Nat} (T : Txt Z dfs) (S : Src Z dfs) (ht : Z.tab = tab) (hZ : Z.okH = fun i => i = 17) (i1 : Lev Z false dfs (fun i => i < 26) n) (i2 : Lev Z true dfs Z.okH n) : FnG false Z.P Z.wd Z.K Z.mg Z.base (2 * (n + 1) + 2) (dfs 22).f (dfs 22).fd (dfs 22).ps (spM Z false (n + 1) 22) := by
  obtain ⟨oc, od, kV, doc, pm, an, cdv, ct, osl, e, lk, hc⟩ := S.f22
  rw [e] at lk
  rw [S.p22, e]
  exact fn_lev (ok := (fun i => i < 26)) lk hc sc22 (by rw [ht]; rfl) rfl rfl i1 i2 (fun hid A outer s H E pn C => t22 T (fun i h => h) hZ hid A outer s H E pn C)
theorem g23 {Z : Ws} {dfs : Nat → Def} {n : Nat} (T : Txt Z dfs) (S : Src Z dfs) (ht : Z.tab = tab) (hZ : Z.okH = fun i => i = 17) (i1 : Lev Z false dfs (fun i => i < 26) n) (i2 : Lev Z true dfs Z.okH n) : FnG false Z.P Z.wd Z.K Z.mg Z.base (2 * (n + 1) + 2) (dfs 23).f (dfs 23).fd (dfs 23).ps (spM Z false (n + 1) 23) := by
  obtain ⟨oc, od, kV, doc, pm, an, cdv, ct, osl, e, lk, hc⟩ := S.f23
  rw [e] at lk
  rw [S.p23, e]
  exact fn_lev (ok := (fun i => i < 26)) lk hc sc23 (by rw [ht]; rfl) rfl rfl i1 i2 (fun hid A outer s H E pn C => t23 T (fun i h => h) hid A outer s H E pn C)
theorem g24 {Z : Ws} {dfs : Nat → Def} {n : Nat} (T : Txt Z dfs) (S : Src Z dfs) (ht : Z.tab = tab) (hZ : Z.okH = fun i => i = 17) (i1 : Lev Z false dfs (fun i => i < 26) n) (i2 : Lev Z true dfs Z.okH n) : FnG false Z.P Z.wd Z.K Z.mg Z.base (2 * (n + 1) + 2) (dfs 24).f (dfs 24).fd (dfs 24).ps (spM Z false (n + 1) 24) := by
  obtain ⟨oc, od, kV, doc, pm, an, cdv, ct, osl, e, lk, hc⟩ := S.f24
  rw [e] at lk
  rw [S.p24, e]
  exact fn_lev (ok := (fun i => i < 26)) lk hc sc24 (by rw [ht]; rfl) rfl rfl i1 i2 (fun hid A outer s H E pn C => t24 T (fun i h => h) hid A outer s H E pn C)
theorem g25 {Z : Ws} {dfs : Nat → Def} {n : Nat} (T : Txt Z dfs) (S : Src Z dfs) (ht : Z.tab = tab) (hZ : Z.okH = fun i => i = 17) (i1 : Lev Z false dfs (fun i => i < 26) n) (i2 : Lev Z true dfs Z.okH n) : FnG false Z.P Z.wd Z.K Z.mg Z.base (2 * (n + 1) + 2) (dfs 25).f (dfs 25).fd (dfs 25).ps (spM Z false (n + 1) 25) := by
  obtain ⟨oc, od, kV, doc, pm, an, cdv, ct, osl, e, lk, hc⟩ := S.f25
  rw [e] at lk
  rw [S.p25, e]
  exact fn_lev (ok := (fun i => i < 26)) lk hc sc25 (by rw [ht]; rfl) rfl rfl i1 i2 (fun hid A outer s H E pn C => t25 T (fun i h => h) hid A outer s H E pn C)
theorem levs {Z : Ws} {dfs : Nat → Def} (T : Txt Z dfs) (S : Src Z dfs) (ht : Z.tab = tab) (hZ : Z.okH = fun i => i = 17) : ∀ n, Lev Z false dfs (fun i => i < 26) n ∧ Lev Z true dfs Z.okH n
  | 0 => ⟨lev0 Z false dfs _, lev0 Z true dfs _⟩
  | n + 1 => by
    obtain ⟨i1, i2⟩ := levs T S ht hZ n
    refine ⟨fun f hf => ?_, fun f hf => ?_⟩
    · match f, hf with
      | 0, _ => exact g0 T S ht hZ i1 i2
      | 1, _ => exact g1 T S ht hZ i1 i2
      | 2, _ => exact g2 T S ht hZ i1 i2
      | 3, _ => exact g3 T S ht hZ i1 i2
      | 4, _ => exact g4 T S ht hZ i1 i2
      | 5, _ => exact g5 T S ht hZ i1 i2
      | 6, _ => exact g6 T S ht hZ i1 i2
      | 7, _ => exact g7 T S ht hZ i1 i2
      | 8, _ => exact g8 T S ht hZ i1 i2
      | 9, _ => exact g9 T S ht hZ i1 i2
      | 10, _ => exact g10 T S ht hZ i1 i2
      | 11, _ => exact g11 T S ht hZ i1 i2
      | 12, _ => exact g12 T S ht hZ i1 i2
      | 13, _ => exact g13 T S ht hZ i1 i2
      | 14, _ => exact g14 T S ht hZ i1 i2
      | 15, _ => exact g15 T S ht hZ i1 i2
      | 16, _ => exact g16 T S ht hZ i1 i2
      | 17, _ => exact g17 T S ht hZ i1 i2
      | 18, _ => exact g18 T S ht hZ i1 i2
      | 19, _ => exact g19 T S ht hZ i1 i2
      | 20, _ => exact g20 T S ht hZ i1 i2
      | 21, _ => exact g21 T S ht hZ i1 i2
      | 22, _ => exact g22 T S ht hZ i1 i2
      | 23, _ => exact g23 T S ht hZ i1 i2
      | 24, _ => exact g24 T S ht hZ i1 i2
      | 25, _ => exact g25 T S ht hZ i1 i2
      | k + 26, h => exact absurd h (by omega)
    · have e : f = 17 := by rw [hZ] at hf; exact hf
      subst e
      exact gh17 T S ht hZ i1 i2
set_option maxHeartbeats 4000000 in
theorem all_mk {l : PySem.W.OpenLaw} {w : World} {K : PySem.W.Frag} {h : Heap} {mg : Str → Option Value} {fa : Addr} (X : K.In h) (G : h.Ns mainGlobals mg) (hfa : mg "law" = some (.ref fa))
    (hlaw : ∀ ns : List Int, ns.length ≤ 63 → ∃ g, callM tab 0 true 24 25 [.lst (ns.map M3.D.int)] [] = .ok (.bl true) g)
    {a0 a1 a2 a3 a4 a5 a6 a7 a8 a9 a10 a11 a12 a13 a14 a15 a16 a17 a18 a19 a20 a21 a22 a23 a24 a25 : Addr}
    {oc0 dc0 pm0 cd0 ct0 kV0 : Value} {od0 an0 : Option Addr} {sl0 : Array (Option Value)}
    {oc1 dc1 pm1 cd1 ct1 : Value} {od1 an1 : Option Addr} {sl1 : Array (Option Value)} {D1 : Addr}
    {oc2 dc2 pm2 cd2 ct2 kV2 : Value} {od2 an2 : Option Addr} {sl2 : Array (Option Value)}
    {oc3 dc3 pm3 cd3 ct3 kV3 : Value} {od3 an3 : Option Addr} {sl3 : Array (Option Value)}
    {oc4 dc4 pm4 cd4 ct4 kV4 : Value} {od4 an4 : Option Addr} {sl4 : Array (Option Value)}
    {oc5 dc5 pm5 cd5 ct5 kV5 : Value} {od5 an5 : Option Addr} {sl5 : Array (Option Value)}
    {oc6 dc6 pm6 cd6 ct6 kV6 : Value} {od6 an6 : Option Addr} {sl6 : Array (Option Value)}
    {oc7 dc7 pm7 cd7 ct7 kV7 : Value} {od7 an7 : Option Addr} {sl7 : Array (Option Value)}
    {oc8 dc8 pm8 cd8 ct8 kV8 : Value} {od8 an8 : Option Addr} {sl8 : Array (Option Value)}
    {oc9 dc9 pm9 cd9 ct9 kV9 : Value} {od9 an9 : Option Addr} {sl9 : Array (Option Value)}
    {oc10 dc10 pm10 cd10 ct10 kV10 : Value} {od10 an10 : Option Addr} {sl10 : Array (Option Value)}
    {oc11 dc11 pm11 cd11 ct11 kV11 : Value} {od11 an11 : Option Addr} {sl11 : Array (Option Value)}
    {oc12 dc12 pm12 cd12 ct12 kV12 : Value} {od12 an12 : Option Addr} {sl12 : Array (Option Value)}
    {oc13 dc13 pm13 cd13 ct13 kV13 : Value} {od13 an13 : Option Addr} {sl13 : Array (Option Value)}
    {oc14 dc14 pm14 cd14 ct14 kV14 : Value} {od14 an14 : Option Addr} {sl14 : Array (Option Value)}
    {oc15 dc15 pm15 cd15 ct15 kV15 : Value} {od15 an15 : Option Addr} {sl15 : Array (Option Value)}
    {oc16 dc16 pm16 cd16 ct16 kV16 : Value} {od16 an16 : Option Addr} {sl16 : Array (Option Value)}
    {oc17 dc17 pm17 cd17 ct17 kV17 : Value} {od17 an17 : Option Addr} {sl17 : Array (Option Value)}
    {oc18 dc18 pm18 cd18 ct18 kV18 : Value} {od18 an18 : Option Addr} {sl18 : Array (Option Value)}
    {oc19 dc19 pm19 cd19 ct19 kV19 : Value} {od19 an19 : Option Addr} {sl19 : Array (Option Value)}
    {oc20 dc20 pm20 cd20 ct20 kV20 : Value} {od20 an20 : Option Addr} {sl20 : Array (Option Value)}
    {oc21 dc21 pm21 cd21 ct21 kV21 : Value} {od21 an21 : Option Addr} {sl21 : Array (Option Value)}
    {oc22 dc22 pm22 cd22 ct22 kV22 : Value} {od22 an22 : Option Addr} {sl22 : Array (Option Value)}
    {oc23 dc23 pm23 cd23 ct23 kV23 : Value} {od23 an23 : Option Addr} {sl23 : Array (Option Value)}
    {oc24 dc24 pm24 cd24 ct24 kV24 : Value} {od24 an24 : Option Addr} {sl24 : Array (Option Value)}
    {oc25 dc25 pm25 cd25 ct25 kV25 : Value} {od25 an25 : Option Addr} {sl25 : Array (Option Value)}
    {C0 : Addr}
    {C9 : Addr}
    {C1 I1 : Addr}
    {oc1x dc1x pm1x cd1x ct1x kV1x : Value} {od1x an1x : Option Addr} {sl1x : Array (Option Value)}
    {C2 I2 : Addr}
    {oc2x dc2x pm2x cd2x ct2x kV2x : Value} {od2x an2x : Option Addr} {sl2x : Array (Option Value)}
    {t_FIGURES : Tok}
    {t_SEAL : Tok}
    (e0 : PySem.W.nsIn K mainGlobals "is_whole" = some (some (.ref a0)))
    (l0 : K.lookup a0 = some ⟨oc0, od0, .func (PySem.W.fnOf "is_whole" "is_whole" (defArgs d0) (defBody d0) (defScope d0) .none kV0 dc0 pm0 an0 cd0 ct0), sl0⟩)
    (c0 : PySem.W.codeIn K cd0 "is_whole" = true)
    (k0 : PySem.W.keepIn K (.ref a0) = true)
    (e1 : PySem.W.nsIn K mainGlobals "number_in" = some (some (.ref a1)))
    (l1 : K.lookup a1 = some ⟨oc1, od1, .func (PySem.W.fnOf "number_in" "number_in" (defArgs d1) (defBody d1) (defScope d1) .none (.ref D1) dc1 pm1 an1 cd1 ct1), sl1⟩)
    (c1 : PySem.W.codeIn K cd1 "number_in" = true)
    (k1 : PySem.W.keepIn K (.ref a1) = true)
    (w1_least : PySem.W.nsIn K D1 "least" = some (some .none))
    (w1_most : PySem.W.nsIn K D1 "most" = some (some .none))
    (e2 : PySem.W.nsIn K mainGlobals "need_line" = some (some (.ref a2)))
    (l2 : K.lookup a2 = some ⟨oc2, od2, .func (PySem.W.fnOf "need_line" "need_line" (defArgs d2) (defBody d2) (defScope d2) .none kV2 dc2 pm2 an2 cd2 ct2), sl2⟩)
    (c2 : PySem.W.codeIn K cd2 "need_line" = true)
    (k2 : PySem.W.keepIn K (.ref a2) = true)
    (e3 : PySem.W.findIn K (.ref C0) "__init__" = some (some (.ref a3)))
    (i3 : PySem.W.isFn K (.ref a3) = true)
    (l3 : K.lookup a3 = some ⟨oc3, od3, .func (PySem.W.fnOf "__init__" "Store.__init__" (defArgs d3) (defBody d3) (defScope d3) .none kV3 dc3 pm3 an3 cd3 ct3), sl3⟩)
    (c3 : PySem.W.codeIn K cd3 "Store.__init__" = true)
    (k3 : PySem.W.keepIn K (.ref a3) = true)
    (e4 : PySem.W.findIn K (.ref C0) "write" = some (some (.ref a4)))
    (i4 : PySem.W.isFn K (.ref a4) = true)
    (l4 : K.lookup a4 = some ⟨oc4, od4, .func (PySem.W.fnOf "write" "Store.write" (defArgs d4) (defBody d4) (defScope d4) .none kV4 dc4 pm4 an4 cd4 ct4), sl4⟩)
    (c4 : PySem.W.codeIn K cd4 "Store.write" = true)
    (k4 : PySem.W.keepIn K (.ref a4) = true)
    (e5 : PySem.W.findIn K (.ref C0) "sync" = some (some (.ref a5)))
    (i5 : PySem.W.isFn K (.ref a5) = true)
    (l5 : K.lookup a5 = some ⟨oc5, od5, .func (PySem.W.fnOf "sync" "Store.sync" (defArgs d5) (defBody d5) (defScope d5) .none kV5 dc5 pm5 an5 cd5 ct5), sl5⟩)
    (c5 : PySem.W.codeIn K cd5 "Store.sync" = true)
    (k5 : PySem.W.keepIn K (.ref a5) = true)
    (e6 : PySem.W.findIn K (.ref C0) "lines" = some (some (.ref a6)))
    (i6 : PySem.W.isFn K (.ref a6) = true)
    (l6 : K.lookup a6 = some ⟨oc6, od6, .func (PySem.W.fnOf "lines" "Store.lines" (defArgs d6) (defBody d6) (defScope d6) .none kV6 dc6 pm6 an6 cd6 ct6), sl6⟩)
    (c6 : PySem.W.codeIn K cd6 "Store.lines" = true)
    (k6 : PySem.W.keepIn K (.ref a6) = true)
    (e7 : PySem.W.findIn K (.ref C0) "safe" = some (some (.ref a7)))
    (i7 : PySem.W.isFn K (.ref a7) = true)
    (l7 : K.lookup a7 = some ⟨oc7, od7, .func (PySem.W.fnOf "safe" "Store.safe" (defArgs d7) (defBody d7) (defScope d7) .none kV7 dc7 pm7 an7 cd7 ct7), sl7⟩)
    (c7 : PySem.W.codeIn K cd7 "Store.safe" = true)
    (k7 : PySem.W.keepIn K (.ref a7) = true)
    (e8 : PySem.W.findIn K (.ref C0) "crash" = some (some (.ref a8)))
    (i8 : PySem.W.isFn K (.ref a8) = true)
    (l8 : K.lookup a8 = some ⟨oc8, od8, .func (PySem.W.fnOf "crash" "Store.crash" (defArgs d8) (defBody d8) (defScope d8) .none kV8 dc8 pm8 an8 cd8 ct8), sl8⟩)
    (c8 : PySem.W.codeIn K cd8 "Store.crash" = true)
    (k8 : PySem.W.keepIn K (.ref a8) = true)
    (e9 : PySem.W.findIn K (.ref C0) "keep" = some (some (.ref a9)))
    (i9 : PySem.W.isFn K (.ref a9) = true)
    (l9 : K.lookup a9 = some ⟨oc9, od9, .func (PySem.W.fnOf "keep" "Store.keep" (defArgs d9) (defBody d9) (defScope d9) .none kV9 dc9 pm9 an9 cd9 ct9), sl9⟩)
    (c9 : PySem.W.codeIn K cd9 "Store.keep" = true)
    (k9 : PySem.W.keepIn K (.ref a9) = true)
    (e10 : PySem.W.findIn K (.ref C0) "copied" = some (some (.ref a10)))
    (i10 : PySem.W.isFn K (.ref a10) = true)
    (l10 : K.lookup a10 = some ⟨oc10, od10, .func (PySem.W.fnOf "copied" "Store.copied" (defArgs d10) (defBody d10) (defScope d10) .none kV10 dc10 pm10 an10 cd10 ct10), sl10⟩)
    (c10 : PySem.W.codeIn K cd10 "Store.copied" = true)
    (k10 : PySem.W.keepIn K (.ref a10) = true)
    (e11 : PySem.W.nsIn K mainGlobals "sealed" = some (some (.ref a11)))
    (l11 : K.lookup a11 = some ⟨oc11, od11, .func (PySem.W.fnOf "sealed" "sealed" (defArgs d11) (defBody d11) (defScope d11) .none kV11 dc11 pm11 an11 cd11 ct11), sl11⟩)
    (c11 : PySem.W.codeIn K cd11 "sealed" = true)
    (k11 : PySem.W.keepIn K (.ref a11) = true)
    (e12 : PySem.W.nsIn K mainGlobals "opened" = some (some (.ref a12)))
    (l12 : K.lookup a12 = some ⟨oc12, od12, .func (PySem.W.fnOf "opened" "opened" (defArgs d12) (defBody d12) (defScope d12) .none kV12 dc12 pm12 an12 cd12 ct12), sl12⟩)
    (c12 : PySem.W.codeIn K cd12 "opened" = true)
    (k12 : PySem.W.keepIn K (.ref a12) = true)
    (e13 : PySem.W.nsIn K mainGlobals "_law_cell" = some (some (.ref a13)))
    (l13 : K.lookup a13 = some ⟨oc13, od13, .func (PySem.W.fnOf "_law_cell" "_law_cell" (defArgs d13) (defBody d13) (defScope d13) .none kV13 dc13 pm13 an13 cd13 ct13), sl13⟩)
    (c13 : PySem.W.codeIn K cd13 "_law_cell" = true)
    (k13 : PySem.W.keepIn K (.ref a13) = true)
    (e14 : PySem.W.nsIn K mainGlobals "_law_box" = some (some (.ref a14)))
    (l14 : K.lookup a14 = some ⟨oc14, od14, .func (PySem.W.fnOf "_law_box" "_law_box" (defArgs d14) (defBody d14) (defScope d14) .none kV14 dc14 pm14 an14 cd14 ct14), sl14⟩)
    (c14 : PySem.W.codeIn K cd14 "_law_box" = true)
    (k14 : PySem.W.keepIn K (.ref a14) = true)
    (e15 : PySem.W.nsIn K mainGlobals "_law_take" = some (some (.ref a15)))
    (l15 : K.lookup a15 = some ⟨oc15, od15, .func (PySem.W.fnOf "_law_take" "_law_take" (defArgs d15) (defBody d15) (defScope d15) .none kV15 dc15 pm15 an15 cd15 ct15), sl15⟩)
    (c15 : PySem.W.codeIn K cd15 "_law_take" = true)
    (k15 : PySem.W.keepIn K (.ref a15) = true)
    (e16 : PySem.W.nsIn K mainGlobals "_law_same" = some (some (.ref a16)))
    (l16 : K.lookup a16 = some ⟨oc16, od16, .func (PySem.W.fnOf "_law_same" "_law_same" (defArgs d16) (defBody d16) (defScope d16) .none kV16 dc16 pm16 an16 cd16 ct16), sl16⟩)
    (c16 : PySem.W.codeIn K cd16 "_law_same" = true)
    (k16 : PySem.W.keepIn K (.ref a16) = true)
    (e17 : PySem.W.nsIn K mainGlobals "_law_grown" = some (some (.ref a17)))
    (l17 : K.lookup a17 = some ⟨oc17, od17, .func (PySem.W.fnOf "_law_grown" "_law_grown" (defArgs d17) (defBody d17) (defScope d17) .none kV17 dc17 pm17 an17 cd17 ct17), sl17⟩)
    (c17 : PySem.W.codeIn K cd17 "_law_grown" = true)
    (k17 : PySem.W.keepIn K (.ref a17) = true)
    (e18 : PySem.W.nsIn K mainGlobals "_law_line" = some (some (.ref a18)))
    (l18 : K.lookup a18 = some ⟨oc18, od18, .func (PySem.W.fnOf "_law_line" "_law_line" (defArgs d18) (defBody d18) (defScope d18) .none kV18 dc18 pm18 an18 cd18 ct18), sl18⟩)
    (c18 : PySem.W.codeIn K cd18 "_law_line" = true)
    (k18 : PySem.W.keepIn K (.ref a18) = true)
    (e19 : PySem.W.nsIn K mainGlobals "_law_opened" = some (some (.ref a19)))
    (l19 : K.lookup a19 = some ⟨oc19, od19, .func (PySem.W.fnOf "_law_opened" "_law_opened" (defArgs d19) (defBody d19) (defScope d19) .none kV19 dc19 pm19 an19 cd19 ct19), sl19⟩)
    (c19 : PySem.W.codeIn K cd19 "_law_opened" = true)
    (k19 : PySem.W.keepIn K (.ref a19) = true)
    (e20 : PySem.W.nsIn K mainGlobals "_law_seals_right" = some (some (.ref a20)))
    (l20 : K.lookup a20 = some ⟨oc20, od20, .func (PySem.W.fnOf "_law_seals_right" "_law_seals_right" (defArgs d20) (defBody d20) (defScope d20) .none kV20 dc20 pm20 an20 cd20 ct20), sl20⟩)
    (c20 : PySem.W.codeIn K cd20 "_law_seals_right" = true)
    (k20 : PySem.W.keepIn K (.ref a20) = true)
    (e21 : PySem.W.nsIn K mainGlobals "_law_shown_right" = some (some (.ref a21)))
    (l21 : K.lookup a21 = some ⟨oc21, od21, .func (PySem.W.fnOf "_law_shown_right" "_law_shown_right" (defArgs d21) (defBody d21) (defScope d21) .none kV21 dc21 pm21 an21 cd21 ct21), sl21⟩)
    (c21 : PySem.W.codeIn K cd21 "_law_shown_right" = true)
    (k21 : PySem.W.keepIn K (.ref a21) = true)
    (e22 : PySem.W.nsIn K mainGlobals "_law_refused" = some (some (.ref a22)))
    (l22 : K.lookup a22 = some ⟨oc22, od22, .func (PySem.W.fnOf "_law_refused" "_law_refused" (defArgs d22) (defBody d22) (defScope d22) .none kV22 dc22 pm22 an22 cd22 ct22), sl22⟩)
    (c22 : PySem.W.codeIn K cd22 "_law_refused" = true)
    (k22 : PySem.W.keepIn K (.ref a22) = true)
    (e23 : PySem.W.nsIn K mainGlobals "_law_refusals_right" = some (some (.ref a23)))
    (l23 : K.lookup a23 = some ⟨oc23, od23, .func (PySem.W.fnOf "_law_refusals_right" "_law_refusals_right" (defArgs d23) (defBody d23) (defScope d23) .none kV23 dc23 pm23 an23 cd23 ct23), sl23⟩)
    (c23 : PySem.W.codeIn K cd23 "_law_refusals_right" = true)
    (k23 : PySem.W.keepIn K (.ref a23) = true)
    (e24 : PySem.W.nsIn K mainGlobals "_law_store_right" = some (some (.ref a24)))
    (l24 : K.lookup a24 = some ⟨oc24, od24, .func (PySem.W.fnOf "_law_store_right" "_law_store_right" (defArgs d24) (defBody d24) (defScope d24) .none kV24 dc24 pm24 an24 cd24 ct24), sl24⟩)
    (c24 : PySem.W.codeIn K cd24 "_law_store_right" = true)
    (k24 : PySem.W.keepIn K (.ref a24) = true)
    (e25 : PySem.W.nsIn K mainGlobals "law" = some (some (.ref a25)))
    (l25 : K.lookup a25 = some ⟨oc25, od25, .func (PySem.W.fnOf "law" "law" (defArgs d25) (defBody d25) (defScope d25) .none kV25 dc25 pm25 an25 cd25 ct25), sl25⟩)
    (c25 : PySem.W.codeIn K cd25 "law" = true)
    (k25 : PySem.W.keepIn K (.ref a25) = true)
    (C0n : PySem.W.nsIn K mainGlobals "Store" = some (some (.ref C0)))
    (C0g : PySem.W.plainGet K C0 Str.empty = true)
    (C0h : PySem.W.hasDictIn K C0 = true)
    (C0o : PySem.W.plainOver K C0 = true)
    (C0s : PySem.W.findIn K (.ref C0) "__setattr__" = some (some (.builtin "object.__setattr__")))
    (C0m : PySem.W.makesIn K C0 = true)
    (C0k : PySem.W.keepIn K (.ref C0) = true)
    (C0_all_lines : PySem.W.findIn K (.ref C0) "all_lines" = some none)
    (C0_many_safe : PySem.W.findIn K (.ref C0) "many_safe" = some none)
    (C9n : PySem.W.nsIn K mainGlobals "PlanError" = some (some (.ref C9)))
    (X1n : PySem.W.nsIn K mainGlobals "NoNumber" = some (some (.ref C1)))
    (X1l : PySem.W.IsExc K C1 [.ref C9, .type "ValueError", .type "Exception", .type "BaseException", .type "object"])
    (X1s : PySem.W.findIn K (.ref C1) "__setattr__" = some (some (.builtin "object.__setattr__")))
    (X1g : PySem.W.findIn K (.ref C1) "__getattribute__" = some (some (.builtin "BaseException.__getattribute__")))
    (X1t : PySem.W.findIn K (.ref C1) "__getattr__" = some none)
    (X1f : PySem.W.findIn K (.ref C1) "found" = some none)
    (X1i : PySem.W.findIn K (.ref C1) "__init__" = some (some (.ref I1)))
    (X1y : PySem.W.typeIn K (.ref I1) = some (.type "function"))
    (X1L : K.lookup I1 = some ⟨oc1x, od1x, .func (PySem.W.fnOf "__init__" "NoNumber.__init__" (defArgs x1) (defBody x1) (defScope x1) .none kV1x dc1x pm1x an1x cd1x ct1x), sl1x⟩)
    (X1c : PySem.W.codeIn K cd1x "NoNumber.__init__" = true)
    (X1k : PySem.W.keepIn K (.ref C1) = true)
    (X1e : PySem.W.subIn K (.ref C1) (.type "BaseException") = some true)
    (X1T : PySem.W.typeIn K (.ref C1) = some (.type "type"))
    (X1h : PySem.W.hasDictIn K C1 = true)
    (X1a : PySem.W.findIn K (.ref C1) "__class__" = some (some (.builtin "object.__class__")))
    (X1m : PySem.W.mroIn K C1 (.type "object") = some true)
    (S1_1 : PySem.W.subIn K (.ref C1) (.ref C1) = some true)
    (S1_2 : PySem.W.subIn K (.ref C1) (.ref C2) = some false)
    (X2n : PySem.W.nsIn K mainGlobals "NoWord" = some (some (.ref C2)))
    (X2l : PySem.W.IsExc K C2 [.ref C9, .type "ValueError", .type "Exception", .type "BaseException", .type "object"])
    (X2s : PySem.W.findIn K (.ref C2) "__setattr__" = some (some (.builtin "object.__setattr__")))
    (X2g : PySem.W.findIn K (.ref C2) "__getattribute__" = some (some (.builtin "BaseException.__getattribute__")))
    (X2t : PySem.W.findIn K (.ref C2) "__getattr__" = some none)
    (X2f : PySem.W.findIn K (.ref C2) "found" = some none)
    (X2i : PySem.W.findIn K (.ref C2) "__init__" = some (some (.ref I2)))
    (X2y : PySem.W.typeIn K (.ref I2) = some (.type "function"))
    (X2L : K.lookup I2 = some ⟨oc2x, od2x, .func (PySem.W.fnOf "__init__" "NoWord.__init__" (defArgs x2) (defBody x2) (defScope x2) .none kV2x dc2x pm2x an2x cd2x ct2x), sl2x⟩)
    (X2c : PySem.W.codeIn K cd2x "NoWord.__init__" = true)
    (X2k : PySem.W.keepIn K (.ref C2) = true)
    (X2e : PySem.W.subIn K (.ref C2) (.type "BaseException") = some true)
    (X2T : PySem.W.typeIn K (.ref C2) = some (.type "type"))
    (X2h : PySem.W.hasDictIn K C2 = true)
    (X2a : PySem.W.findIn K (.ref C2) "__class__" = some (some (.builtin "object.__class__")))
    (X2m : PySem.W.mroIn K C2 (.type "object") = some true)
    (S2_1 : PySem.W.subIn K (.ref C2) (.ref C1) = some false)
    (S2_2 : PySem.W.subIn K (.ref C2) (.ref C2) = some true)
    (K2_PlanError : PySem.W.kitOne K (.ref C2) (.ref C9) = some true)
    (clG : PySem.W.specialIn K (.builtin "object.__class__") "__get__" = some (some (.builtin "getset_descriptor.__get__")))
    (clT : PySem.W.takesIn K (.builtin "object.__class__") = some true)
    (z_abs : PySem.W.nsIn K mainGlobals "abs" = some none)
    (z_all : PySem.W.nsIn K mainGlobals "all" = some none)
    (z_bool : PySem.W.nsIn K mainGlobals "bool" = some none)
    (z_int : PySem.W.nsIn K mainGlobals "int" = some none)
    (z_isinstance : PySem.W.nsIn K mainGlobals "isinstance" = some none)
    (z_len : PySem.W.nsIn K mainGlobals "len" = some none)
    (z_list : PySem.W.nsIn K mainGlobals "list" = some none)
    (z_max : PySem.W.nsIn K mainGlobals "max" = some none)
    (z_min : PySem.W.nsIn K mainGlobals "min" = some none)
    (z_range : PySem.W.nsIn K mainGlobals "range" = some none)
    (z_repr : PySem.W.nsIn K mainGlobals "repr" = some none)
    (z_str : PySem.W.nsIn K mainGlobals "str" = some none)
    (z_sum : PySem.W.nsIn K mainGlobals "sum" = some none)
    (z_tuple : PySem.W.nsIn K mainGlobals "tuple" = some none)
    (y_FIGURES : PySem.W.nsIn K mainGlobals "FIGURES" = some (some (.str "0123456789" t_FIGURES)))
    (y_SEAL : PySem.W.nsIn K mainGlobals "SEAL" = some (some (.str "." t_SEAL)))
    : ∃ (fd : FuncData) (sp : Sp), (∀ (s : Shared) (u : Value), BindsTo s fd ⟨[u], []⟩ [("script", u)]) ∧ (∀ base : Heap, K.In base → base.Ns mainGlobals mg → FnG false l.prog w K mg base (2 * 24 + 2) fa fd ["script"] sp) ∧
      ∀ (H : Hp) (a : Addr) (ns : List Int), ns.length ≤ 63 → Only H → RdK K H a (ns.map V.int) → (∀ o, H a ≠ some (.lst o)) → sp [.ref a] H (fun v _ => v = .bl true) fun _ _ _ => False := by
  have ea := hfa.symm.trans (PySem.W.mg_of X G e25)
  have eb : a25 = fa := by cases ea; rfl
  subst eb
  have F0 := fung (st := d0) l0 c0
  have F1 := fung (st := d1) l1 c1
  have F2 := fung (st := d2) l2 c2
  have F3 := fung (st := d3) l3 c3
  have F4 := fung (st := d4) l4 c4
  have F5 := fung (st := d5) l5 c5
  have F6 := fung (st := d6) l6 c6
  have F7 := fung (st := d7) l7 c7
  have F8 := fung (st := d8) l8 c8
  have F9 := fung (st := d9) l9 c9
  have F10 := fung (st := d10) l10 c10
  have F11 := fung (st := d11) l11 c11
  have F12 := fung (st := d12) l12 c12
  have F13 := fung (st := d13) l13 c13
  have F14 := fung (st := d14) l14 c14
  have F15 := fung (st := d15) l15 c15
  have F16 := fung (st := d16) l16 c16
  have F17 := fung (st := d17) l17 c17
  have F18 := fung (st := d18) l18 c18
  have F19 := fung (st := d19) l19 c19
  have F20 := fung (st := d20) l20 c20
  have F21 := fung (st := d21) l21 c21
  have F22 := fung (st := d22) l22 c22
  have F23 := fung (st := d23) l23 c23
  have F24 := fung (st := d24) l24 c24
  have F25 := fung (st := d25) l25 c25
  let dfs : Nat → Def := fun i => match i with
    | 0 => ⟨a0, PySem.W.fnOf "is_whole" "is_whole" (defArgs d0) (defBody d0) (defScope d0) .none kV0 dc0 pm0 an0 cd0 ct0, q0⟩
    | 1 => ⟨a1, PySem.W.fnOf "number_in" "number_in" (defArgs d1) (defBody d1) (defScope d1) .none (.ref D1) dc1 pm1 an1 cd1 ct1, q1⟩
    | 2 => ⟨a2, PySem.W.fnOf "need_line" "need_line" (defArgs d2) (defBody d2) (defScope d2) .none kV2 dc2 pm2 an2 cd2 ct2, q2⟩
    | 3 => ⟨a3, PySem.W.fnOf "__init__" "Store.__init__" (defArgs d3) (defBody d3) (defScope d3) .none kV3 dc3 pm3 an3 cd3 ct3, q3⟩
    | 4 => ⟨a4, PySem.W.fnOf "write" "Store.write" (defArgs d4) (defBody d4) (defScope d4) .none kV4 dc4 pm4 an4 cd4 ct4, q4⟩
    | 5 => ⟨a5, PySem.W.fnOf "sync" "Store.sync" (defArgs d5) (defBody d5) (defScope d5) .none kV5 dc5 pm5 an5 cd5 ct5, q5⟩
    | 6 => ⟨a6, PySem.W.fnOf "lines" "Store.lines" (defArgs d6) (defBody d6) (defScope d6) .none kV6 dc6 pm6 an6 cd6 ct6, q6⟩
    | 7 => ⟨a7, PySem.W.fnOf "safe" "Store.safe" (defArgs d7) (defBody d7) (defScope d7) .none kV7 dc7 pm7 an7 cd7 ct7, q7⟩
    | 8 => ⟨a8, PySem.W.fnOf "crash" "Store.crash" (defArgs d8) (defBody d8) (defScope d8) .none kV8 dc8 pm8 an8 cd8 ct8, q8⟩
    | 9 => ⟨a9, PySem.W.fnOf "keep" "Store.keep" (defArgs d9) (defBody d9) (defScope d9) .none kV9 dc9 pm9 an9 cd9 ct9, q9⟩
    | 10 => ⟨a10, PySem.W.fnOf "copied" "Store.copied" (defArgs d10) (defBody d10) (defScope d10) .none kV10 dc10 pm10 an10 cd10 ct10, q10⟩
    | 11 => ⟨a11, PySem.W.fnOf "sealed" "sealed" (defArgs d11) (defBody d11) (defScope d11) .none kV11 dc11 pm11 an11 cd11 ct11, q11⟩
    | 12 => ⟨a12, PySem.W.fnOf "opened" "opened" (defArgs d12) (defBody d12) (defScope d12) .none kV12 dc12 pm12 an12 cd12 ct12, q12⟩
    | 13 => ⟨a13, PySem.W.fnOf "_law_cell" "_law_cell" (defArgs d13) (defBody d13) (defScope d13) .none kV13 dc13 pm13 an13 cd13 ct13, q13⟩
    | 14 => ⟨a14, PySem.W.fnOf "_law_box" "_law_box" (defArgs d14) (defBody d14) (defScope d14) .none kV14 dc14 pm14 an14 cd14 ct14, q14⟩
    | 15 => ⟨a15, PySem.W.fnOf "_law_take" "_law_take" (defArgs d15) (defBody d15) (defScope d15) .none kV15 dc15 pm15 an15 cd15 ct15, q15⟩
    | 16 => ⟨a16, PySem.W.fnOf "_law_same" "_law_same" (defArgs d16) (defBody d16) (defScope d16) .none kV16 dc16 pm16 an16 cd16 ct16, q16⟩
    | 17 => ⟨a17, PySem.W.fnOf "_law_grown" "_law_grown" (defArgs d17) (defBody d17) (defScope d17) .none kV17 dc17 pm17 an17 cd17 ct17, q17⟩
    | 18 => ⟨a18, PySem.W.fnOf "_law_line" "_law_line" (defArgs d18) (defBody d18) (defScope d18) .none kV18 dc18 pm18 an18 cd18 ct18, q18⟩
    | 19 => ⟨a19, PySem.W.fnOf "_law_opened" "_law_opened" (defArgs d19) (defBody d19) (defScope d19) .none kV19 dc19 pm19 an19 cd19 ct19, q19⟩
    | 20 => ⟨a20, PySem.W.fnOf "_law_seals_right" "_law_seals_right" (defArgs d20) (defBody d20) (defScope d20) .none kV20 dc20 pm20 an20 cd20 ct20, q20⟩
    | 21 => ⟨a21, PySem.W.fnOf "_law_shown_right" "_law_shown_right" (defArgs d21) (defBody d21) (defScope d21) .none kV21 dc21 pm21 an21 cd21 ct21, q21⟩
    | 22 => ⟨a22, PySem.W.fnOf "_law_refused" "_law_refused" (defArgs d22) (defBody d22) (defScope d22) .none kV22 dc22 pm22 an22 cd22 ct22, q22⟩
    | 23 => ⟨a23, PySem.W.fnOf "_law_refusals_right" "_law_refusals_right" (defArgs d23) (defBody d23) (defScope d23) .none kV23 dc23 pm23 an23 cd23 ct23, q23⟩
    | 24 => ⟨a24, PySem.W.fnOf "_law_store_right" "_law_store_right" (defArgs d24) (defBody d24) (defScope d24) .none kV24 dc24 pm24 an24 cd24 ct24, q24⟩
    | 25 => ⟨a25, PySem.W.fnOf "law" "law" (defArgs d25) (defBody d25) (defScope d25) .none kV25 dc25 pm25 an25 cd25 ct25, q25⟩
    | _ => ⟨a0, PySem.W.fnOf "is_whole" "is_whole" (defArgs d0) (defBody d0) (defScope d0) .none kV0 dc0 pm0 an0 cd0 ct0, q0⟩
  let cl : Nat → Addr := fun i => match i with
    | 0 => C0
    | 1 => C1
    | 2 => C2
    | _ => C9
  let Z : Heap → Ws := fun b => ⟨l.prog, w, K, mg, b, cl, tab, 0, fun i => i = 17⟩
  have O1 : OexC K C1 := ⟨let ⟨nm, q, N, bs, sn, sub, ab, col, dd, k0, k1, k2, k3, k5, e⟩ := X1l; ⟨nm, q, N, bs, _, sn, sub, ab, col, dd, k0, k1, k2, k3, k5, e, rfl⟩, X1s, X1e, X1T, X1k⟩
  have V1 := fung (st := x1) X1L X1c
  have O2 : OexC K C2 := ⟨let ⟨nm, q, N, bs, sn, sub, ab, col, dd, k0, k1, k2, k3, k5, e⟩ := X2l; ⟨nm, q, N, bs, _, sn, sub, ab, col, dd, k0, k1, k2, k3, k5, e, rfl⟩, X2s, X2e, X2T, X2k⟩
  have V2 := fung (st := x2) X2L X2c
  have T : ∀ b, Txt (Z b) dfs := fun b =>
    { b_abs := PySem.W.mg_none_of X G z_abs
      b_all := PySem.W.mg_none_of X G z_all
      b_bool := PySem.W.mg_none_of X G z_bool
      b_int := PySem.W.mg_none_of X G z_int
      b_isinstance := PySem.W.mg_none_of X G z_isinstance
      b_len := PySem.W.mg_none_of X G z_len
      b_list := PySem.W.mg_none_of X G z_list
      b_max := PySem.W.mg_none_of X G z_max
      b_min := PySem.W.mg_none_of X G z_min
      b_range := PySem.W.mg_none_of X G z_range
      b_repr := PySem.W.mg_none_of X G z_repr
      b_str := PySem.W.mg_none_of X G z_str
      b_sum := PySem.W.mg_none_of X G z_sum
      b_tuple := PySem.W.mg_none_of X G z_tuple
      g_FIGURES := ⟨_, PySem.W.mg_of X G y_FIGURES⟩
      g_SEAL := ⟨_, PySem.W.mg_of X G y_SEAL⟩
      m_0 := PySem.W.mg_of X G e0
      kp_0 := k0
      m_1 := PySem.W.mg_of X G e1
      kp_1 := k1
      m_2 := PySem.W.mg_of X G e2
      kp_2 := k2
      me_4 := ⟨e4, i4, k4⟩
      me_5 := ⟨e5, i5, k5⟩
      me_6 := ⟨e6, i6, k6⟩
      me_7 := ⟨e7, i7, k7⟩
      me_8 := ⟨e8, i8, k8⟩
      me_9 := ⟨e9, i9, k9⟩
      me_10 := ⟨e10, i10, k10⟩
      m_11 := PySem.W.mg_of X G e11
      kp_11 := k11
      m_12 := PySem.W.mg_of X G e12
      kp_12 := k12
      m_13 := PySem.W.mg_of X G e13
      kp_13 := k13
      m_14 := PySem.W.mg_of X G e14
      kp_14 := k14
      m_15 := PySem.W.mg_of X G e15
      kp_15 := k15
      m_16 := PySem.W.mg_of X G e16
      kp_16 := k16
      m_17 := PySem.W.mg_of X G e17
      kp_17 := k17
      m_18 := PySem.W.mg_of X G e18
      kp_18 := k18
      m_19 := PySem.W.mg_of X G e19
      kp_19 := k19
      m_20 := PySem.W.mg_of X G e20
      kp_20 := k20
      m_21 := PySem.W.mg_of X G e21
      kp_21 := k21
      m_22 := PySem.W.mg_of X G e22
      kp_22 := k22
      m_23 := PySem.W.mg_of X G e23
      kp_23 := k23
      m_24 := PySem.W.mg_of X G e24
      kp_24 := k24
      m_25 := PySem.W.mg_of X G e25
      kp_25 := k25
      cls_0 := ⟨C0g, C0h, C0o, C0s⟩
      mc_Store := PySem.W.mg_of X G C0n
      mk_0 := ⟨C0m, e3, i3, C0k⟩
      na_0_all_lines := C0_all_lines
      na_0_many_safe := C0_many_safe
      kb_0 := kb_plain F0 (fun _ _ _ _ _ _ us ws h1 h2 => match us, ws, h1, h2 with | [u0, u1, u2], [], _, _ => ⟨[u0, u1, u2], rfl, .arg rfl (.arg rfl (.arg rfl (.nil)))⟩)
      kb_1 := kb_plain F2 (fun _ _ _ _ _ _ us ws h1 h2 => match us, ws, h1, h2 with | [u0], [], _, _ => ⟨[u0], rfl, .arg rfl (.nil)⟩)
      kb_2 := kb_plain F3 (fun _ _ _ _ _ _ us ws h1 h2 => match us, ws, h1, h2 with | [u0], [], _, _ => ⟨[u0], rfl, .arg rfl (.nil)⟩)
      kb_3 := kb_kwN (m := "most") (st := d1) rfl w1_most (fun us ws h1 h2 => match us, ws, h1, h2 with | [u0], [v0], _, _ => ⟨[u0, v0, .none], ⟨_, _, _, _, _, _, rfl, rfl, rfl⟩, .arg rfl (.arg rfl (.dft (v := .non) rfl (fun _ _ _ _ => .non) (.nil)))⟩)
      kb_4 := kb_plain F16 (fun _ _ _ _ _ _ us ws h1 h2 => match us, ws, h1, h2 with | [u0, u1], [], _, _ => ⟨[u0, u1], rfl, .arg rfl (.arg rfl (.nil))⟩)
      kb_5 := kb_plain F17 (fun _ _ _ _ _ _ us ws h1 h2 => match us, ws, h1, h2 with | [u0], [], _, _ => ⟨[u0], rfl, .arg rfl (.nil)⟩)
      kb_6 := kb_plain F15 (fun _ _ _ _ _ _ us ws h1 h2 => match us, ws, h1, h2 with | [u0, u1], [], _, _ => ⟨[u0, u1], rfl, .arg rfl (.arg rfl (.nil))⟩)
      kb_7 := kb_plain F18 (fun _ _ _ _ _ _ us ws h1 h2 => match us, ws, h1, h2 with | [u0], [], _, _ => ⟨[u0], rfl, .arg rfl (.nil)⟩)
      kb_8 := kb_plain F11 (fun _ _ _ _ _ _ us ws h1 h2 => match us, ws, h1, h2 with | [u0], [], _, _ => ⟨[u0], rfl, .arg rfl (.nil)⟩)
      kb_9 := kb_plain F11 (fun _ _ _ _ _ _ us ws h1 h2 => match us, ws, h1, h2 with | [], [v0], _, _ => ⟨[v0], rfl, .arg rfl (.nil)⟩)
      kb_10 := kb_plain F12 (fun _ _ _ _ _ _ us ws h1 h2 => match us, ws, h1, h2 with | [u0], [], _, _ => ⟨[u0], rfl, .arg rfl (.nil)⟩)
      kb_11 := kb_plain F19 (fun _ _ _ _ _ _ us ws h1 h2 => match us, ws, h1, h2 with | [u0], [], _, _ => ⟨[u0], rfl, .arg rfl (.nil)⟩)
      kb_12 := kb_plain F12 (fun _ _ _ _ _ _ us ws h1 h2 => match us, ws, h1, h2 with | [], [v0], _, _ => ⟨[v0], rfl, .arg rfl (.nil)⟩)
      kb_13 := kb_plain F4 (fun _ _ _ _ _ _ us ws h1 h2 => match us, ws, h1, h2 with | [u0], [v0], _, _ => ⟨[u0, v0], rfl, .arg rfl (.arg rfl (.nil))⟩)
      kb_14 := kb_plain F6 (fun _ _ _ _ _ _ us ws h1 h2 => match us, ws, h1, h2 with | [u0], [], _, _ => ⟨[u0], rfl, .arg rfl (.nil)⟩)
      kb_15 := kb_plain F7 (fun _ _ _ _ _ _ us ws h1 h2 => match us, ws, h1, h2 with | [u0], [], _, _ => ⟨[u0], rfl, .arg rfl (.nil)⟩)
      kb_16 := kb_plain F8 (fun _ _ _ _ _ _ us ws h1 h2 => match us, ws, h1, h2 with | [u0], [v0, v1], _, _ => ⟨[u0, v0, v1], rfl, .arg rfl (.arg rfl (.arg rfl (.nil)))⟩)
      kb_17 := kb_plain F9 (fun _ _ _ _ _ _ us ws h1 h2 => match us, ws, h1, h2 with | [u0, u1], [], _, _ => ⟨[u0, u1], rfl, .arg rfl (.arg rfl (.nil))⟩)
      kb_18 := kb_plain F22 (fun _ _ _ _ _ _ us ws h1 h2 => match us, ws, h1, h2 with | [u0, u1, u2], [], _, _ => ⟨[u0, u1, u2], rfl, .arg rfl (.arg rfl (.arg rfl (.nil)))⟩)
      kb_19 := kb_plain F21 (fun _ _ _ _ _ _ us ws h1 h2 => match us, ws, h1, h2 with | [u0, u1, u2], [], _, _ => ⟨[u0, u1, u2], rfl, .arg rfl (.arg rfl (.arg rfl (.nil)))⟩)
      kb_20 := kb_plain F4 (fun _ _ _ _ _ _ us ws h1 h2 => match us, ws, h1, h2 with | [u0, u1], [], _, _ => ⟨[u0, u1], rfl, .arg rfl (.arg rfl (.nil))⟩)
      kb_21 := kb_plain F5 (fun _ _ _ _ _ _ us ws h1 h2 => match us, ws, h1, h2 with | [u0], [], _, _ => ⟨[u0], rfl, .arg rfl (.nil)⟩)
      kb_22 := kb_plain F10 (fun _ _ _ _ _ _ us ws h1 h2 => match us, ws, h1, h2 with | [u0], [], _, _ => ⟨[u0], rfl, .arg rfl (.nil)⟩)
      kb_23 := kb_plain F9 (fun _ _ _ _ _ _ us ws h1 h2 => match us, ws, h1, h2 with | [u0], [v0], _, _ => ⟨[u0, v0], rfl, .arg rfl (.arg rfl (.nil))⟩)
      kb_24 := kb_plain F8 (fun _ _ _ _ _ _ us ws h1 h2 => match us, ws, h1, h2 with | [u0, u1, u2], [], _, _ => ⟨[u0, u1, u2], rfl, .arg rfl (.arg rfl (.arg rfl (.nil)))⟩)
      kb_25 := kb_plain F8 (fun _ _ _ _ _ _ us ws h1 h2 => match us, ws, h1, h2 with | [u0], [v0, v1], _, _ => ⟨[u0, v1, v0], rfl, .arg rfl (.arg rfl (.arg rfl (.nil)))⟩)
      kb_26 := kb_plain F23 (fun _ _ _ _ _ _ us ws h1 h2 => match us, ws, h1, h2 with | [u0, u1, u2], [], _, _ => ⟨[u0, u1, u2], rfl, .arg rfl (.arg rfl (.arg rfl (.nil)))⟩)
      kb_27 := kb_plain F14 (fun _ _ _ _ _ _ us ws h1 h2 => match us, ws, h1, h2 with | [u0], [], _, _ => ⟨[u0], rfl, .arg rfl (.nil)⟩)
      kb_28 := kb_plain F13 (fun _ _ _ _ _ _ us ws h1 h2 => match us, ws, h1, h2 with | [u0, u1], [], _, _ => ⟨[u0, u1], rfl, .arg rfl (.arg rfl (.nil))⟩)
      kb_29 := kb_plain F20 (fun _ _ _ _ _ _ us ws h1 h2 => match us, ws, h1, h2 with | [u0], [], _, _ => ⟨[u0], rfl, .arg rfl (.nil)⟩)
      kb_30 := kb_plain F24 (fun _ _ _ _ _ _ us ws h1 h2 => match us, ws, h1, h2 with | [u0], [], _, _ => ⟨[u0], rfl, .arg rfl (.nil)⟩)
      mc_NoNumber := PySem.W.mg_of X G X1n
      xf_1 := ⟨X1g, X1t, X1e, X1h⟩
      xno_1 := X1f
      xc_1 := ⟨X1g, X1t, X1e, X1h, X1a, clG, clT, X1m⟩
      xk_1 := ⟨_, ⟨O1, ⟨I1, X1i, X1y, xc_init V1 O1 X1f ⟨rfl, rfl, rfl, by decide +kernel, rfl, by decide +kernel, by decide +kernel⟩ rfl (Or.inl rfl) (Or.inl rfl) (by decide) (by decide)⟩, Binds.all fun us hl => match us, hl with | [_, _], _ => rfl⟩⟩
      ex_NoNumber_1 := PySem.W.exm_ref X1e X1h X1T S1_1
      ex_NoWord_1 := PySem.W.exm_ref X2e X2h X2T S1_2
      mc_NoWord := PySem.W.mg_of X G X2n
      xf_2 := ⟨X2g, X2t, X2e, X2h⟩
      xno_2 := X2f
      xc_2 := ⟨X2g, X2t, X2e, X2h, X2a, clG, clT, X2m⟩
      xk_2 := ⟨_, ⟨O2, ⟨I2, X2i, X2y, xc_init V2 O2 X2f ⟨rfl, rfl, rfl, by decide +kernel, rfl, by decide +kernel, by decide +kernel⟩ rfl (Or.inl rfl) (Or.inl rfl) (by decide) (by decide)⟩, Binds.all fun us hl => match us, hl with | [_, _], _ => rfl⟩⟩
      ex_NoNumber_2 := PySem.W.exm_ref X1e X1h X1T S2_1
      ex_NoWord_2 := PySem.W.exm_ref X2e X2h X2T S2_2
      ko_2_PlanError := K2_PlanError
      mc_PlanError := PySem.W.mg_of X G C9n }
  have S : ∀ b, Src (Z b) dfs := fun b => ⟨F0, rfl, F1, rfl, F2, rfl, F3, rfl, F4, rfl, F5, rfl, F6, rfl, F7, rfl, F8, rfl, F9, rfl, F10, rfl, F11, rfl, F12, rfl, F13, rfl, F14, rfl, F15, rfl, F16, rfl, F17, rfl, F18, rfl, F19, rfl, F20, rfl, F21, rfl, F22, rfl, F23, rfl, F24, rfl, F25, rfl⟩
  refine ⟨PySem.W.fnOf "law" "law" (defArgs d25) (defBody d25) (defScope d25) .none kV25 dc25 pm25 an25 cd25 ct25, spM (Z h) false 24 25, fun s u => .of_eq rfl, fun base hb hn => ?_, fun H a ns hl hO hS _ => ?_⟩
  · exact (levs (T base) (S base) rfl rfl 24).1 25 (by decide)
  · obtain ⟨g, e⟩ := hlaw ns hl
    exact sp_law (Z := Z h) e hS
end K57
namespace K57
open PySem L2 M3 M3.EvM
theorem r0 {L n : Nat} {c : Bool} {g : G} {a0 a1 a2 : D} : callM tab L c (n + 1) 0 [a0, a1, a2] g = out false g (evSs (cf tab L c n) b0 [some a0, some a1, some a2] g) := call_at rfl rfl rfl
theorem r1 {L n : Nat} {c : Bool} {g : G} {a0 a1 a2 : D} : callM tab L c (n + 1) 1 [a0, a1, a2] g = out true g (evSs (cf tab L c n) b1 [some a0, some a1, some a2, none, none, none] g) := call_at rfl rfl rfl
theorem r2 {L n : Nat} {c : Bool} {g : G} {a0 : M3.D} : callM tab L c (n + 1) 2 [a0] g = out false g (evSs (cf tab L c n) b2 [some a0] g) := call_at rfl rfl rfl
theorem r3 {L n : Nat} {c : Bool} {g : G} {a0 : M3.D} : callM tab L c (n + 1) 3 [a0] g = out false g (evSs (cf tab L c n) b3 [some a0] g) := call_at rfl rfl rfl
theorem r4 {L n : Nat} {c : Bool} {g : G} {a0 a1 : D} : callM tab L c (n + 1) 4 [a0, a1] g = out false g (evSs (cf tab L c n) b4 [some a0, some a1] g) := call_at rfl rfl rfl
theorem r5 {L n : Nat} {c : Bool} {g : G} {a0 : M3.D} : callM tab L c (n + 1) 5 [a0] g = out false g (evSs (cf tab L c n) b5 [some a0] g) := call_at rfl rfl rfl
theorem r6 {L n : Nat} {c : Bool} {g : G} {a0 : M3.D} : callM tab L c (n + 1) 6 [a0] g = out false g (evSs (cf tab L c n) b6 [some a0] g) := call_at rfl rfl rfl
theorem r7 {L n : Nat} {c : Bool} {g : G} {a0 : M3.D} : callM tab L c (n + 1) 7 [a0] g = out false g (evSs (cf tab L c n) b7 [some a0] g) := call_at rfl rfl rfl
theorem r8 {L n : Nat} {c : Bool} {g : G} {a0 a1 a2 : D} : callM tab L c (n + 1) 8 [a0, a1, a2] g = out false g (evSs (cf tab L c n) b8 [some a0, some a1, some a2, none, none, none] g) := call_at rfl rfl rfl
theorem r9 {L n : Nat} {c : Bool} {g : G} {a0 a1 : D} : callM tab L c (n + 1) 9 [a0, a1] g = out false g (evSs (cf tab L c n) b9 [some a0, some a1] g) := call_at rfl rfl rfl
theorem r10 {L n : Nat} {c : Bool} {g : G} {a0 : M3.D} : callM tab L c (n + 1) 10 [a0] g = out false g (evSs (cf tab L c n) b10 [some a0, none] g) := call_at rfl rfl rfl
theorem r11 {L n : Nat} {c : Bool} {g : G} {a0 : M3.D} : callM tab L c (n + 1) 11 [a0] g = out true g (evSs (cf tab L c n) b11 [some a0] g) := call_at rfl rfl rfl
theorem r12 {L n : Nat} {c : Bool} {g : G} {a0 : M3.D} : callM tab L c (n + 1) 12 [a0] g = out true g (evSs (cf tab L c n) b12 [some a0, none, none, none, none] g) := call_at rfl rfl rfl
theorem r13 {L n : Nat} {c : Bool} {g : G} {a0 a1 : D} : callM tab L c (n + 1) 13 [a0, a1] g = out true g (evSs (cf tab L c n) b13 [some a0, some a1] g) := call_at rfl rfl rfl
theorem r14 {L n : Nat} {c : Bool} {g : G} {a0 : M3.D} : callM tab L c (n + 1) 14 [a0] g = out false g (evSs (cf tab L c n) b14 [some a0] g) := call_at rfl rfl rfl
theorem r15 {L n : Nat} {c : Bool} {g : G} {a0 a1 : D} : callM tab L c (n + 1) 15 [a0, a1] g = out false g (evSs (cf tab L c n) b15 [some a0, some a1, none, none] g) := call_at rfl rfl rfl
theorem r16 {L n : Nat} {c : Bool} {g : G} {a0 a1 : D} : callM tab L c (n + 1) 16 [a0, a1] g = out true g (evSs (cf tab L c n) b16 [some a0, some a1, none] g) := call_at rfl rfl rfl
theorem r17 {L n : Nat} {c : Bool} {g : G} {a0 : M3.D} : callM tab L c (n + 1) 17 [a0] g = out false g (evSs (cf tab L c n) b17 [some a0, none] g) := call_at rfl rfl rfl
theorem r18 {L n : Nat} {c : Bool} {g : G} {a0 : M3.D} : callM tab L c (n + 1) 18 [a0] g = out true g (evSs (cf tab L c n) b18 [some a0, none] g) := call_at rfl rfl rfl
theorem r19 {L n : Nat} {c : Bool} {g : G} {a0 : M3.D} : callM tab L c (n + 1) 19 [a0] g = out true g (evSs (cf tab L c n) b19 [some a0, none, none, none] g) := call_at rfl rfl rfl
theorem r20 {L n : Nat} {c : Bool} {g : G} {a0 : M3.D} : callM tab L c (n + 1) 20 [a0] g = out false g (evSs (cf tab L c n) b20 [some a0, none, none, none, none, none, none, none, none, none, none] g) := call_at rfl rfl rfl
theorem r21 {L n : Nat} {c : Bool} {g : G} {a0 a1 a2 : D} : callM tab L c (n + 1) 21 [a0, a1, a2] g = out true g (evSs (cf tab L c n) b21 [some a0, some a1, some a2, none] g) := call_at rfl rfl rfl
theorem r22 {L n : Nat} {c : Bool} {g : G} {a0 a1 a2 : D} : callM tab L c (n + 1) 22 [a0, a1, a2] g = out false g (evSs (cf tab L c n) b22 [some a0, some a1, some a2, none] g) := call_at rfl rfl rfl
theorem r23 {L n : Nat} {c : Bool} {g : G} {a0 a1 a2 : D} : callM tab L c (n + 1) 23 [a0, a1, a2] g = out false g (evSs (cf tab L c n) b23 [some a0, some a1, some a2, none, none, none, none, none, none, none, none, none] g) := call_at rfl rfl rfl
theorem r24 {L n : Nat} {c : Bool} {g : G} {a0 : M3.D} : callM tab L c (n + 1) 24 [a0] g = out false g (evSs (cf tab L c n) b24 [some a0, none, none, none, none, none, none, none, none, none, none, none, none] g) := call_at rfl rfl rfl
theorem r25 {L n : Nat} {c : Bool} {g : G} {a0 : M3.D} : callM tab L c (n + 1) 25 [a0] g = out false g (evSs (cf tab L c n) b25 [some a0, none, none] g) := call_at rfl rfl rfl
theorem l_digits : (("0123456789" : Str)) = sL [48,49,50,51,52,53,54,55,56,57] := by decide +kernel
theorem l_minus : (("-" : Str)) = sL [45] := by decide +kernel
theorem l_empty : (("" : Str)) = sL [] := by decide +kernel
theorem l_zero : (("0" : Str)) = sL [48] := by decide +kernel
theorem l_blank : ((" " : Str)) = sL [32] := by decide +kernel
theorem l_dot : (("." : Str)) = sL [46] := by decide +kernel
theorem l_nl : (("\n" : Str)) = sL [10] := by decide +kernel
section
variable {L n : Nat} {c : Bool} {g : G}
theorem w_int {t lo hi : Int} : callM tab L c (n+1) 0 [.int t, .int lo, .int hi] g = .ok (.bl (decide (lo ≤ t) && decide (t ≤ hi))) g := by
  rw [r0]; unfold b0
  kit_pair []
theorem w_low {t lo : Int} : callM tab L c (n+1) 0 [.int t, .int lo, .non] g = .ok (.bl (decide (lo ≤ t))) g := by
  rw [r0]; unfold b0
  kit_pair []
/-- the numeral's value as number_in tells it -/
def dig (l : List Nat) : Bool := l.all fun x => decide (x ∈ [48,49,50,51,52,53,54,55,56,57])
def numIn (l : List Nat) : D := if l.isEmpty || !dig l || (l.head? == some 48 && l != [48]) then .non else .int (NumText.digitsVal l : Nat)
theorem dig_all {l : List Nat} (h : dig l = true) : NumText.AllDigits l := by
  unfold dig at h
  rw [List.all_eq_true] at h
  intro x hx
  have := h x hx
  simp at this; omega
theorem fold_pos : ∀ (l : List Nat) (a : Nat), 0 < a → 0 < l.foldl (fun acc c => acc * 10 + (c - 48)) a
  | [], a, h => h
  | c :: r, a, h => fold_pos r (a * 10 + (c - 48)) (by omega)
theorem val_pos {a : Nat} {r : List Nat} (h : dig (a :: r) = true) (h0 : a ≠ 48) : 0 < NumText.digitsVal (a :: r) := by
  have := dig_all h a (by simp)
  exact fold_pos r (0 * 10 + (a - 48)) (by omega)
theorem number_ok {l : List Nat} (hl : l.length ≤ 600) : callM tab L true (n+2) 1 [.str (sL l), .int 0, .non] g = .ok (numIn l) g := by
  have hz := EvM.sizeLine_eq
  have hl1 : (sL l).length ≤ 640 := by rw [sL_len]; omega
  have hl2 : (sL l).length ≤ sizeLine := by rw [sL_len]; omega
  -- the figures
  have fig : ∀ (f : List Nat), f.length ≤ 600 → (compM (cturn (cf tab L true (n + 1)) [] (.op .isin [.v 5, .k (.str "0123456789")])) (.nm 5) [some (.str (sL l)), some (.int 0), some .non, some (.str (sL f)), none, none] [] (f.map fun c => D.str ⟨#[c]⟩) [] g) = .ok (f.map fun x => D.bl (decide (x ∈ [48,49,50,51,52,53,54,55,56,57]))) g := by
    intro f hf
    refine comp_map _ _ stands_nil f (fun y hy => ⟨_, rfl, ?_⟩) (by omega)
    rw [cturn_eq]
    kit_pair [l_digits, sL_one, sL_in]
  have q0 : noRef D.non = true := rfl
  have q1 : ∀ i, noRef (D.int i) = true := fun _ => rfl
  have hc1 : cutD l none (some 1) = l.take 1 := cutD_to (by decide)
  have hc2 : cutD l (some 1) none = l.drop 1 := cutD_from (by decide)
  have e1 : ∀ f : List Nat, (f.all fun y => decide (y ∈ [48,49,50,51,52,53,54,55,56,57])) = dig f := fun _ => rfl
  have x0 : ∀ (a : Nat) (r : List Nat), r.length ≤ 600 → ixM g (.str (sL (a :: r))) 0 = some (.str (sL [a])) := by
    intro a r hr
    rw [x_str (by rw [sL_len]; simp; omega), sL_cps, atI_0]; rfl
  have be : ∀ f : List Nat, (sL f == sL []) = f.isEmpty := by intro f; rw [sL_beq]; cases f <;> rfl
  rw [r1]; unfold b1
  by_cases hm : ∃ f, l = 45 :: f
  · obtain ⟨f, hf⟩ := hm
    have hf6 : f.length ≤ 600 := by rw [hf] at hl; simp at hl; omega
    have t1 : (sL (l.take 1) == sL [45]) = true := by rw [hf]; simp
    have t2 : l.drop 1 = f := by rw [hf]; rfl
    have t3 : numIn l = .non := by rw [hf]; simp [numIn, dig]
    have t4 : (sL l != sL [48]) = true := by rw [bne, sL_beq, hf]; rfl
    have hf2 : (sL f).length ≤ sizeLine := by rw [sL_len]; omega
    rw [t3]
    cases hd : dig f with
    | false => kit_pair [sL_cut, hc1, hc2, t1, t2, l_minus, l_empty, be, zorB_v, sL_cps, fig f hf6, o_all_map, e1, hd, fin_pure q0]
    | true =>
      cases f with
      | nil => kit_pair [sL_cut, hc1, hc2, t1, t2, l_minus, l_empty, be, zorB_v, sL_cps, fig [] hf6, o_all_map, e1, hd, fin_pure q0]
      | cons a r =>
        have hr6 : r.length ≤ 600 := by simp at hf6; omega
        by_cases ha : a = 48
        · have b1 : (sL [a] == sL [48]) = true := by rw [ha, sL_beq]; rfl
          have t4' : (!(sL l == sL [48])) = true := t4
          kit_pair [sL_cut, hc1, hc2, t1, t2, l_minus, l_empty, l_zero, be, zorB_v, sL_cps, fig _ hf6, o_all_map, e1, hd, fin_pure q0, x0 a r hr6, b1, t4', Option.map_some]
        · have b1 : (sL [a] == sL [48]) = false := by rw [sL_beq]; simp [ha]
          have hv := val_pos hd ha
          have hi : PySem.intText? (sL l) = some (-((NumText.digitsVal (a :: r) : Nat) : Int)) := by
            rw [hf]; exact int_neg (dig_all hd) (by simp) (by omega)
          have hw : callM tab L true (n + 1) 0 [.int (-((NumText.digitsVal (a :: r) : Nat) : Int)), .int 0, .non] g = .ok (.bl false) g := by
            rw [w_low, decide_eq_false (by omega)]
          kit_pair [sL_cut, hc1, hc2, t1, t2, l_minus, l_empty, l_zero, be, zorB_v, sL_cps, fig _ hf6, o_all_map, e1, hd, fin_pure q0, x0 a r hr6, b1, o_int_str hi hl1, hw]
  · have t1 : (sL (l.take 1) == sL [45]) = false := by
      rw [sL_beq]
      cases l with
      | nil => rfl
      | cons a r =>
        have : a ≠ 45 := fun h => hm ⟨r, by rw [h]⟩
        simp [this]
    cases hd : dig l with
    | false =>
      have t3 : numIn l = .non := by simp [numIn, hd]
      rw [t3]
      kit_pair [sL_cut, hc1, hc2, t1, l_minus, l_empty, be, zorB_v, sL_cps, fig l hl, o_all_map, e1, hd, fin_pure q0]
    | true =>
      cases l with
      | nil =>
        have t3 : numIn [] = .non := by simp [numIn]
        rw [t3]
        kit_pair [sL_cut, hc1, hc2, t1, l_minus, l_empty, be, zorB_v, sL_cps, fig [] hl, o_all_map, e1, hd, fin_pure q0]
      | cons a r =>
        have hr6 : r.length ≤ 600 := by simp at hl; omega
        have hi : PySem.intText? (sL (a :: r)) = some ((NumText.digitsVal (a :: r) : Nat) : Int) := int_sL (dig_all hd) (by simp) (by omega)
        have hw : callM tab L true (n + 1) 0 [.int ((NumText.digitsVal (a :: r) : Nat) : Int), .int 0, .non] g = .ok (.bl true) g := by
          rw [w_low, decide_eq_true (by omega)]
        by_cases ha : a = 48
        · have b1 : (sL [a] == sL [48]) = true := by rw [ha, sL_beq]; rfl
          by_cases hr : r = []
          · have t3 : numIn (a :: r) = .int ((NumText.digitsVal (a :: r) : Nat) : Int) := by simp [numIn, hd, ha, hr]; simp [ha, hr] at hd; exact hd
            have t4 : (!(sL (a :: r) == sL [48])) = false := by rw [ha, hr, sL_beq]; rfl
            rw [t3]
            kit_pair [sL_cut, hc1, hc2, t1, l_minus, l_empty, l_zero, be, zorB_v, sL_cps, fig _ hl, o_all_map, e1, hd, fin_pure (q1 _), x0 a r hr6, b1, t4, o_int_str hi hl1, hw]
          · have t3 : numIn (a :: r) = .non := by simp [numIn, hd, ha, hr]
            have t4 : (!(sL (a :: r) == sL [48])) = true := by rw [ha, sL_beq]; simp [hr]
            rw [t3]
            kit_pair [sL_cut, hc1, hc2, t1, l_minus, l_empty, l_zero, be, zorB_v, sL_cps, fig _ hl, o_all_map, e1, hd, fin_pure q0, x0 a r hr6, b1, t4, o_int_str hi hl1, hw]
        · have b1 : (sL [a] == sL [48]) = false := by rw [sL_beq]; simp [ha]
          have t3 : numIn (a :: r) = .int ((NumText.digitsVal (a :: r) : Nat) : Int) := by simp [numIn, hd, ha]
          rw [t3]
          kit_pair [sL_cut, hc1, hc2, t1, l_minus, l_empty, l_zero, be, zorB_v, sL_cps, fig _ hl, o_all_map, e1, hd, fin_pure (q1 _), x0 a r hr6, b1, o_int_str hi hl1, hw]
end
end K57
namespace K57
open PySem L2 M3 M3.EvM
section
variable {L n : Nat} {c : Bool} {g : G}
/-! need_line -/
theorem need_ok {l : List Nat} (h : 10 ∉ l) (hl : l.length ≤ 1000) : callM tab L c (n+1) 2 [.str (sL l)] g = .ok .non g := by
  rw [r2]; unfold b2
  kit_pair [l_nl, sL_in, decide_eq_false h]
/-- what is no line -/
def NoLine (d : D) : Prop := match d with
  | .str s => ∃ l, s = sL l ∧ 10 ∈ l
  | _ => True
theorem need_no {d : D} (h : NoLine d) (hr : ∀ m, d = .ref m → ∃ xs, g[m]? = some (.lst xs)) : callM tab L true (n+1) 2 [d] g = .exc 2 [("found", d)] g := by
  rw [r2]; unfold b2
  cases d with
  | str s =>
    obtain ⟨l, e, h⟩ := h
    subst e
    kit_pair [l_nl, sL_in, decide_eq_true h]
    rfl
  | ref m =>
    obtain ⟨xs, e⟩ := hr m rfl
    kit_pair [is_str_rl e]
    rfl
  | non => kit_pair []; rfl
  | bl b => kit_pair []; rfl
  | int i => kit_pair []; rfl
  | tup xs => kit_pair []; rfl
  | lst xs => kit_pair []; rfl
  | dct ks ds => kit_pair []; rfl
/-! sealed -/
def sealL (l : List Nat) : List Nat := TL.numL l.length ++ 32 :: (l ++ [46])
theorem numL_short (k : Nat) (h : k < 1000) : (TL.numL k).length ≤ 3 := TL.numL_len (k := 3) (by decide) (by omega)
theorem sealL_len {l : List Nat} (h : l.length < 1000) : (sealL l).length ≤ l.length + 5 := by
  have := numL_short l.length h
  simp [sealL]; omega
theorem sealed_ok {l : List Nat} (h : 10 ∉ l) (hl : l.length < 1000) : callM tab L true (n+2) 11 [.str (sL l)] g = .ok (.str (sL (sealL l))) g := by
  have hz := EvM.sizeLine_eq
  have h3 := numL_short l.length hl
  have q : ∀ s, noRef (D.str s) = true := fun _ => rfl
  have e0 : (⟨#[]⟩ : Str) = sL [] := rfl
  have e2 : sealL l = ((TL.numL l.length ++ [32]) ++ l) ++ [46] := by simp [sealL]
  rw [r11]; unfold b11
  rw [e2]
  kit_pair [need_ok h (by omega), sL_len, List.length_append, o_fs', num_sL, e0, sL_app, l_blank, l_dot, fin_pure (q _)]
/-! _law_line -/
def Ln (l : List Nat) : Prop := l.length ≤ 60 ∧ ∀ c ∈ l, c < 128 ∧ c ≠ 10
theorem Ln.no {l : List Nat} (h : Ln l) : 10 ∉ l := fun hm => (h.2 10 hm).2 rfl

def Lc (c : Nat) : Prop := c < 128 ∧ c ≠ 10
/-- a part of a box's cell changes, nothing else -/
theorem set_self {g : G} {p : Nat} {c : Cell} (h : g[p]? = some c) : g.set p c = g := by
  obtain ⟨h1, h2⟩ := List.getElem?_eq_some_iff.mp h
  rw [← h2]; exact List.set_getElem_self h1
theorem take15 {p : Nat} {many k : Int} {cell : Cell} (hp : g[p]? = some cell) (hb : BoxC k cell) (hk : k ≤ 68719476736) (hm : 0 < many) (hm2 : many < 18446744073709551616) :
    ∃ d cell', callM tab L c (n + 1) 15 [.ref p, .int many] g = .ok (.int d) (g.set p cell') ∧ 0 ≤ d ∧ d < many ∧ BoxC (k + 1) cell' :=
  take_ok (A := 15486209) (B := 179425097) (C := 8191) rfl (by decide) (by decide) (by decide) (by decide) (by decide) (by decide) hp hb hk hm hm2
theorem line_ok {p : Nat} {k : Int} {cell : Cell} (hp : g[p]? = some cell) (hb : BoxC k cell) (hk : k ≤ 1000000000) (hA : AllC g) :
    ∃ l cell', callM tab L true (n + 2) 18 [.ref p] g = .ok (.str (sL l)) (g.set p cell') ∧ Ln l ∧ BoxC (k + 100) cell' := by
  have hz := EvM.sizeLine_eq
  obtain ⟨d1, c1, t1, h1, h2, b1⟩ := take15 (L := L) (n := n) (c := true) (many := 60) hp hb (by omega) (by decide) (by decide)
  have hp1 : (g.set p c1)[p]? = some c1 := get_set_eq hp
  obtain ⟨d2, c2, t2, h3, h4, b2⟩ := take15 (L := L) (n := n) (c := true) (many := 6) hp1 b1 (by omega) (by decide) (by decide)
  have hp2 : (g.set p c2)[p]? = some c2 := get_set_eq hp
  rw [List.set_set] at t2
  obtain ⟨m, hm, hm0, hm6⟩ : ∃ m : Int, atI [D.int 0, .int 1, .int 2, .int 5, .int 12, .int d1] d2 = some (.int m) ∧ 0 ≤ m ∧ m < 60 := by
    have : d2 = 0 ∨ d2 = 1 ∨ d2 = 2 ∨ d2 = 3 ∨ d2 = 4 ∨ d2 = 5 := by omega
    rcases this with e | e | e | e | e | e <;> subst e
    · exact ⟨0, rfl, by decide, by decide⟩
    · exact ⟨1, rfl, by decide, by decide⟩
    · exact ⟨2, rfl, by decide, by decide⟩
    · exact ⟨5, rfl, by decide, by decide⟩
    · exact ⟨12, rfl, by decide, by decide⟩
    · exact ⟨d1, rfl, h1, h2⟩
  have hcp := comp_draw (f := cturn (cf tab L true (n + 1)) [] (.op .ix [.k (.str "ab 0.1Z,-"), .call 15 [.v 0, .k (.int 9)] [] [.inl 0, .inl 1]])) (tg := .nm 1) (ρ := [some (.ref p), none]) (g := g) (p := p) (k := k + 2) (δ := 1)
    (fun d => ∃ a, Lc a ∧ d = .str (sL [a])) (lt_of_get hp) ((List.range m.toNat).map fun (j : Nat) => D.int (0 + (j : Int))) (by decide) (by simp; omega)
    (fun x hx cc j hj1 hj2 hb => by
      simp only [List.length_map, List.length_range] at hj2
      obtain ⟨d3, c3, t3, h5, h6, b3⟩ := take15 (g := g.set p cc) (L := L) (n := n) (c := true) (many := 9) (get_set_eq hp) hb (by omega) (by decide) (by decide)
      rw [List.set_set] at t3
      have e : ∃ a, atI ("ab 0.1Z,-" : Str).cps.toList d3 = some a ∧ Lc a := by
        have e0 : ("ab 0.1Z,-" : Str).cps.toList = [97, 98, 32, 48, 46, 49, 90, 44, 45] := by decide +kernel
        rw [e0]
        have : d3 = 0 ∨ d3 = 1 ∨ d3 = 2 ∨ d3 = 3 ∨ d3 = 4 ∨ d3 = 5 ∨ d3 = 6 ∨ d3 = 7 ∨ d3 = 8 := by omega
        rcases this with e | e | e | e | e | e | e | e | e <;> subst e <;> exact ⟨_, rfl, by decide, by decide⟩
      obtain ⟨a, e, ha⟩ := e
      have hx2 : ("ab 0.1Z,-" : Str).length ≤ sizeLine := by decide +kernel
      refine ⟨_, rfl, .str (sL [a]), c3, ?_, ⟨a, ha, rfl⟩, b3⟩
      rw [cturn_eq]
      kit_pair [t3, x_str hx2, e, Option.map_some, sL_one]) c2 (BoxC.mono (by omega) b2)
  obtain ⟨ds, c3, e3, hl, hP, b3⟩ := hcp
  obtain ⟨l, el, hl2⟩ := all_map (v := fun a => D.str (sL [a])) ds hP
  simp only [List.length_map, List.length_range] at hl b3
  rw [el, List.length_map] at hl
  have hjoin : Txt.join (sL []) (l.map fun a => sL [a]) = sL l := by
    have := join_nil (l.map fun a => [a])
    rw [List.map_map] at this
    rw [show (l.map fun a => sL [a]) = l.map (sL ∘ fun a => [a]) from rfl, this]
    congr 1
    clear el hl hl2 this
    induction l with
    | nil => rfl
    | cons a r ih => simp [ih]
  refine ⟨l, c3, ?_, ⟨by omega, hl2⟩, BoxC.mono (by omega) b3⟩
  have hjn : ∀ g : G, opM .join [.str (sL []), .lst ds] g = .ok (.str (sL l)) g := by
    intro g
    rw [o_join (ys := l.map fun a => sL [a]) (by rw [el]; exact strsOf_map _ l) (by
      have e1 : ((l.map fun a => sL [a]).map (·.length)).sum = l.length := by
        clear el hl hl2 hjoin
        induction l with
        | nil => rfl
        | cons a r ih => simp only [List.map_cons, List.sum_cons, ih, sL_len, List.length_cons, List.length_nil]; omega
      rw [e1, sL_len]; simp; omega), hjoin]
  have q : noRef (D.str (sL l)) = true := rfl
  rw [r18]; unfold b18
  kit_pair [t1, t2, hm, sr_rng1, e3, l_empty, hjn]
  rw [show finZ true g (.str (sL l)) (g.set p c3) = .ok (.str (sL l)) ((g.set p c3).take g.length) from fin_upd (by rw [show g.length = (g.set p c3).length by simp, List.take_length]; exact AllC.set hA b3.closed) (by simp) (frz_pure q)]
  rw [show g.length = (g.set p c3).length by simp, List.take_length]
end
end K57
namespace K57
open PySem L2 M3 M3.EvM
theorem mapM_len {α β : Type} {f : α → Option β} : ∀ {xs : List α} {ys : List β}, xs.mapM f = some ys → ys.length = xs.length
  | [], ys, h => by simp at h; subst h; rfl
  | x :: xs, ys, h => by
    rw [List.mapM_cons] at h
    cases h1 : f x with
    | none => rw [h1] at h; cases h
    | some y =>
      rw [h1] at h
      cases h2 : xs.mapM f with
      | none => rw [h2] at h; cases h
      | some zs =>
        rw [h2] at h
        have e : ys = y :: zs := by cases h; rfl
        subst e
        simp [mapM_len h2]
theorem eq_ne {g : G} {xs : List D} {ds : List PyData} (h : xs.mapM (py g 39) = some ds) (hd : SeqAt.shaped (.list ds) = true) (hne : xs ≠ []) : eqM g (.lst xs) (.lst []) = some false := by
  have hl := mapM_len h
  have h1 : py g PYDEEP (.lst xs) = some (.list ds) := by
    show (xs.mapM (py g 39)).map PyData.list = _
    rw [h]; rfl
  have h2 : py g PYDEEP (.lst []) = some (.list []) := rfl
  have h3 : eqM g (.lst xs) (.lst []) = (match py g PYDEEP (.lst xs), py g PYDEEP (.lst []) with
    | some x, some y => if SeqAt.shaped x && SeqAt.shaped y then some (PyData.eqv x y) else none
    | _, _ => none) := by cases xs <;> rfl
  rw [h3, h1, h2]
  simp only [hd]
  have h4 : SeqAt.shaped (.list []) = true := by decide
  rw [h4]
  cases ds with
  | nil =>
    exfalso
    cases xs with
    | nil => exact hne rfl
    | cons x r => simp at hl
  | cons d r => rfl
theorem eq_strs {g : G} (ys : List (List Nat)) (hne : ys ≠ []) (h : ∀ y ∈ ys, ∀ c ∈ y, c < 1114112) : eqM g (.lst (ys.map fun y => .str (sL y))) (.lst []) = some false := by
  have h1 : ∀ ys : List (List Nat), (ys.map fun y => D.str (sL y)).mapM (py g 39) = some (ys.map fun y => PyData.str (sL y)) := by
    intro ys
    induction ys with
    | nil => rfl
    | cons y r ih => rw [List.map_cons, List.mapM_cons, ih]; rfl
  refine eq_ne (h1 ys) ?_ (by simpa using hne)
  have h2 : ∀ ys : List (List Nat), (∀ y ∈ ys, ∀ c ∈ y, c < 1114112) → PyData.canLayAll0 (ys.map fun y => PyData.str (sL y)) = true ∧ PyData.depthAll (ys.map fun y => PyData.str (sL y)) = 0 := by
    intro ys
    induction ys with
    | nil => intro _; exact ⟨rfl, rfl⟩
    | cons y r ih =>
      intro h
      obtain ⟨i1, i2⟩ := ih fun z hz => h z (by simp [hz])
      constructor
      · rw [List.map_cons]
        show (PyData.canLay0 (.str (sL y)) && PyData.canLayAll0 (r.map fun y => PyData.str (sL y))) = true
        rw [i1, Bool.and_true]
        show PyData.strOk (sL y) = true
        unfold PyData.strOk
        rw [Array.all_eq_true_iff_forall_mem]
        intro c hc
        have := h y (by simp) c (by simpa [sL] using hc)
        simpa using this
      · rw [List.map_cons]
        show max (PyData.depth (.str (sL y))) (PyData.depthAll (r.map fun y => PyData.str (sL y))) = 0
        rw [i2]; rfl
  obtain ⟨i1, i2⟩ := h2 ys h
  show (PyData.canLay0 (.list _) && decide (PyData.depth (.list _) ≤ 64)) = true
  have e1 : PyData.canLay0 (.list (ys.map fun y => PyData.str (sL y))) = PyData.canLayAll0 (ys.map fun y => PyData.str (sL y)) := rfl
  have e2 : PyData.depth (.list (ys.map fun y => PyData.str (sL y))) = PyData.depthAll (ys.map fun y => PyData.str (sL y)) + 1 := rfl
  rw [e1, e2, i1, i2]; rfl
/-- the line that a text with a blank seals -/
def openP (p q : List Nat) : D :=
  if !p.isEmpty && dig p && !(p.head? == some 48 && p != [48]) && q.length == NumText.digitsVal p + 1 && q.getLast? == some 46 && !q.contains 10 then .str (sL q.dropLast) else .non
section
variable {L n : Nat} {c : Bool} {g : G}
theorem opened_none {l : List Nat} (h : 32 ∉ l) (hl : l.length ≤ 600) : callM tab L true (n+3) 12 [.str (sL l)] g = .ok .non g := by
  have hz := EvM.sizeLine_eq
  have q0 : noRef D.non = true := rfl
  have hl2 : (sL l).length ≤ sizeLine := by rw [sL_len]; omega
  have hb : ¬ (sL [32]).length = 0 := by rw [sL_len]; simp
  have h1 : (sL [32]).length ≠ 0 ∧ (sL l).length ≤ sizeLine := ⟨hb, hl2⟩
  have hN := number_ok (L := L) (n := n) (g := g) hl
  have e : numIn l = .non ∨ ∃ v, numIn l = .int v := by
    unfold numIn; split
    · exact .inl rfl
    · exact .inr ⟨_, rfl⟩
  rw [r12]; unfold b12
  rcases e with e | ⟨v, e⟩
  · rw [e] at hN
    kit_pair [l_blank, part_none h, hN, fin_pure q0]
  · rw [e] at hN
    kit_pair [l_blank, l_empty, part_none h, hN, fin_pure q0, sL_beq, beq_self_eq_true]
theorem opened_some {p q : List Nat} (h : 32 ∉ p) (hl : (p ++ 32 :: q).length ≤ 600) : callM tab L true (n+3) 12 [.str (sL (p ++ 32 :: q))] g = .ok (openP p q) g := by
  have hz := EvM.sizeLine_eq
  have q0 : noRef D.non = true := rfl
  have q1 : ∀ s, noRef (D.str s) = true := fun _ => rfl
  have hl2 : (sL (p ++ 32 :: q)).length ≤ sizeLine := by rw [sL_len]; omega
  have h1 : (sL [32]).length ≠ 0 ∧ (sL (p ++ 32 :: q)).length ≤ sizeLine := ⟨by rw [sL_len]; simp, hl2⟩
  have hl0 := hl
  simp only [List.length_append, List.length_cons] at hl
  have hN := number_ok (L := L) (n := n) (g := g) (l := p) (by omega)
  have hb : (sL [32] == sL []) = false := by rw [sL_beq]; rfl
  rw [r12]; unfold b12
  by_cases hp : (p.isEmpty || !dig p || (p.head? == some 48 && p != [48])) = true
  · have e : numIn p = .non := by unfold numIn; rw [if_pos hp]
    have e2 : openP p q = .non := by
      unfold openP
      rw [if_neg]
      intro hh
      simp only [Bool.and_eq_true, Bool.not_eq_true'] at hh
      obtain ⟨⟨⟨⟨⟨a1, a2⟩, a3⟩, _⟩, _⟩, _⟩ := hh
      rw [a1, a2, a3] at hp
      simp at hp
    rw [e] at hN
    rw [e2]
    kit_pair [l_blank, part_one h, hN, fin_pure q0]
  · have hp2 : (p.isEmpty || !dig p || (p.head? == some 48 && p != [48])) = false := by simpa using hp
    have e : numIn p = .int (NumText.digitsVal p : Nat) := by unfold numIn; rw [if_neg hp]
    simp only [Bool.or_eq_false_iff, Bool.not_eq_false'] at hp2
    obtain ⟨⟨a1, a2⟩, a3⟩ := hp2
    rw [e] at hN
    have eo : openP p q = if q.length == NumText.digitsVal p + 1 && q.getLast? == some 46 && !q.contains 10 then .str (sL q.dropLast) else .non := by
      unfold openP
      rw [a1, a2, a3]; rfl
    rw [eo]
    have hql : (sL q).length ≤ sizeLine := by rw [sL_len]; omega
    by_cases hq : q.length = NumText.digitsVal p + 1
    · obtain ⟨r, z, e3⟩ : ∃ r z, q = r ++ [z] := by
        cases hq2 : q.reverse with
        | nil => simp at hq2; subst hq2; simp at hq
        | cons z r => exact ⟨r.reverse, z, by rw [← List.reverse_reverse q, hq2]; simp⟩
      have b1 : (!((((q.length : Nat) : Int)) == ((NumText.digitsVal p : Nat) : Int) + 1)) = false := by
        rw [hq]; simp
      have x1 : ixM g (.str (sL q)) (-1) = some (.str (sL [z])) := by
        rw [x_str hql, sL_cps, e3, EvM.atI_last]; rfl
      have gl : q.getLast? = some z := by rw [e3]; simp
      have bq : (q.length == NumText.digitsVal p + 1) = true := by simp [hq]
      rw [bq, gl, Bool.true_and]
      have ez : (sL [z] == sL [46]) = (some z == some 46) := by
        rw [sL_beq]; simp
      by_cases hz2 : z = 46
      · have e4 : (sL [z] == sL [46]) = true := by rw [hz2]; simp
        have e5 : (some z == some 46) = true := by rw [hz2]; rfl
        rw [e5, Bool.true_and]
        by_cases h10 : 10 ∈ q
        · have e6 : q.contains 10 = true := by simpa using h10
          rw [e6]
          kit_pair [l_blank, l_empty, l_dot, l_nl, part_one h, hN, fin_pure q0, hb, sL_len, b1, x1, e4, sL_in, decide_eq_true h10]
          rfl
        · have e6 : q.contains 10 = false := by simpa using h10
          rw [e6]
          kit_pair [l_blank, l_empty, l_dot, l_nl, part_one h, hN, fin_pure (q1 _), hb, sL_len, b1, x1, e4, sL_in, decide_eq_false h10, sL_cut, cutD_last]
          rfl
      · have e4 : (sL [z] == sL [46]) = false := by rw [sL_beq]; simp [hz2]
        have e5 : (some z == some 46) = false := by simp [hz2]
        rw [e5]
        kit_pair [l_blank, l_empty, l_dot, part_one h, hN, fin_pure q0, hb, sL_len, b1, x1, e4]
        rfl
    · have b1 : (!((((q.length : Nat) : Int)) == ((NumText.digitsVal p : Nat) : Int) + 1)) = true := by
        have : ¬ ((q.length : Nat) : Int) = ((NumText.digitsVal p : Nat) : Int) + 1 := by omega
        simp [this]
      have bq : (q.length == NumText.digitsVal p + 1) = false := by simp [hq]
      rw [bq]
      kit_pair [l_blank, l_empty, part_one h, hN, fin_pure q0, hb, sL_len, b1]
      rfl
theorem opened_other {d : D} (h : ∀ s, d ≠ .str s) (h2 : ∀ m, d ≠ .ref m) : callM tab L true (n+3) 12 [d] g = .ok .non g := by
  have q0 : noRef D.non = true := rfl
  rw [r12]; unfold b12
  cases d with
  | str s => exact absurd rfl (h s)
  | ref m => exact absurd rfl (h2 m)
  | _ => kit_pair [fin_pure q0]
end
end K57
namespace K57
open PySem L2 M3 M3.EvM
section
variable {L n : Nat} {c : Bool} {g : G}
theorem sindex_ok {l : List Nat} {b : Int} (h : Txt.find (sL l) (sL [32]) = b) (h0 : 0 ≤ b) : opM .sindex [.str (sL l), .str (sL [32])] g = .ok (.int b) g := by
  rw [o_sindex, h, grd_of h0]
theorem lopened_other {d : D} (h : ∀ s, d ≠ .str s) (h2 : ∀ m, d ≠ .ref m) : callM tab L true (n+1) 19 [d] g = .ok .non g := by
  have q0 : noRef D.non = true := rfl
  rw [r19]; unfold b19
  cases d with
  | str s => exact absurd rfl (h s)
  | ref m => exact absurd rfl (h2 m)
  | _ => kit_pair [fin_pure q0]
theorem lopened_none {l : List Nat} (h : 32 ∉ l) (hl : l.length ≤ 600) : callM tab L true (n+1) 19 [.str (sL l)] g = .ok .non g := by
  have q0 : noRef D.non = true := rfl
  rw [r19]; unfold b19
  by_cases h10 : 10 ∈ l
  · kit_pair [l_nl, l_blank, sL_in, decide_eq_true h10, fin_pure q0]
  · kit_pair [l_nl, l_blank, sL_in, decide_eq_false h10, decide_eq_false h, fin_pure q0]
theorem val_great {a : Nat} {r : List Nat} (h : dig (a :: r) = true) (h0 : a ≠ 48) (hr : 6 ≤ r.length) : 1000000 ≤ NumText.digitsVal (a :: r) := by
  have h1 := dig_all h
  have key : ∀ (r : List Nat) (b : Nat), b * 10 ^ r.length ≤ r.foldl (fun acc c => acc * 10 + (c - 48)) b := by
    intro r
    induction r with
    | nil => intro b; simp
    | cons x r ih =>
      intro b
      have := ih (b * 10 + (x - 48))
      rw [List.foldl_cons]
      refine Nat.le_trans ?_ this
      rw [List.length_cons, Nat.pow_succ]
      have e : b * (10 ^ r.length * 10) = (b * 10) * 10 ^ r.length := by
        rw [Nat.mul_comm (10 ^ r.length) 10, ← Nat.mul_assoc]
      rw [e]
      exact Nat.mul_le_mul_right _ (by omega)
  have ha := h1 a (by simp)
  have h2 := key r (0 * 10 + (a - 48))
  have h3 : 10 ^ 6 ≤ 10 ^ r.length := Nat.pow_le_pow_right (by decide) hr
  have h4 : 1 * 10 ^ r.length ≤ (0 * 10 + (a - 48)) * 10 ^ r.length := Nat.mul_le_mul_right _ (by omega)
  show 1000000 ≤ (a :: r).foldl (fun acc c => acc * 10 + (c - 48)) 0
  rw [List.foldl_cons]
  have : (10 : Nat) ^ 6 = 1000000 := by decide
  omega
theorem lopened_some {p q : List Nat} (h : 32 ∉ p) (hl : (p ++ 32 :: q).length ≤ 600) (hs : ∀ x ∈ p, x < 1114112) : callM tab L true (n+1) 19 [.str (sL (p ++ 32 :: q))] g = .ok (openP p q) g := by
  have hz := EvM.sizeLine_eq
  have q0 : noRef D.non = true := rfl
  have q1 : ∀ s, noRef (D.str s) = true := fun _ => rfl
  have hl0 := hl
  simp only [List.length_append, List.length_cons] at hl
  have hfi : Txt.find (sL (p ++ 32 :: q)) (sL [32]) = (p.length : Int) := find_one h
  have hsi := sindex_ok (g := g) hfi (by omega)
  have hin : (32 : Nat) ∈ p ++ 32 :: q := by simp
  have c1 : cutD (p ++ 32 :: q) none (some (p.length : Int)) = p := by rw [cutD_to (by omega)]; simp
  have c2 : cutD (p ++ 32 :: q) (some ((p.length : Int) + 1)) none = q := by
    rw [cutD_from (by omega), show ((p.length : Int) + 1).toNat = p.length + 1 by omega]; simp
  have be : ∀ f : List Nat, (sL f == sL []) = f.isEmpty := by intro f; rw [sL_beq]; cases f <;> rfl
  have hmem : ∀ x, x ∈ p ++ 32 :: q → x ∈ p ∨ x = 32 ∨ x ∈ q := fun x hx => by simpa using hx
  have hmq : 10 ∈ q → 10 ∈ p ++ 32 :: q := fun hx => by simp [hx]
  clear hfi
  generalize p ++ 32 :: q = s at *
  generalize (p.length : Int) = k at hsi c1 c2
  have hl2 : (sL s).length ≤ sizeLine := by rw [sL_len]; omega
  rw [r19]; unfold b19
  by_cases h10 : 10 ∈ s
  · have eo : openP p q = .non := by
      unfold openP
      rw [if_neg]
      intro hh
      simp only [Bool.and_eq_true, Bool.not_eq_true'] at hh
      obtain ⟨⟨⟨⟨⟨a1, a2⟩, a3⟩, _⟩, _⟩, a6⟩ := hh
      rcases hmem 10 h10 with h1 | h1 | h2
      · have := dig_all a2 10 h1; omega
      · cases h1
      · have : q.contains 10 = true := by simpa using h2
        rw [this] at a6; cases a6
    rw [eo]
    kit_pair [l_nl, l_blank, sL_in, decide_eq_true h10, fin_pure q0]
  · have hq10 : q.contains 10 = false := by
      have : 10 ∉ q := fun hh => h10 (hmq hh)
      simpa using this
    cases p with
    | nil =>
      have eo : openP [] q = .non := by simp [openP]
      rw [eo]
      kit_pair [l_nl, l_blank, l_empty, sL_in, decide_eq_false h10, decide_eq_true hin, hsi, sL_cut, c1, c2, be, fin_pure q0]
    | cons a r =>
      have hr6 : r.length ≤ 600 := by simp at hl; omega
      have x0 : ixM g (.str (sL (a :: r))) 0 = some (.str (sL [a])) := by
        rw [x_str (by rw [sL_len]; simp; omega), sL_cps, atI_0]; rfl
      -- the signs that are no figures
      have fig : ∀ x0 x1 x2 x3 : Option D, compM (cturn (cf tab L true n) [.op .notin [.v 3, .k (.str "0123456789")]] (.v 3)) (.nm 3) [x0, x1, x2, x3] [] ((a :: r).map fun c => D.str ⟨#[c]⟩) [] g = .ok (((a :: r).filter fun x => !decide (x ∈ [48,49,50,51,52,53,54,55,56,57])).map fun x => D.str (sL [x])) g := by
        intro x0 x1 x2 x3
        have key : ∀ (ys : List Nat) (acc : List D), acc.length + ys.length ≤ 1000 → compM (cturn (cf tab L true n) [.op .notin [.v 3, .k (.str "0123456789")]] (.v 3)) (.nm 3) [x0, x1, x2, x3] [] (ys.map fun c => D.str ⟨#[c]⟩) acc g = .ok (acc ++ (ys.filter fun x => !decide (x ∈ [48,49,50,51,52,53,54,55,56,57])).map fun x => D.str (sL [x])) g := by
          intro ys
          induction ys with
          | nil => intro acc _; simp [compM, stands_nil]
          | cons y ys ih =>
            intro acc hl
            simp only [List.length_cons] at hl
            rw [List.map_cons]
            unfold compM
            rw [if_pos stands_nil]
            have e1 : cturn (cf tab L true n) [.op .notin [.v 3, .k (.str "0123456789")]] (.v 3) [x0, x1, x2, some (.str (sL [y]))] g = (if decide (y ∈ [48,49,50,51,52,53,54,55,56,57]) then R.ok none g else R.ok (some (.str (sL [y]))) g) := by
              rw [cturn_eq]
              cases hy : decide (y ∈ [48,49,50,51,52,53,54,55,56,57]) with
              | true => kit_pair [l_digits, sL_in, hy, if_true]
              | false =>
                kit_pair [l_digits, sL_in, hy]
                rfl
            show (match cturn (cf tab L true n) [.op .notin [.v 3, .k (.str "0123456789")]] (.v 3) [x0, x1, x2, some (.str (sL [y]))] g with
              | .ok (some y) g1 => if acc.length < sizeLine then compM _ (.nm 3) [x0, x1, x2, x3] [] _ (acc ++ [y]) g1 else .bad
              | .ok none g1 => compM _ (.nm 3) [x0, x1, x2, x3] [] _ acc g1
              | _ => .bad) = _
            rw [e1]
            cases hy : decide (y ∈ [48,49,50,51,52,53,54,55,56,57]) with
            | true =>
              simp only [if_true]
              rw [ih acc (by omega)]
              rw [List.filter_cons_of_neg (by rw [hy]; decide)]
            | false =>
              simp only [Bool.false_eq_true, if_false]
              rw [if_pos (by omega), ih (acc ++ [D.str (sL [y])]) (by simp; omega), List.filter_cons_of_pos (by rw [hy]; rfl)]
              simp
        have := key (a :: r) [] (by simp at hl ⊢; omega)
        simpa using this
      cases hd : dig (a :: r) with
      | false =>
        have eo : openP (a :: r) q = .non := by simp [openP, hd]
        have hne : ((a :: r).filter fun x => !decide (x ∈ [48,49,50,51,52,53,54,55,56,57])) ≠ [] := by
          intro he
          rw [List.filter_eq_nil_iff] at he
          have : dig (a :: r) = true := by
            unfold dig
            rw [List.all_eq_true]
            intro x hx
            have := he x hx
            cases hy : decide (x ∈ [48,49,50,51,52,53,54,55,56,57]) with
            | true => rfl
            | false => rw [hy] at this; exact absurd rfl this
          rw [this] at hd; cases hd
        have eq : eqM g (.lst (((a :: r).filter fun x => !decide (x ∈ [48,49,50,51,52,53,54,55,56,57])).map fun x => D.str (sL [x]))) (.lst []) = some false := by
          have := eq_strs (g := g) (((a :: r).filter fun x => !decide (x ∈ [48,49,50,51,52,53,54,55,56,57])).map fun x => [x]) (by simpa using hne) (by
            intro y hy z hz
            obtain ⟨x, hx, e⟩ := List.mem_map.mp hy
            subst e
            simp at hz; subst hz
            exact hs z (List.mem_filter.mp hx).1)
          rw [List.map_map] at this
          exact this
        rw [eo]
        kit_pair [l_nl, l_blank, l_empty, sL_in, decide_eq_false h10, decide_eq_true hin, hsi, sL_cut, c1, c2, be, sL_cps, fig, eq, fin_pure q0]
      | true =>
        have he : ((a :: r).filter fun x => !decide (x ∈ [48,49,50,51,52,53,54,55,56,57])) = [] := by
          rw [List.filter_eq_nil_iff]
          intro x hx
          unfold dig at hd
          rw [List.all_eq_true] at hd
          rw [hd x hx]; decide
        have hi : PySem.intText? (sL (a :: r)) = some ((NumText.digitsVal (a :: r) : Nat) : Int) := int_sL (dig_all hd) (by simp) (by simp at hl ⊢; omega)
        have hl1 : (sL (a :: r)).length ≤ 640 := by rw [sL_len]; simp at hl ⊢; omega
        have hq1 : (sL q).length ≤ sizeLine := by rw [sL_len]; simp at hl; omega
        -- behind the look at the head
        have tailOk : a ≠ 48 ∨ r = [] → ∀ ρ : M3.Env, ρ = [some (.str (sL s)), some (.str (sL (a :: r))), some (.str (sL q)), none] →
          out true g (evSs (cf tab L true n) [.ite (.or (.op .gt [.op .len [.v 1], .k (.int 6)]) (.or (.op .ne [.op .len [.v 2], .op (.add false) [.op .int [.v 1], .k (.int 1)]]) (.op .ne [.sl false (.v 2) (some (.op .neg [.k (.int 1)])) none, .k (.str ".")]))) [.ret (.k .non)] [], .ret (.sl false (.v 2) none (some (.op .neg [.k (.int 1)])))] ρ g) = .ok (openP (a :: r) q) g := by
          intro ha ρ hρ
          subst hρ
          have a3 : ((a :: r).head? == some 48 && (a :: r) != [48]) = false := by
            rcases ha with ha | ha
            · simp [ha]
            · subst ha
              by_cases h48 : a = 48
              · subst h48; rfl
              · simp [h48]
          have eo : openP (a :: r) q = if q.length == NumText.digitsVal (a :: r) + 1 && q.getLast? == some 46 then .str (sL q.dropLast) else .non := by
            unfold openP
            rw [hd, a3, hq10]; simp
          rw [eo]
          by_cases h6 : 6 < (a :: r).length
          · have hv : 1000000 ≤ NumText.digitsVal (a :: r) := by
              rcases ha with ha | ha
              · exact val_great hd ha (by simp at h6; omega)
              · subst ha; simp at h6
            have e1 : (q.length == NumText.digitsVal (a :: r) + 1) = false := by
              have : ¬ q.length = NumText.digitsVal (a :: r) + 1 := by omega
              simp [this]
            have e6 : (6 : Int) < ((r.length + 1 : Nat) : Int) := by simp at h6; omega
            rw [e1]
            kit_pair [sL_len, decide_eq_true e6, fin_pure q0]
            rfl
          · have e6 : ¬ (6 : Int) < ((r.length + 1 : Nat) : Int) := by simp at h6; omega
            by_cases hq : q.length = NumText.digitsVal (a :: r) + 1
            · obtain ⟨s', z, e3⟩ : ∃ r z, q = r ++ [z] := by
                cases hq2 : q.reverse with
                | nil => simp at hq2; subst hq2; simp at hq
                | cons z r => exact ⟨r.reverse, z, by rw [← List.reverse_reverse q, hq2]; simp⟩
              have b1 : (!((((q.length : Nat) : Int)) == ((NumText.digitsVal (a :: r) : Nat) : Int) + 1)) = false := by
                rw [hq]; simp
              have gl : q.getLast? = some z := by rw [e3]; simp
              have bq : (q.length == NumText.digitsVal (a :: r) + 1) = true := by simp [hq]
              have ct : cutD q (some (-1)) none = [z] := by rw [cutD_tail, e3]; simp
              rw [bq, gl, Bool.true_and]
              by_cases hz2 : z = 46
              · have e4 : (sL [z] == sL [46]) = true := by rw [hz2]; simp
                have e5 : (some z == some 46) = true := by rw [hz2]; rfl
                rw [e5]
                kit_pair [sL_len, decide_eq_false e6, o_int_str hi hl1, b1, sL_cut, ct, l_dot, e4, cutD_last, fin_pure (q1 _)]
                rfl
              · have e4 : (sL [z] == sL [46]) = false := by rw [sL_beq]; simp [hz2]
                have e5 : (some z == some 46) = false := by simp [hz2]
                rw [e5]
                kit_pair [sL_len, decide_eq_false e6, o_int_str hi hl1, b1, sL_cut, ct, l_dot, e4, fin_pure q0]
                rfl
            · have b1 : (!((((q.length : Nat) : Int)) == ((NumText.digitsVal (a :: r) : Nat) : Int) + 1)) = true := by
                have : ¬ ((q.length : Nat) : Int) = ((NumText.digitsVal (a :: r) : Nat) : Int) + 1 := by omega
                simp [this]
              have bq : (q.length == NumText.digitsVal (a :: r) + 1) = false := by simp [hq]
              rw [bq]
              kit_pair [sL_len, decide_eq_false e6, o_int_str hi hl1, b1, fin_pure q0]
              rfl
        by_cases ha : a = 48
        · have b1 : (sL [a] == sL [48]) = true := by rw [ha, sL_beq]; rfl
          by_cases hr : r = []
          · have t4 : (!(sL (a :: r) == sL [48])) = false := by rw [ha, hr, sL_beq]; rfl
            rw [← tailOk (.inr hr) _ rfl]
            kit_pair [l_nl, l_blank, l_empty, l_zero, sL_in, decide_eq_false h10, decide_eq_true hin, hsi, sL_cut, c1, c2, be, sL_cps, fig, he, List.map_nil, b1, t4, x0]
          · have t4 : (!(sL (a :: r) == sL [48])) = true := by rw [ha, sL_beq]; simp [hr]
            have eo : openP (a :: r) q = .non := by
              unfold openP
              have : ((a :: r).head? == some 48 && (a :: r) != [48]) = true := by rw [ha]; simp [hr]
              rw [this]; simp
            rw [eo]
            kit_pair [l_nl, l_blank, l_empty, l_zero, sL_in, decide_eq_false h10, decide_eq_true hin, hsi, sL_cut, c1, c2, be, sL_cps, fig, he, List.map_nil, b1, t4, x0, fin_pure q0]
        · have b1 : (sL [a] == sL [48]) = false := by rw [sL_beq]; simp [ha]
          rw [← tailOk (.inl ha) _ rfl]
          kit_pair [l_nl, l_blank, l_empty, l_zero, sL_in, decide_eq_false h10, decide_eq_true hin, hsi, sL_cut, c1, c2, be, sL_cps, fig, he, List.map_nil, b1, x0]
end
end K57
namespace K57
open PySem L2 M3 M3.EvM
/-! values that are shown and refused -/
/-- small flat data -/
def fl (d : D) : Prop := match d with
  | .non | .bl _ => True
  | .int i => -1000000 < i ∧ i < 1000000
  | .str s => ∃ l : List Nat, s = sL l ∧ l.length ≤ 700 ∧ ∀ c ∈ l, c < 1114112
  | _ => False
theorem fl_py {d : D} (h : fl d) : ∃ x : PyData, (∀ (g : G) k, py g (k + 1) d = some x) ∧ x.canLay0 = true ∧ x.depth = 0 ∧ x.weight ≤ 700 ∧ x.intsShort 13 = true ∧ x.showable = true ∧ x.hasDict = false ∧ hasL x = false := by
  cases d with
  | non => exact ⟨.none, fun _ _ => rfl, rfl, rfl, Nat.zero_le _, rfl, rfl, rfl, rfl⟩
  | bl b => exact ⟨.bool b, fun _ _ => rfl, rfl, rfl, Nat.zero_le _, rfl, rfl, rfl, rfl⟩
  | int i =>
    have hi : i.natAbs.log2 < 64 := by
      by_cases h0 : i.natAbs = 0
      · rw [h0]; decide
      · exact (Nat.log2_lt h0).mpr (by have := h.1; have := h.2; omega)
    refine ⟨.int i, fun _ _ => rfl, rfl, rfl, ?_, ?_, ?_, rfl, rfl⟩
    · show (if i == 0 then 0 else i.natAbs.log2 + 1) ≤ 700
      split <;> omega
    · show decide ((PyData.shown (.int i)).length ≤ 13) = true
      rw [decide_eq_true_eq]
      have h1 : -1000000 < i := h.1
      have h2 : i < 1000000 := h.2
      show (Str.ofString (toString i)).length ≤ 13
      by_cases hn : 0 ≤ i
      · have := PyProof.Rows.toString_length_le (v := i) hn (k := 6) (by decide) (by omega)
        omega
      · have e : (Str.ofString (toString i)).length = 1 + (Str.ofString (toString (0 - i))).length := by
          rw [PyProof.Rows.ofString_length, PyProof.Rows.ofString_length, PyProof.Rows.toString_neg (by omega), String.toList_append, List.length_append]
          rfl
        have := PyProof.Rows.toString_length_le (v := 0 - i) (by omega) (k := 6) (by decide) (by omega)
        omega
    · show decide (i.natAbs.log2 < 1920) = true
      rw [decide_eq_true_eq]; omega
  | str s =>
    obtain ⟨l, e, hl, hc⟩ := h
    subst e
    refine ⟨.str (sL l), fun _ _ => rfl, ?_, rfl, ?_, rfl, rfl, rfl, rfl⟩
    · show PyData.strOk (sL l) = true
      unfold PyData.strOk
      rw [Array.all_eq_true_iff_forall_mem]
      intro c hc2
      have := hc c (by simpa [sL] using hc2)
      simpa using this
    · show (sL l).cps.size ≤ 700
      simp [sL]; exact hl
  | _ => exact h.elim
/-- a repr of data of flat parts -/
theorem rep_ok {g : G} {d : D} {x : PyData} (h : py g PYDEEP d = some x) (h1 : x.canLay0 = true) (h2 : x.depth ≤ 2) (h3 : x.weight ≤ 1000000) (h4 : x.intsShort 13 = true) (h5 : x.showable = true) (h6 : x.hasDict = false) :
    opM .repr [d] g = .ok (.str x.shown) g := by
  refine o_repr h ?_
  have hl := PyProof.Rows.shown_le13 (d := x) (by
    show (x.canLay0 && decide (x.depth ≤ 64) && decide (x.weight ≤ 2 ^ 20)) = true
    rw [h1, decide_eq_true (by omega), decide_eq_true (by omega)]; rfl) h4
  rw [h5, decide_eq_true (by rw [EvM.sizeLine_eq]; omega), decide_eq_true (by omega), h6]; rfl
theorem fls_py : ∀ (xs : List D), (∀ d ∈ xs, fl d) → ∃ ds : List PyData, (∀ (g : G) k, xs.mapM (py g (k + 1)) = some ds) ∧ PyData.canLayAll0 ds = true ∧ PyData.depthAll ds = 0 ∧ PyData.weightAll ds ≤ 701 * xs.length ∧ PyData.intsShortAll 13 ds = true ∧ PyData.showableAll ds = true ∧ PyData.hasDictAll ds = false
  | [], _ => ⟨[], fun _ _ => rfl, rfl, rfl, Nat.zero_le _, rfl, rfl, rfl⟩
  | d :: xs, h => by
    obtain ⟨x, a1, a2, a3, a4, a5, a6, a7, _⟩ := fl_py (h d (by simp))
    obtain ⟨ds, b1, b2, b3, b4, b5, b6, b7⟩ := fls_py xs fun z hz => h z (by simp [hz])
    refine ⟨x :: ds, fun g k => by rw [List.mapM_cons, a1, b1]; rfl, ?_, ?_, ?_, ?_, ?_, ?_⟩
    · show (x.canLay0 && PyData.canLayAll0 ds) = true
      rw [a2, b2]; rfl
    · show max x.depth (PyData.depthAll ds) = 0
      rw [a3, b3]; rfl
    · show x.weight + 1 + PyData.weightAll ds ≤ _
      rw [List.length_cons]; omega
    · show (x.intsShort 13 && PyData.intsShortAll 13 ds) = true
      rw [a5, b5]; rfl
    · show (x.showable && PyData.showableAll ds) = true
      rw [a6, b6]; rfl
    · show (x.hasDict || PyData.hasDictAll ds) = false
      rw [a7, b7]; rfl
theorem rep_fl {g : G} {d : D} (h : fl d) : ∃ s, opM .repr [d] g = .ok (.str s) g := by
  obtain ⟨x, a1, a2, a3, a4, a5, a6, a7, _⟩ := fl_py h
  exact ⟨_, rep_ok (a1 g 39) a2 (by omega) (by omega) a5 a6 a7⟩
theorem rep_tup {g : G} {xs : List D} (h : ∀ d ∈ xs, fl d) (hl : xs.length ≤ 100) : ∃ s, opM .repr [.tup xs] g = .ok (.str s) g := by
  obtain ⟨ds, b1, b2, b3, b4, b5, b6, b7⟩ := fls_py xs h
  refine ⟨_, rep_ok (x := .tuple ds) (by show (xs.mapM (py g 39)).map PyData.tuple = _; rw [b1]; rfl) b2 ?_ ?_ b5 b6 b7⟩
  · show PyData.depthAll ds + 1 ≤ 2
    omega
  · show PyData.weightAll ds ≤ 1000000
    omega
theorem rep_ref {g : G} {n : Nat} {xs : List D} (hn : g[n]? = some (.lst xs)) (h : ∀ d ∈ xs, fl d) (hl : xs.length ≤ 1000) : ∃ s, opM .repr [.ref n] g = .ok (.str s) g := by
  obtain ⟨ds, b1, b2, b3, b4, b5, b6, b7⟩ := fls_py xs h
  refine ⟨_, rep_ok (x := .list ds) (by
    have e : py g PYDEEP (.ref n) = (xs.mapM (py g 39)).map PyData.list := by
      show (match g[n]? with | some (.lst xs) => (xs.mapM (py g 39)).map PyData.list | some (.dct ks ds) => _ | _ => none) = _
      rw [hn]
    rw [e, b1]; rfl) b2 ?_ ?_ b5 b6 b7⟩
  · show PyData.depthAll ds + 1 ≤ 2
    omega
  · show PyData.weightAll ds ≤ 1000000
    omega
theorem rep_dct {g : G} : opM .repr [.dct [] []] g = .ok (.str (PyData.shown (.dict []))) g := o_repr rfl (by decide +kernel)
/-- what is refused in the law: flat, a tuple, an empty dict, a list of its own -/
inductive Rv (g : G) : D → Prop
  | fl {d} : fl d → Rv g d
  | tup {xs} : (∀ d ∈ xs, fl d) → xs.length ≤ 50 → Rv g (.tup xs)
  | dct : Rv g (.dct [] [])
  | ref {n xs} : g[n]? = some (.lst xs) → (∀ d ∈ xs, K57.fl d) → xs.length ≤ 900 → Rv g (.ref n)
section
variable {L n : Nat} {c : Bool} {g : G}
theorem more_fl : fl (.str "more") := ⟨[109, 111, 114, 101], by decide +kernel, by decide, by decide⟩
theorem grown_fl {d : D} (h : fl d) : ∃ s, callM tab L c (n+1) 17 [d] g = .ok (.str s) g ∧ opM .repr [d] g = .ok (.str s) g := by
  obtain ⟨s, e⟩ := rep_fl (g := g) h
  refine ⟨s, ?_, e⟩
  rw [r17]; unfold b17
  cases d with
  | non => kit_pair [e]
  | bl b => kit_pair [e]
  | int i => kit_pair [e]
  | str s => kit_pair [e]
  | _ => exact h.elim
theorem grown_ok {d : D} (h : Rv g d) : ∃ s g', callM tab L c (n+2) 17 [d] g = .ok (.str s) g' ∧ opM .repr [d] g' = .ok (.str s) g' ∧
    (g' = g ∨ ∃ m xs, d = .ref m ∧ g[m]? = some (.lst xs) ∧ g' = g.set m (.lst (xs ++ [.str "more"]))) := by
  cases h with
  | fl h =>
    obtain ⟨s, e1, e2⟩ := grown_fl (L := L) (n := n + 1) (c := c) (g := g) h
    exact ⟨s, g, e1, e2, .inl rfl⟩
  | dct =>
    refine ⟨_, g, ?_, rep_dct, .inl rfl⟩
    rw [r17]; unfold b17
    kit_pair [rep_dct]
  | @ref m xs hm hf hl =>
    have hm2 : (g.set m (.lst (xs ++ [D.str "more"])))[m]? = some (.lst (xs ++ [D.str "more"])) := get_set_eq hm
    obtain ⟨s, e⟩ := rep_ref hm2 (by
      intro d hd
      rcases List.mem_append.mp hd with hd | hd
      · exact hf d hd
      · simp at hd; subst hd; exact more_fl) (by simp; omega)
    refine ⟨s, _, ?_, e, .inr ⟨m, xs, rfl, hm, rfl⟩⟩
    have hz := EvM.sizeLine_eq
    rw [r17]; unfold b17
    kit_pair [is_list_rl hm, r_append hm, o_append hm, is_tuple_rl hm2, e]
  | @tup xs hf hl =>
    obtain ⟨s, e⟩ := rep_tup (g := g) hf (by omega)
    refine ⟨s, g, ?_, e, .inl rfl⟩
    have hfor : ∀ (ys : List D) (ρ1 : Option D), (∀ y ∈ ys, fl y) → ∃ v, M3.forM (evSs (cf tab L c (n + 1)) [.ex (.call 17 [.v 1] [] [.inl 0])]) (.nm 1) [] ys [some (.tup xs), ρ1] g = .nx [some (.tup xs), v] g := by
      intro ys
      induction ys with
      | nil => intro v _; exact ⟨v, by simp [M3.forM, stands_nil]⟩
      | cons y ys ih =>
        intro v hy
        obtain ⟨s2, e1, _⟩ := grown_fl (L := L) (n := n) (c := c) (g := g) (hy y (by simp))
        obtain ⟨v2, e2⟩ := ih (some y) fun z hz => hy z (by simp [hz])
        refine ⟨v2, ?_⟩
        unfold M3.forM
        rw [if_pos stands_nil]
        show (S.turn (evSs (cf tab L c (n + 1)) [.ex (.call 17 [.v 1] [] [.inl 0])] [some (.tup xs), some y] g) fun ρ1 g1 => M3.forM (evSs (cf tab L c (n + 1)) [.ex (.call 17 [.v 1] [] [.inl 0])]) (.nm 1) [] ys ρ1 g1) = _
        have e3 : evSs (cf tab L c (n + 1)) [.ex (.call 17 [.v 1] [] [.inl 0])] [some (.tup xs), some y] g = .nx [some (.tup xs), some y] g := by
          kit_pair [e1]
        rw [e3]
        exact e2
    obtain ⟨v, ef⟩ := hfor xs none hf
    have hot : c = true ∨ hotSrc [D.tup xs] = true := .inr rfl
    rw [r17]; unfold b17
    kit_pair [ef, e]
end
end K57
namespace K57
open PySem L2 M3 M3.EvM
theorem num_facts : ∀ k < 61, dig (TL.numL k) = true ∧ ((TL.numL k).head? == some 48 && TL.numL k != [48]) = false ∧ (TL.numL k).isEmpty = false ∧ 32 ∉ TL.numL k ∧ (∀ c ∈ TL.numL k, c < 128) := by decide +kernel
theorem openP_seal {l : List Nat} (h : Ln l) : openP (TL.numL l.length) (l ++ [46]) = .str (sL l) := by
  obtain ⟨a1, a2, a3, a4, _⟩ := num_facts l.length (by have := h.1; omega)
  have h10 : (l ++ [46]).contains 10 = false := by
    have := h.no
    simp [this]
  unfold openP
  rw [a1, a2, a3, TL.numL_val, h10]; simp
theorem openP_short {p q : List Nat} (h : q.length ≠ NumText.digitsVal p + 1) : openP p q = .non := by
  unfold openP
  rw [if_neg]
  intro hh
  simp only [Bool.and_eq_true, beq_iff_eq] at hh
  exact h hh.1.1.2
/-- short texts of plain signs -/
def TS (k : Nat) (d : D) : Prop := ∃ l, d = .str (sL l) ∧ l.length ≤ k ∧ ∀ c ∈ l, c < 128
theorem TS.mono {k m : Nat} {d : D} (h : k ≤ m) : TS k d → TS m d := fun ⟨l, e, hl, hc⟩ => ⟨l, e, by omega, hc⟩
section
variable {L n : Nat} {c : Cfg} {ρ : M3.Env} {g : G}
def EvT (c : Cfg) (e : ME) (ρ : M3.Env) (g : G) (k : Nat) : Prop := ∃ d, evE c e ρ g = .ok d g ∧ TS k d
def EvI (c : Cfg) (e : ME) (ρ : M3.Env) (g : G) : Prop := ∃ i, evE c e ρ g = .ok (.int i) g
def EvTs (c : Cfg) (es : List ME) (ρ : M3.Env) (g : G) (P : D → Prop) (m : Nat) : Prop := ∃ ds, evEs c es ρ g = .ok ds g ∧ (∀ d ∈ ds, P d) ∧ ds.length = m
theorem EvT.mono {e k m} (h : EvT c e ρ g k) (hk : k ≤ m) : EvT c e ρ g m := let ⟨d, e1, t⟩ := h; ⟨d, e1, t.mono hk⟩
theorem EvT.v {i k d} (h : ρ[i]? = some (some d)) (t : TS k d) : EvT c (.v i) ρ g k := ⟨d, by rw [e_v, h]; rfl, t⟩
theorem EvT.k {d k} (t : TS k d) : EvT c (.k d) ρ g k := ⟨d, e_k, t⟩
theorem EvT.add {a b k m} (ha : EvT c a ρ g k) (hb : EvT c b ρ g m) (h : k + m ≤ 600) : EvT c (.op (.add false) [a, b]) ρ g (k + m) := by
  obtain ⟨x, e1, l1, rfl, h1, c1⟩ := ha
  obtain ⟨y, e2, l2, rfl, h2, c2⟩ := hb
  have hz := EvM.sizeLine_eq
  refine ⟨.str (sL (l1 ++ l2)), ?_, l1 ++ l2, rfl, by simp; omega, ?_⟩
  · kit_pair [e1, e2, sL_len, sL_app]
  · intro z hz
    rcases List.mem_append.mp hz with hz | hz
    · exact c1 z hz
    · exact c2 z hz
theorem cut_len {α : Type} {l : List α} {lo hi : Option Int} : (cutD l lo hi).length ≤ l.length := by
  unfold cutD; simp; omega
theorem cut_mem {α : Type} {l : List α} {lo hi : Option Int} {x : α} (h : x ∈ cutD l lo hi) : x ∈ l := by
  unfold cutD at h; exact List.mem_of_mem_drop (List.mem_of_mem_take h)
theorem TS.cut {k lo hi l} (h : TS k (.str (sL l))) : TS k (.str (sL (cutD l lo hi))) := by
  obtain ⟨l2, e, h1, h2⟩ := h
  have : l = l2 := sL_inj (by injection e)
  subst this
  exact ⟨_, rfl, Nat.le_trans cut_len h1, fun c hc => h2 c (cut_mem hc)⟩
theorem EvT.to {a e k} (ha : EvT c a ρ g k) (h : k ≤ 600) (he : EvI c e ρ g) : EvT c (.sl false a none (some e)) ρ g k := by
  obtain ⟨x, e1, l1, rfl, h1, c1⟩ := ha
  obtain ⟨i, e2⟩ := he
  have hz := EvM.sizeLine_eq
  refine ⟨.str (sL (cutD l1 none (some i))), ?_, TS.cut ⟨l1, rfl, h1, c1⟩⟩
  kit_pair [e1, e2, sL_len, sL_cut]
theorem EvT.from {a e k} (ha : EvT c a ρ g k) (h : k ≤ 600) (he : EvI c e ρ g) : EvT c (.sl false a (some e) none) ρ g k := by
  obtain ⟨x, e1, l1, rfl, h1, c1⟩ := ha
  obtain ⟨i, e2⟩ := he
  have hz := EvM.sizeLine_eq
  refine ⟨.str (sL (cutD l1 (some i) none)), ?_, TS.cut ⟨l1, rfl, h1, c1⟩⟩
  kit_pair [e1, e2, sL_len, sL_cut]
theorem EvI.v {i j} (h : ρ[i]? = some (some (.int j))) : EvI c (.v i) ρ g := ⟨j, by rw [e_v, h]; rfl⟩
theorem EvI.k {j} : EvI c (.k (.int j)) ρ g := ⟨j, e_k⟩
theorem EvI.add {a b} (ha : EvI c a ρ g) (hb : EvI c b ρ g) : EvI c (.op (.add false) [a, b]) ρ g := by
  obtain ⟨i, e1⟩ := ha
  obtain ⟨j, e2⟩ := hb
  exact ⟨i + j, by kit_pair [e1, e2]⟩
theorem EvT.upper {a k} (ha : EvT c a ρ g k) (h : k ≤ 600) : EvT c (.bm .upper a []) ρ g k := by
  obtain ⟨x, e1, l1, rfl, h1, c1⟩ := ha
  have hz := EvM.sizeLine_eq
  have e2 : Txt.upper (sL l1) = sL (l1.map PyProof.Rows.up1) := SX.upper_S (List.all_eq_true.mpr fun c hc => decide_eq_true (c1 c hc))
  refine ⟨.str (sL (l1.map PyProof.Rows.up1)), ?_, _, rfl, by simpa using h1, ?_⟩
  · kit_pair [e1, sL_len, e2]
  · intro z hz
    obtain ⟨y, hy, e⟩ := List.mem_map.mp hz
    have := c1 y hy
    subst e
    unfold PyProof.Rows.up1
    split <;> omega
theorem EvT.num {a : ME} {m : Nat} (h : evE c a ρ g = .ok (.int (m : Nat)) g) (hm : m < 61) : EvT c (.op .str [a]) ρ g 3 := by
  refine ⟨.str (sL (TL.numL m)), ?_, _, rfl, numL_short m (by omega), (num_facts m hm).2.2.2.2⟩
  kit_pair [h, o_str', num_sL]
theorem EvTs.nil {P} : EvTs c [] ρ g P 0 := ⟨[], es_nil, by simp, rfl⟩
theorem EvTs.cons {e es k m} {P : D → Prop} (h : EvT c e ρ g k) (hP : ∀ d, TS k d → P d) (hs : EvTs c es ρ g P m) : EvTs c (e :: es) ρ g P (m + 1) := by
  obtain ⟨d, e1, t⟩ := h
  obtain ⟨ds, e2, h2, h3⟩ := hs
  refine ⟨d :: ds, by kit_pair [e1, e2], ?_, by simp [h3]⟩
  intro x hx
  rcases List.mem_cons.mp hx with rfl | hx
  · exact hP x t
  · exact h2 x hx
theorem EvTs.val {e es m d} {P : D → Prop} (h : evE c e ρ g = .ok d g) (hP : P d) (hs : EvTs c es ρ g P m) : EvTs c (e :: es) ρ g P (m + 1) := by
  obtain ⟨ds, e2, h2, h3⟩ := hs
  refine ⟨d :: ds, by kit_pair [h, e2], ?_, by simp [h3]⟩
  intro x hx
  rcases List.mem_cons.mp hx with rfl | hx
  · exact hP
  · exact h2 x hx
/-- what is opened alike by the law and the program -/
def OpT (d : D) : Prop := TS 600 d ∨ ((∀ s, d ≠ .str s) ∧ (∀ m, d ≠ .ref m))
theorem open_same {d : D} (h : OpT d) : ∃ x, callM tab L true (n+3) 12 [d] g = .ok x g ∧ callM tab L true (n+3) 19 [d] g = .ok x g ∧ flatD x = true ∧ ∀ s, x = .str s → s.length ≤ sizeLine := by
  have hz := EvM.sizeLine_eq
  rcases h with ⟨l, rfl, hl, hc⟩ | ⟨h1, h2⟩
  · by_cases hb : 32 ∈ l
    · obtain ⟨p, q, rfl, hp⟩ := split_at hb
      refine ⟨openP p q, opened_some hp hl, lopened_some hp hl (fun x hx => by have := hc x (by simp [hx]); omega), ?_, ?_⟩
      · unfold openP; split <;> rfl
      · intro s hs
        unfold openP at hs
        split at hs
        · injection hs with hs
          rw [← hs, sL_len]
          simp at hl ⊢; omega
        · cases hs
    · exact ⟨.non, opened_none hb hl, lopened_none hb hl, rfl, fun s hs => by cases hs⟩
  · exact ⟨.non, opened_other h1 h2, lopened_other h1 h2, rfl, fun s hs => by cases hs⟩
theorem same16 {a b : D} {k : Nat} (h : Sm g k a b) : callM tab L true (n + k) 16 [a, b] g = .ok (.bl true) g := same_ok (f := 16) rfl k a b h
theorem sm_flat {d : D} (h : flatD d = true) (h2 : ∀ s, d = .str s → s.length ≤ sizeLine) : Sm g 1 d d := .inl ⟨rfl, h, h2⟩
end
end K57
namespace K57
open PySem L2 M3 M3.EvM
theorem evSs_append {c : Cfg} {b : List MS} : ∀ {a : List MS} {ρ : M3.Env} {g : G}, evSs c (a ++ b) ρ g = (evSs c a ρ g).nxt (ssK c b)
  | [], ρ, g => by rw [List.nil_append, EvM.ss_nil]; rfl
  | s :: a, ρ, g => by
    rw [List.cons_append, EvM.ss_cons, EvM.ss_cons]
    cases evS c s ρ g <;> try rfl
    exact evSs_append
section
variable {L n : Nat} {g : G}
/-- the line is drawn, sealed, opened; no beginning opens -/
theorem seals_A {p : Nat} {k : Int} {cell : Cell} (hp : g[p]? = some cell) (hb : BoxC k cell) (hk : k ≤ 1000000000) (hA : AllC g) :
    ∃ l cell', evSs (cf tab L true (n + 3)) (b20.take 4) [some (.ref p), none, none, none, none, none, none, none, none, none, none] g = .nx [some (.ref p), some (.str (sL l)), some (.str (sL (sealL l))), none, none, none, none, none, none, none, none] (g.set p cell') ∧ Ln l ∧ BoxC (k + 100) cell' := by
  have hz := EvM.sizeLine_eq
  obtain ⟨l, c1, t1, hl, b1⟩ := line_ok (L := L) (n := n + 1) hp hb hk hA
  have t1' : callM tab L true (n + 3) 18 [.ref p] g = .ok (.str (sL l)) (g.set p c1) := t1
  refine ⟨l, c1, ?_, hl, b1⟩
  have hl60 := hl.1
  have hlen := sealL_len (l := l) (by omega)
  have t2 : ∀ g, callM tab L true (n + 3) 11 [.str (sL l)] g = .ok (.str (sL (sealL l))) g := fun g => sealed_ok (n := n + 1) hl.no (by omega)
  have t3 : ∀ g, callM tab L true (n + 3) 12 [.str (sL (sealL l))] g = .ok (.str (sL l)) g := fun g => by
    have := opened_some (L := L) (n := n) (g := g) (p := TL.numL l.length) (q := l ++ [46]) (num_facts l.length (by omega)).2.2.2.1 (by unfold sealL at hlen; omega)
    rw [openP_seal hl] at this
    exact this
  have t4 : ∀ (g : G) (x : List Nat), x.length ≤ 1000 → callM tab L true (n + 3) 16 [.str (sL x), .str (sL x)] g = .ok (.bl true) g := fun g x hx =>
    same16 (n := n + 2) (k := 1) (sm_flat rfl fun s hs => by injection hs with hs; rw [← hs, sL_len]; omega)
  have t4a := fun g => t4 g (sealL l) (by omega)
  have t4b := fun g => t4 g l (by omega)
  have h3 := numL_short l.length (by omega)
  have e2 : ((TL.numL l.length ++ [32]) ++ l) ++ [46] = sealL l := by simp [sealL]
  -- no beginning opens
  have t5 : ∀ (g : G) (j : Nat), j < (sealL l).length → callM tab L true (n + 3) 12 [.str (sL ((sealL l).take j))] g = .ok .non g := by
    intro g j hj
    by_cases hb32 : 32 ∈ (sealL l).take j
    · have hjn : TL.numL l.length ++ 32 :: ((l ++ [46]).take (j - (TL.numL l.length).length - 1)) = (sealL l).take j := by
        have hj2 : ¬ j ≤ (TL.numL l.length).length := by
          intro hle
          have : (sealL l).take j = (TL.numL l.length).take j := by
            unfold sealL
            rw [List.take_append_of_le_length hle]
          rw [this] at hb32
          exact (num_facts l.length (by omega)).2.2.2.1 (List.mem_of_mem_take hb32)
        unfold sealL
        generalize l ++ [46] = r
        rw [List.take_append, List.take_of_length_le (by omega : (TL.numL l.length).length ≤ j)]
        congr 1
        obtain ⟨i, hi⟩ : ∃ i, j - (TL.numL l.length).length = i + 1 := ⟨j - (TL.numL l.length).length - 1, by omega⟩
        rw [hi, List.take_succ_cons, Nat.add_sub_cancel]
      rw [← hjn]
      have hlq : ((l ++ [46]).take (j - (TL.numL l.length).length - 1)).length ≤ l.length := by
        have hs : (sealL l).length = (TL.numL l.length).length + (l.length + 2) := by simp [sealL]
        simp; omega
      rw [opened_some (num_facts l.length (by omega)).2.2.2.1 (by rw [hjn]; simp; omega), openP_short]
      rw [TL.numL_val]
      omega
    · exact opened_none hb32 (by simp; omega)
  have t6 : ∀ g : G, compM (cturn (cf tab L true (n + 3)) [.op .notNone [.call 12 [.sl false (.v 2) none (some (.v 8))] [] [.inl 0]]] (.v 8)) (.nm 8) [some (.ref p), some (.str (sL l)), some (.str (sL (sealL l))), none, none, none, none, none, none, none, none] [] ((List.range (((sealL l).length : Nat) : Int).toNat).map fun (k : Nat) => D.int (0 + (k : Int))) [] g = .ok [] g := by
    intro g
    refine comp_none stands_nil _ _ fun x hx => ?_
    obtain ⟨j, hj, rfl⟩ := List.mem_map.mp hx
    have hj2 : j < (sealL l).length := by have := List.mem_range.mp hj; omega
    refine ⟨_, rfl, ?_⟩
    have e3 : cutD (sealL l) none (some (0 + (j : Int))) = (sealL l).take j := by rw [cutD_to (by omega), show (0 + (j : Int)).toNat = j by omega]
    rw [cturn_eq]
    kit_pair [sL_len, sL_cut, e3, t5 g j hj2]
  rw [show b20.take 4 = [_, _, _, _] from rfl]
  kit_pair [t1', sL_len, o_str', num_sL, l_blank, l_dot, sL_app, List.length_append, e2, t2, t4a, t3, t4b, sr_rng1, t6]
end
end K57
namespace K57
open PySem L2 M3 M3.EvM
section
variable {L n : Nat} {g : G}
theorem ts_lit {s : Str} {k : Nat} (l : List Nat) (h : s = sL l) (hl : l.length ≤ k) (hc : ∀ c ∈ l, c < 128) : TS k (.str s) := ⟨l, by rw [h], hl, hc⟩
theorem ts_line {l : List Nat} (h : Ln l) : TS 60 (.str (sL l)) := ⟨l, rfl, h.1, fun c hc => (h.2 c hc).1⟩
theorem ts_seal {l : List Nat} (h : Ln l) : TS 65 (.str (sL (sealL l))) := by
  have h60 := h.1
  refine ⟨_, rfl, Nat.le_trans (sealL_len (by omega)) (by omega), ?_⟩
  intro c hc
  unfold sealL at hc
  rcases List.mem_append.mp hc with hc | hc
  · exact (num_facts l.length (by omega)).2.2.2.2 c hc
  · rcases List.mem_cons.mp hc with hc | hc
    · omega
    · rcases List.mem_append.mp hc with hc | hc
      · exact (h.2 c hc).1
      · simp at hc; omega
theorem seals_B {p : Nat} {k : Int} {cell : Cell} {l : List Nat} (hl : Ln l) (hp : g[p]? = some cell) (hb : BoxC k cell) (hk : k ≤ 900000000) (hA : AllC g) :
    ∃ a b d cell', evSs (cf tab L true (n + 3)) ((b20.drop 4).take 6) [some (.ref p), some (.str (sL l)), some (.str (sL (sealL l))), none, none, none, none, none, none, none, none] g = .nx [some (.ref p), some (.str (sL l)), some (.str (sL (sealL l))), some a, some b, some d, none, none, none, none, none] (g.set p cell') ∧ BoxC (k + 101) cell' := by
  have hz := EvM.sizeLine_eq
  have hl60 := hl.1
  have hlen := sealL_len (l := l) (by omega)
  have hpos : 0 < (sealL l).length := by simp [sealL]; omega
  obtain ⟨at', c1, t1, h1, h2, b1⟩ := take15 (L := L) (n := n + 2) (c := true) (many := ((sealL l).length : Nat)) hp hb (by omega) (by omega) (by omega)
  have t1' : callM tab L true (n + 3) 15 [.ref p, .int ((sealL l).length : Nat)] g = .ok (.int at') (g.set p c1) := t1
  have hp1 : (g.set p c1)[p]? = some c1 := get_set_eq hp
  obtain ⟨o, c2, t2, ho, b2⟩ := line_ok (L := L) (n := n + 1) hp1 b1 (by omega) (hA.set b1.closed)
  have t2' : callM tab L true (n + 3) 18 [.ref p] (g.set p c1) = .ok (.str (sL o)) (g.set p c2) := by rw [List.set_set] at t2; exact t2
  have ho60 := ho.1
  generalize hg2 : g.set p c2 = g2
  have t3 : callM tab L true (n + 3) 11 [.str (sL o)] g2 = .ok (.str (sL (sealL o))) g2 := sealed_ok (n := n + 1) ho.no (by omega)
  -- the texts
  have V1 : ∀ d, EvT (cf tab L true (n + 3)) (.v 1) [some (.ref p), some (.str (sL l)), some (.str (sL (sealL l))), some (.int at'), some (.str (sL o)), d, none, none, none, none, none] g2 60 := fun d => EvT.v rfl (ts_line hl)
  have V2 : ∀ d, EvT (cf tab L true (n + 3)) (.v 2) [some (.ref p), some (.str (sL l)), some (.str (sL (sealL l))), some (.int at'), some (.str (sL o)), d, none, none, none, none, none] g2 65 := fun d => EvT.v rfl (ts_seal hl)
  have V3 : ∀ d, EvI (cf tab L true (n + 3)) (.v 3) [some (.ref p), some (.str (sL l)), some (.str (sL (sealL l))), some (.int at'), some (.str (sL o)), d, none, none, none, none, none] g2 := fun d => EvI.v rfl
  have V4 : ∀ d, EvT (cf tab L true (n + 3)) (.v 4) [some (.ref p), some (.str (sL l)), some (.str (sL (sealL l))), some (.int at'), some (.str (sL o)), d, none, none, none, none, none] g2 60 := fun d => EvT.v rfl (ts_line ho)
  have N1 : ∀ d, EvT (cf tab L true (n + 3)) (.op .str [.op .len [.v 1]]) [some (.ref p), some (.str (sL l)), some (.str (sL (sealL l))), some (.int at'), some (.str (sL o)), d, none, none, none, none, none] g2 3 := fun d => EvT.num (m := l.length) (by kit_pair [sL_len]) (by omega)
  have N2 : ∀ d, EvT (cf tab L true (n + 3)) (.op .str [.op (.add false) [.op .len [.v 1], .k (.int 1)]]) [some (.ref p), some (.str (sL l)), some (.str (sL (sealL l))), some (.int at'), some (.str (sL o)), d, none, none, none, none, none] g2 3 := by
    intro d
    refine ⟨.str (sL (TL.numL (l.length + 1))), ?_, _, rfl, numL_short _ (by omega), ?_⟩
    · have e : ((l.length : Nat) : Int) + 1 = ((l.length + 1 : Nat) : Int) := by omega
      kit_pair [sL_len, e, o_str', num_sL]
    · intro c hc
      have := TL.numL_digits (l.length + 1) c hc
      omega
  have N3 : ∀ d, evE (cf tab L true (n + 3)) (.op .len [.v 1]) [some (.ref p), some (.str (sL l)), some (.str (sL (sealL l))), some (.int at'), some (.str (sL o)), d, none, none, none, none, none] g2 = .ok (.int (l.length : Nat)) g2 := fun d => by kit_pair [sL_len]
  have S1 : ∀ d, EvT (cf tab L true (n + 3)) (.call 11 [.v 4] [] [.inl 0]) [some (.ref p), some (.str (sL l)), some (.str (sL (sealL l))), some (.int at'), some (.str (sL o)), d, none, none, none, none, none] g2 65 := fun d => ⟨_, by kit_pair [t3], ts_seal ho⟩
  have J : ∀ {x : ME} {k : Nat} {d : Option D}, k ≤ 600 → EvT (cf tab L true (n + 3)) x [some (.ref p), some (.str (sL l)), some (.str (sL (sealL l))), some (.int at'), some (.str (sL o)), d, none, none, none, none, none] g2 k → ∀ y, TS k y → OpT y := fun hk _ y hy => .inl (hy.mono hk)
  have K : ∀ {s : Str} {ρ : M3.Env} (l : List Nat), s = sL l → l.length ≤ 20 → (∀ c ∈ l, c < 128) → EvT (cf tab L true (n + 3)) (.k (.str s)) ρ g2 20 := fun l h1 h2 h3 => EvT.k (ts_lit l h1 h2 h3)
  have kd : ∀ {ρ : M3.Env}, EvT (cf tab L true (n + 3)) (.k (.str ".")) ρ g2 20 := K [46] l_dot (by decide) (by decide)
  have kb : ∀ {ρ : M3.Env}, EvT (cf tab L true (n + 3)) (.k (.str " ")) ρ g2 20 := K [32] l_blank (by decide) (by decide)
  have C : ∀ {x : ME} {es : List ME} {k m : Nat} {ρ : M3.Env}, EvT (cf tab L true (n + 3)) x ρ g2 k → EvTs (cf tab L true (n + 3)) es ρ g2 OpT m → k ≤ 600 → EvTs (cf tab L true (n + 3)) (x :: es) ρ g2 OpT (m + 1) := fun h1 h2 h3 => EvTs.cons h1 (fun y hy => .inl (hy.mono h3)) h2
  have L1 : EvTs (cf tab L true (n + 3)) [.op (.add false) [.v 2, .k (.str ".")], .op (.add false) [.v 2, .k (.str " ")], .op (.add false) [.k (.str " "), .v 2], .op (.add false) [.k (.str "0"), .v 2], .op (.add false) [.k (.str "-"), .v 2], .op (.add false) [.k (.str "+"), .v 2], .sl false (.v 2) (some (.k (.int 1))) none, .bm .upper (.v 2) [], .op (.add false) [.v 2, .k (.str "\n")], .op (.add false) [.v 2, .v 2]] [some (.ref p), some (.str (sL l)), some (.str (sL (sealL l))), some (.int at'), some (.str (sL o)), none, none, none, none, none, none] g2 OpT 10 :=
    C ((V2 _).add kd (by decide)) (C ((V2 _).add kb (by decide)) (C (kb.add (V2 _) (by decide)) (C ((K [48] l_zero (by decide) (by decide)).add (V2 _) (by decide)) (C ((K [45] l_minus (by decide) (by decide)).add (V2 _) (by decide)) (C ((K [43] (by decide +kernel) (by decide) (by decide)).add (V2 _) (by decide))
      (C ((V2 _).from (by decide) EvI.k) (C ((V2 _).upper (by decide)) (C ((V2 _).add (K [10] l_nl (by decide) (by decide)) (by decide)) (C ((V2 _).add (V2 _) (by decide)) EvTs.nil (by decide)) (by decide)) (by decide)) (by decide)) (by decide)) (by decide)) (by decide)) (by decide)) (by decide)) (by decide)
  have L2' : ∀ d, EvTs (cf tab L true (n + 3)) [.op (.add false) [.sl false (.v 2) none (some (.v 3)), .sl false (.v 2) (some (.op (.add false) [.v 3, .k (.int 1)])) none], .op (.add false) [.op (.add false) [.sl false (.v 2) none (some (.v 3)), .k (.str ".")], .sl false (.v 2) (some (.v 3)) none], .op (.add false) [.op (.add false) [.sl false (.v 2) none (some (.v 3)), .k (.str "1")], .sl false (.v 2) (some (.op (.add false) [.v 3, .k (.int 1)])) none], .op (.add false) [.op (.add false) [.op .str [.op .len [.v 1]], .v 1], .k (.str ".")]] [some (.ref p), some (.str (sL l)), some (.str (sL (sealL l))), some (.int at'), some (.str (sL o)), some d, none, none, none, none, none] g2 OpT 4 := fun d =>
    C (((V2 _).to (by decide) (V3 _)).add ((V2 _).from (by decide) ((V3 _).add EvI.k)) (by decide)) (C ((((V2 _).to (by decide) (V3 _)).add kd (by decide)).add ((V2 _).from (by decide) (V3 _)) (by decide)) (C ((((V2 _).to (by decide) (V3 _)).add (K [49] (by decide +kernel) (by decide) (by decide)) (by decide)).add ((V2 _).from (by decide) ((V3 _).add EvI.k)) (by decide))
      (C (((N1 _).add (V1 _) (by decide)).add kd (by decide)) EvTs.nil (by decide)) (by decide)) (by decide)) (by decide)
  have L3' : ∀ d, EvTs (cf tab L true (n + 3)) [.op (.add false) [.op (.add false) [.op (.add false) [.op .str [.op (.add false) [.op .len [.v 1], .k (.int 1)]], .k (.str " ")], .v 1], .k (.str "..")], .v 4, .call 11 [.v 4] [] [.inl 0], .op (.add false) [.op (.add false) [.op (.add false) [.op .str [.op .len [.v 1]], .k (.str "  ")], .v 1], .k (.str ".")], .k (.str "0 ."), .k (.str "1 .."), .k (.str "0 "), .k (.str ".")] [some (.ref p), some (.str (sL l)), some (.str (sL (sealL l))), some (.int at'), some (.str (sL o)), some d, none, none, none, none, none] g2 OpT 8 := fun d =>
    C ((((N2 _).add kb (by decide)).add (V1 _) (by decide)).add (K [46, 46] (by decide +kernel) (by decide) (by decide)) (by decide)) (C (V4 _) (C (S1 _) (C ((((N1 _).add (K [32, 32] (by decide +kernel) (by decide) (by decide)) (by decide)).add (V1 _) (by decide)).add kd (by decide))
      (C (K [48, 32, 46] (by decide +kernel) (by decide) (by decide)) (C (K [49, 32, 46, 46] (by decide +kernel) (by decide) (by decide)) (C (K [48, 32] (by decide +kernel) (by decide) (by decide)) (C kd EvTs.nil (by decide)) (by decide)) (by decide)) (by decide)) (by decide)) (by decide)) (by decide)) (by decide)
  have O : ∀ d : D, (∀ s, d ≠ .str s) → (∀ m, d ≠ .ref m) → OpT d := fun d h1 h2 => .inr ⟨h1, h2⟩
  have L4' : ∀ d, EvTs (cf tab L true (n + 3)) [.k .non, .k (.int 0), .k (.bl true), .tup [.v 2], .lst false [.v 2], .dct false [] [], .op .len [.v 1], .k (.str ""), .k (.str "1 \n."), .k (.str "two ab."), .k (.str "1_0 0123456789.")] [some (.ref p), some (.str (sL l)), some (.str (sL (sealL l))), some (.int at'), some (.str (sL o)), some d, none, none, none, none, none] g2 OpT 11 := fun d =>
    EvTs.val e_k (O _ (by simp) (by simp)) (EvTs.val e_k (O _ (by simp) (by simp)) (EvTs.val e_k (O _ (by simp) (by simp))
      (EvTs.val (d := .tup [.str (sL (sealL l))]) (by kit_pair []) (O _ (by simp) (by simp)) (EvTs.val (d := .lst [.str (sL (sealL l))]) (by kit_pair []) (O _ (by simp) (by simp)) (EvTs.val (d := .dct [] []) (by kit_pair []) (O _ (by simp) (by simp))
      (EvTs.val (N3 _) (O _ (by simp) (by simp)) (C (K [] l_empty (by decide) (by decide)) (C (K [49, 32, 10, 46] (by decide +kernel) (by decide) (by decide)) (C (K [116, 119, 111, 32, 97, 98, 46] (by decide +kernel) (by decide) (by decide)) (C (K [49, 95, 48, 32, 48, 49, 50, 51, 52, 53, 54, 55, 56, 57, 46] (by decide +kernel) (by decide) (by decide)) EvTs.nil (by decide)) (by decide)) (by decide)) (by decide))))))))
  obtain ⟨x1, e1, p1, q1⟩ := L1
  obtain ⟨x2, e2, p2, q2⟩ := L2' (.lst x1)
  obtain ⟨x3, e3, p3, q3⟩ := L3' (.lst (x1 ++ x2))
  obtain ⟨x4, e4, p4, q4⟩ := L4' (.lst (x1 ++ x2 ++ x3))
  have hall : ∀ d ∈ x1 ++ x2 ++ x3 ++ x4, OpT d := by
    intro d hd
    simp only [List.mem_append] at hd
    rcases hd with ((hd | hd) | hd) | hd
    · exact p1 d hd
    · exact p2 d hd
    · exact p3 d hd
    · exact p4 d hd
  have hcm : ∀ ρ : M3.Env, (∀ x : D, ∃ ρ', bindT g2 (.nm 9) x ρ = some ρ' ∧ ρ'[9]? = some (some x)) → compM (cturn (cf tab L true (n + 3)) [.or (.not (.call 16 [.call 12 [.v 9] [] [.inl 0], .call 19 [.v 9] [] [.inl 0]] [] [.inl 0, .inl 1])) (.not (.call 16 [.call 12 [] [.v 9] [.inl 0], .call 19 [.v 9] [] [.inl 0]] [] [.inl 0, .inl 1]))] (.v 9)) (.nm 9) ρ [] (x1 ++ x2 ++ x3 ++ x4) [] g2 = .ok [] g2 := by
    intro ρ hρ
    refine comp_none stands_nil _ _ fun x hx => ?_
    obtain ⟨ρ', hb1, hv⟩ := hρ x
    obtain ⟨y, r1, r2, r3, r4⟩ := open_same (L := L) (n := n) (g := g2) (hall x hx)
    have r5 : callM tab L true (n + 3) 16 [y, y] g2 = .ok (.bl true) g2 := same16 (n := n + 2) (k := 1) (sm_flat r3 r4)
    refine ⟨ρ', hb1, ?_⟩
    rw [cturn_eq]
    kit_pair [hv, r1, r2, r5]
  refine ⟨.int at', .str (sL o), .lst (x1 ++ x2 ++ x3 ++ x4), c2, ?_, BoxC.mono (by omega) b2⟩
  rw [hg2]
  rw [show (b20.drop 4).take 6 = [_] ++ ([_] ++ ([_] ++ ([_] ++ ([_] ++ [_])))) from rfl]
  rw [evSs_append]
  have f1 : ∀ {s : MS} {ρ ρ' : M3.Env} {g g' : G} {c : Cfg}, evS c s ρ g = .nx ρ' g' → evSs c [s] ρ g = .nx ρ' g' := fun h => by
    rw [EvM.ss_cons, h]; rw [S.nxt_nx, ssK_eq, EvM.ss_nil]
  have lst' : ∀ {es : List ME} {ρ : M3.Env} {xs : List D}, evEs (cf tab L true (n + 3)) es ρ g2 = .ok xs g2 → xs.length ≤ 100 → evE (cf tab L true (n + 3)) (.lst false es) ρ g2 = .ok (.lst xs) g2 := fun h hl => by
    rw [EvM.e_lst, h]; kit_pair []
  have l1 : ∀ (xs : List D), xs.length ≤ 100 → xs.length ≤ sizeLine := fun xs h => by omega
  rw [f1 (ρ' := [some (.ref p), some (.str (sL l)), some (.str (sL (sealL l))), some (.int at'), some (.str (sL o)), none, none, none, none, none, none]) (g' := g2) (by kit_pair [sL_len, t1', t2', hg2]), S.nxt_nx, ssK_eq, evSs_append]
  rw [f1 (ρ' := [some (.ref p), some (.str (sL l)), some (.str (sL (sealL l))), some (.int at'), some (.str (sL o)), some (.lst x1), none, none, none, none, none]) (g' := g2) (by
    rw [EvM.s_asg, EvM.e_lst, e1]; kit_pair []), S.nxt_nx, ssK_eq, evSs_append]
  rw [f1 (ρ' := [some (.ref p), some (.str (sL l)), some (.str (sL (sealL l))), some (.int at'), some (.str (sL o)), some (.lst (x1 ++ x2)), none, none, none, none, none]) (g' := g2) (by
    rw [EvM.s_asg, EvM.e_op, EvM.es_cons]
    rw [EvM.e_v]
    simp only [List.getElem?_cons_succ, List.getElem?_cons_zero, EvM.getV_some, R.bind_ok, EvM.esK_eq]
    rw [EvM.es_cons, lst' e2 (by omega)]
    kit_pair []), S.nxt_nx, ssK_eq, evSs_append]
  rw [f1 (ρ' := [some (.ref p), some (.str (sL l)), some (.str (sL (sealL l))), some (.int at'), some (.str (sL o)), some (.lst (x1 ++ x2 ++ x3)), none, none, none, none, none]) (g' := g2) (by
    rw [EvM.s_asg, EvM.e_op, EvM.es_cons]
    rw [EvM.e_v]
    simp only [List.getElem?_cons_succ, List.getElem?_cons_zero, EvM.getV_some, R.bind_ok, EvM.esK_eq]
    rw [EvM.es_cons, lst' e3 (by omega)]
    kit_pair [List.length_append]), S.nxt_nx, ssK_eq, evSs_append]
  rw [f1 (ρ' := [some (.ref p), some (.str (sL l)), some (.str (sL (sealL l))), some (.int at'), some (.str (sL o)), some (.lst (x1 ++ x2 ++ x3 ++ x4)), none, none, none, none, none]) (g' := g2) (by
    rw [EvM.s_asg, EvM.e_op, EvM.es_cons]
    rw [EvM.e_v]
    simp only [List.getElem?_cons_succ, List.getElem?_cons_zero, EvM.getV_some, R.bind_ok, EvM.esK_eq]
    rw [EvM.es_cons, lst' e4 (by omega)]
    kit_pair [List.length_append]), S.nxt_nx, ssK_eq]
  refine f1 ?_
  have hcm2 := hcm [some (.ref p), some (.str (sL l)), some (.str (sL (sealL l))), some (.int at'), some (.str (sL o)), some (.lst (x1 ++ x2 ++ x3 ++ x4)), none, none, none, none, none] fun x => ⟨_, rfl, rfl⟩
  kit_pair [hcm2]
end
end K57
namespace K57
open PySem L2 M3 M3.EvM
theorem na_lines {d : D} {r : List (Str × D)} : List.lookup ("all_lines" : Str) (("all_lines", d) :: r) = some d := by simp [List.lookup]
theorem ne_al_ms : (("many_safe" : Str) == "all_lines") = false := by decide +kernel
theorem na_safe {d e : D} {r : List (Str × D)} : List.lookup ("many_safe" : Str) (("all_lines", d) :: ("many_safe", e) :: r) = some e := by simp [List.lookup, ne_al_ms]
theorem na_found {d : D} {r : List (Str × D)} : List.lookup ("found" : Str) (("found", d) :: r) = some d := by simp [List.lookup]
theorem ne_m (m : Str) (h1 : (m == "all_lines") = false) (h2 : (m == "many_safe") = false) {d e : D} : List.lookup m [("all_lines", d), ("many_safe", e)] = none := by simp [List.lookup, h1, h2]
theorem nm_write {d e : D} : List.lookup ("write" : Str) [("all_lines", d), ("many_safe", e)] = none := ne_m _ (by decide +kernel) (by decide +kernel)
theorem nm_sync {d e : D} : List.lookup ("sync" : Str) [("all_lines", d), ("many_safe", e)] = none := ne_m _ (by decide +kernel) (by decide +kernel)
theorem nm_lines {d e : D} : List.lookup ("lines" : Str) [("all_lines", d), ("many_safe", e)] = none := ne_m _ (by decide +kernel) (by decide +kernel)
theorem nm_safe {d e : D} : List.lookup ("safe" : Str) [("all_lines", d), ("many_safe", e)] = none := ne_m _ (by decide +kernel) (by decide +kernel)
theorem nm_crash {d e : D} : List.lookup ("crash" : Str) [("all_lines", d), ("many_safe", e)] = none := ne_m _ (by decide +kernel) (by decide +kernel)
theorem nm_keep {d e : D} : List.lookup ("keep" : Str) [("all_lines", d), ("many_safe", e)] = none := ne_m _ (by decide +kernel) (by decide +kernel)
theorem nm_copied {d e : D} : List.lookup ("copied" : Str) [("all_lines", d), ("many_safe", e)] = none := ne_m _ (by decide +kernel) (by decide +kernel)
theorem pd_0 {d : D} : putD "all_lines" d [] = ([("all_lines", d)] : List (Str × D)) := rfl
theorem ne_al_ms' : ¬ (("all_lines" : Str) = "many_safe") := by decide +kernel
theorem pd_1 {d e : D} : putD "many_safe" e [("all_lines", d)] = ([("all_lines", d), ("many_safe", e)] : List (Str × D)) := by simp [putD, ne_al_ms']
theorem pd_2 {d e x : D} : putD "many_safe" x [("all_lines", d), ("many_safe", e)] = ([("all_lines", d), ("many_safe", x)] : List (Str × D)) := by simp [putD, ne_al_ms']
theorem pd_3 {d e x : D} : putD "all_lines" x [("all_lines", d), ("many_safe", e)] = ([("all_lines", x), ("many_safe", e)] : List (Str × D)) := by simp [putD]
theorem closedDs_app {n : Nat} : ∀ {xs ys : List D}, closedDs n xs = true → closedDs n ys = true → closedDs n (xs ++ ys) = true
  | [], _, _, h => h
  | x :: xs, ys, h1, h2 => by
    simp only [closedDs, Bool.and_eq_true] at h1
    rw [List.cons_append]
    unfold closedDs
    rw [h1.1, closedDs_app h1.2 h2]; rfl
section
variable {L n : Nat} {g : G}
theorem sealed_no {d : D} (h : NoLine d) (hr : ∀ m, d = .ref m → ∃ xs, g[m]? = some (.lst xs)) : callM tab L true (n+2) 11 [d] g = .exc 2 [("found", d)] g := by
  rw [r11]; unfold b11
  kit_pair [need_no h hr]
theorem write_no {d : D} {q : Nat} (h : NoLine d) (hr : ∀ m, d = .ref m → ∃ xs, g[m]? = some (.lst xs)) : callM tab L true (n+2) 4 [.ref q, d] g = .exc 2 [("found", d)] g := by
  rw [r4]; unfold b4
  kit_pair [need_no h hr]
theorem init_ok {c : Bool} : callM tab L c (n+1) 3 [.ref g.length] (g ++ [.ins 0 []]) = .ok .non (g ++ [.ins 0 [("all_lines", .ref (g.length + 1)), ("many_safe", .int 0)], .lst []]) := by
  have e1 : (g ++ [Cell.ins 0 []]) ++ [Cell.lst []] = g ++ [.ins 0 [], .lst []] := by simp
  have e2 : (g ++ [Cell.ins 0 []]).length = g.length + 1 := by simp
  have o1 : objOf (g ++ [.ins 0 [], .lst []]) (.ref g.length) = some (g.length, 0, []) := objOf_ref (by simp)
  have s1 : ∀ x, (g ++ [Cell.ins 0 [], .lst []]).set g.length x = g ++ [x, .lst []] := fun x => by simp
  have o2 : ∀ fs, objOf (g ++ [.ins 0 fs, .lst []]) (.ref g.length) = some (g.length, 0, fs) := fun fs => objOf_ref (by simp)
  have s2 : ∀ x fs, (g ++ [Cell.ins 0 fs, .lst []]).set g.length x = g ++ [x, .lst []] := fun x fs => by simp
  rw [r3]; unfold b3
  kit_pair [e1, e2, o1, s1, o2, s2, pd_0, pd_1]
/-- all else stands as it stood -/
structure Kp (g g' : G) (v : D) : Prop where
  le : g.length ≤ g'.length
  al : AllC g'
  st : ∀ (i : Nat) c, g[i]? = some c → (g'[i]? = some c ∧ v ≠ .ref i) ∨ (v = .ref i ∧ ∃ xs, c = .lst xs ∧ g'[i]? = some (.lst (xs ++ [.str "more"])))
def tryB : MS := .try_ [.ex (.ife (.op .eq [.v 7, .k (.int 0)]) (.call 11 [.v 6] [] [.inl 0]) (.meth 0 4 "write" (.mk 0 3 [] [] [.inl 0]) [] [.v 6] [.inl 0, .inl 1])), .ret (.k (.bl false))] [1, 2] [[2]] [some 10] [[.ite (.or (.not (.eis 10 [1, 2])) (.op .ne [.call 17 [.v 6] [] [.inl 0], .op .repr [.efld 10 "found"]])) [.ret (.k (.bl false))] []]]
theorem suite_ok {v : D} {x0 x1 x2 x3 x4 x5 x7 x8 x9 : Option D} (hv : Rv g v) (hA : AllC g) : ∃ g', evSs (hf tab L (n + 3) 2 [("found", v)]) [.ite (.or (.not (.eis 10 [1, 2])) (.op .ne [.call 17 [.v 6] [] [.inl 0], .op .repr [.efld 10 "found"]])) [.ret (.k (.bl false))] []] [x0, x1, x2, x3, x4, x5, some v, x7, x8, x9, none] g = .nx [x0, x1, x2, x3, x4, x5, some v, x7, x8, x9, none] g' ∧ Kp g g' v := by
  obtain ⟨s, g', e1, e2, e3⟩ := grown_ok (L := L) (n := n + 1) (c := false) hv
  have e1' : callM tab L false (n + 3) 17 [v] g = .ok (.str s) g' := e1
  have ei : ∀ g : G, eiK [1, 2] g (2, [("found", v)]) = .ok (.bl true) g := fun _ => rfl
  refine ⟨g', ?_, ?_⟩
  · kit_pair [ei, e1', e2, na_found, beq_self_eq_true]
  · rcases e3 with e3 | ⟨m, xs, rfl, h1, h2⟩
    · subst e3
      refine ⟨Nat.le_refl _, hA, fun i c hc => ?_⟩
      by_cases hvi : v = .ref i
      · exfalso
        subst hvi
        cases hv with
        | fl h => exact h
        | @ref n xs hn hf hl =>
          have e4 := e1
          rw [r17] at e4; unfold b17 at e4
          have hz := EvM.sizeLine_eq
          have hn2 : (g'.set i (.lst (xs ++ [D.str "more"])))[i]? = some (.lst (xs ++ [D.str "more"])) := get_set_eq hn
          obtain ⟨s3, e5⟩ := rep_ref hn2 (by
            intro d hd
            rcases List.mem_append.mp hd with hd | hd
            · exact hf d hd
            · simp at hd; subst hd; exact more_fl) (by simp; omega)
          simp -implicitDefEqProofs (disch := first | assumption | with_unfolding_all rfl | omega | with_unfolding_all exact ⟨rfl, rfl⟩ | decide) only [EvM.br_t, EvM.br_f, EvM.iteS_t, EvM.iteS_f, EvM.iteK_eq, EvM.br_and, EvM.br_or, EvM.grd_T, EvM.grd_of, EvM.grdS_T, EvM.grdS_of, EvM.got_some, EvM.gotS_some, EvM.getV_some, EvM.objOf_ref, EvM.intOf_int, EvM.strOf_str, EvM.cf_call, EvM.cf_calm, EvM.cf_loop, EvM.hf_call, EvM.hf_calm, EvM.hf_loop, EvM.hf_cur, EvM.out_nx, EvM.out_rt, EvM.out_exc, EvM.fin_f, EvM.e_k, EvM.e_v, EvM.blOf_bl, EvM.e_dct, EvM.newL_t, EvM.newL_f, EvM.newD_t, EvM.newD_f, EvM.emptyV_none, EvM.o_none, EvM.es_nil, EvM.j_nil, EvM.ts_nil, EvM.setAt_ref, EvM.okB_eq, EvM.wtK_eq, EvM.s_while, EvM.s_retN, EvM.s_pass, EvM.s_brk, EvM.s_cont, EvM.ss_nil, EvM.s_try, EvM.caught_nx, EvM.caught_rt, EvM.caught_bk, EvM.caught_ct, EvM.nox_nx, EvM.nox_rt, EvM.nox_bk, EvM.nox_ct, EvM.gone_none, EvM.gone_nx, EvM.gone_rt, EvM.gone_bk, EvM.gone_ct, EvM.opK_eq, EvM.bmL_eq, EvM.bmB_t, EvM.bmK_eq, EvM.andK_eq, EvM.andB_t, EvM.andB_f, EvM.andB_dec, EvM.andB_and, EvM.andB_or, EvM.andB_not, EvM.orK_eq, EvM.orB_t, EvM.orB_f, EvM.orB_dec, EvM.orB_and, EvM.orB_or, EvM.orB_not, EvM.ifeK_eq, EvM.ifeB_t, EvM.ifeB_f, EvM.e_op, EvM.e_bm, EvM.e_and, EvM.e_or, EvM.e_ife, EvM.okS_eq, EvM.e_js, EvM.slK3_eq, EvM.slK2_eq, EvM.slK_eq, EvM.e_sl, EvM.chK4_eq, EvM.chB_t, EvM.chB_f, EvM.chB_dec, EvM.chK3_eq, EvM.chK2_eq, EvM.chK_eq, EvM.e_chain, EvM.tupK_eq, EvM.e_tup, EvM.lstK_eq, EvM.e_lst, EvM.cpK2_eq, EvM.cpK_eq, EvM.e_comp, EvM.caK3_eq, EvM.caK2_eq, EvM.caK_eq, EvM.e_call, EvM.meK3_eq, EvM.meK2_eq, EvM.meK1_eq, EvM.meK_eq, EvM.e_meth, EvM.mkK4_eq, EvM.mkK3_eq, EvM.mkK2_eq, EvM.mkK_eq, EvM.e_mk, EvM.flK2_eq, EvM.flK_eq, EvM.e_fld, EvM.efK_eq, EvM.e_efld, EvM.eiK_eq, EvM.e_eis, EvM.noK_eq, EvM.e_not, EvM.someI_eq, EvM.oK_eq, EvM.o_some, EvM.esK2_eq, EvM.esK_eq, EvM.es_cons, EvM.jK2_eq, EvM.jK_eq, EvM.j_cons, EvM.tsB_t, EvM.tsB_f, EvM.tsK_eq, EvM.ts_cons, EvM.ctS_eq, EvM.ctK_t, EvM.ctK_f, EvM.agK_eq, EvM.s_asg, EvM.nxG_eq, EvM.atK_eq, EvM.s_asgT, EvM.paK_eq, EvM.s_par, EvM.fsK3_eq, EvM.fsK2_eq, EvM.fsK_eq, EvM.s_fset, EvM.nxR_eq, EvM.isK3_eq, EvM.isK2_eq, EvM.isK_eq, EvM.s_iset, EvM.exK_eq, EvM.s_ex, EvM.s_ite, EvM.foK2_eq, EvM.foK_eq, EvM.s_for, EvM.reK_eq, EvM.s_ret, EvM.raK_eq, EvM.s_raise, EvM.ssK_eq, EvM.ss_cons, EvM.c_len, EvM.c_abs, EvM.c_int, EvM.c_str, EvM.c_repr, EvM.c_neg, EvM.c_isNone, EvM.c_notNone, EvM.c_isTrue, EvM.c_upper, EvM.c_sub, EvM.c_mul, EvM.c_fdiv, EvM.c_mod, EvM.c_pow, EvM.c_eq, EvM.c_ne, EvM.c_lt, EvM.c_le, EvM.c_gt, EvM.c_ge, EvM.c_isin, EvM.c_notin, EvM.c_ix, EvM.c_join, EvM.c_partition, EvM.c_append, EvM.c_insert, EvM.c_fs, EvM.c_tuple, EvM.c_list, EvM.c_add, EvM.c_isT, EvM.c_all, EvM.c_any, EvM.c_sum, EvM.c_max, EvM.c_min, EvM.c_sindex, EvM.o_isT, EvM.is_int_non, EvM.is_int_bl, EvM.is_int_int, EvM.is_int_str, EvM.is_int_tup, EvM.is_int_lst, EvM.is_int_dct, EvM.is_str_non, EvM.is_str_bl, EvM.is_str_int, EvM.is_str_str, EvM.is_str_tup, EvM.is_str_lst, EvM.is_str_dct, EvM.is_bool_non, EvM.is_bool_bl, EvM.is_bool_int, EvM.is_bool_str, EvM.is_bool_tup, EvM.is_bool_lst, EvM.is_bool_dct, EvM.is_list_non, EvM.is_list_bl, EvM.is_list_int, EvM.is_list_str, EvM.is_list_tup, EvM.is_list_lst, EvM.is_list_dct, EvM.is_tuple_non, EvM.is_tuple_bl, EvM.is_tuple_int, EvM.is_tuple_str, EvM.is_tuple_tup, EvM.is_tuple_lst, EvM.is_tuple_dct, EvM.is_dict_non, EvM.is_dict_bl, EvM.is_dict_int, EvM.is_dict_str, EvM.is_dict_tup, EvM.is_dict_lst, EvM.is_dict_dct, EvM.is_listTuple_non, EvM.is_listTuple_bl, EvM.is_listTuple_int, EvM.is_listTuple_str, EvM.is_listTuple_tup, EvM.is_listTuple_lst, EvM.is_listTuple_dct, EvM.is_int_rl, EvM.is_int_rd, EvM.is_str_rl, EvM.is_str_rd, EvM.is_bool_rl, EvM.is_bool_rd, EvM.is_list_rl, EvM.is_list_rd, EvM.is_tuple_rl, EvM.is_tuple_rd, EvM.is_dict_rl, EvM.is_dict_rd, EvM.is_listTuple_rl, EvM.is_listTuple_rd, EvM.o_isNone_non, EvM.o_notNone_non, EvM.o_isNone_bl, EvM.o_notNone_bl, EvM.o_isNone_int, EvM.o_notNone_int, EvM.o_isNone_str, EvM.o_notNone_str, EvM.o_isNone_tup, EvM.o_notNone_tup, EvM.o_isNone_lst, EvM.o_notNone_lst, EvM.o_isNone_dct, EvM.o_notNone_dct, EvM.o_isNone_ref, EvM.o_notNone_ref, EvM.o_isTrue, EvM.t_non, EvM.t_bl, EvM.t_int, EvM.t_str, EvM.t_tup, EvM.t_lst, EvM.t_dct, EvM.t_rl, EvM.t_rd, EvM.l_lst, EvM.l_ref, EvM.r_join, EvM.r_sindex, EvM.r_partition, EvM.r_upper, EvM.r_append, EvM.r_insert, EvM.o_len_str, EvM.o_len_tup, EvM.o_len_lst, EvM.o_len_ref, EvM.o_abs, EvM.o_int_int, EvM.o_int_bl, EvM.o_neg, EvM.o_all_map, EvM.o_any_map, EvM.o_sum_map, EvM.q_tup, EvM.q_lst, EvM.q_ref, EvM.o_list, EvM.o_tuple, EvM.o_upper, EvM.o_add_int, EvM.o_add_str, EvM.o_add_tup, EvM.o_add_lst, EvM.o_add_rl, EvM.o_sub, EvM.o_mod, EvM.o_eq, EvM.o_ne, EvM.o_lt, EvM.o_le, EvM.o_gt, EvM.o_ge, EvM.o_isin, EvM.o_notin, EvM.o_ix, EvM.o_max, EvM.o_min, EvM.o_sindex, EvM.o_partition, EvM.o_append, EvM.o_insert, EvM.o_fs_str, EvM.x_tup, EvM.x_lst, EvM.x_ref, EvM.x_str, EvM.atI_0, EvM.atI_1, EvM.atI_2, EvM.atI_3, EvM.atI_last, EvM.sr_lst, EvM.sr_tup, EvM.sr_str, EvM.sr_ref, EvM.sr_rng1, EvM.sr_rng2, EvM.sr_enum, EvM.sr_enum_ref, EvM.sr_zip_tt, EvM.sr_zip_ll, EvM.sl_tup, EvM.sl_str, EvM.sl_lst, EvM.sl_ref, EvM.b_nm, EvM.b_tup, EvM.b_lst, EvM.b_ref, EvM.as_nil, EvM.as_cons, EvM.wi_nil, EvM.wi_cons, EvM.se_nil, EvM.se_inl, EvM.se_inr, EvM.map_some', EvM.bind_some', EvM.optB_some', EvM.q_non_non, EvM.q_non_bl, EvM.q_non_int, EvM.q_non_str, EvM.q_bl_non, EvM.q_bl_bl, EvM.q_bl_str, EvM.q_int_non, EvM.q_int_int, EvM.q_int_str, EvM.q_str_non, EvM.q_str_bl, EvM.q_str_int, EvM.q_str_str, EvM.q_nil_nil, EvM.q_tnil_tnil, M3.R.bind_ok, M3.R.bind_exc, M3.R.bind_bad, M3.R.thn_ok, M3.R.thn_exc, M3.R.thn_bad, M3.S.nxt_nx, M3.S.nxt_rt, M3.S.nxt_exc, M3.S.nxt_bad, M3.S.nxt_bk, M3.S.nxt_ct, M3.opt_some, List.getElem?_cons_zero, List.getElem?_cons_succ, List.set_cons_zero, List.set_cons_succ, List.cons_append, List.nil_append, List.length_cons, List.length_nil, Bool.not_true, Bool.not_false, Nat.reduceAdd, Nat.reduceSub, List.isEmpty_nil, List.isEmpty_cons, Nat.zero_add, true_and, and_true, Nat.le_refl, and_self, true_or, or_true, Bool.true_and, Bool.false_and, Bool.or_true, Bool.true_or, Bool.or_false, Bool.false_or, Bool.and_true, Bool.and_false, is_list_rl hn, r_append hn, o_append hn, is_tuple_rl hn2, e5] at e4
          injection e4 with _ e4
          rw [← e4] at hn
          rw [hn2] at hn
          injection hn with hn
          injection hn with hn
          have := congrArg List.length hn
          simp at this
      · exact .inl ⟨hc, hvi⟩
    · subst h2
      refine ⟨by simp, hA.set ?_, fun i c hc => ?_⟩
      · have := hA.get h1
        show closedDs g.length (xs ++ [.str "more"]) = true
        exact closedDs_app this rfl
      · by_cases him : m = i
        · subst him
          rw [h1] at hc
          injection hc with hc
          exact .inr ⟨rfl, xs, hc.symm, get_set_eq h1⟩
        · exact .inl ⟨get_set_ne hc him, fun hh => by injection hh with hh; exact him hh⟩
theorem try_ok {v : D} {kind : Int} {x0 x1 x2 x3 x4 x5 x8 x9 x10 : Option D} (hv : Rv g v) (hn : NoLine v) (hA : AllC g) : ∃ g', evSs (cf tab L true (n + 3)) [tryB] [x0, x1, x2, x3, x4, x5, some v, some (.int kind), x8, x9, x10] g = .nx [x0, x1, x2, x3, x4, x5, some v, some (.int kind), x8, x9, none] g' ∧ Kp g g' v := by
  have hr : ∀ g : G, Rv g v → ∀ m, v = .ref m → ∃ xs, g[m]? = some (.lst xs) := by
    intro g hv m e
    subst e
    cases hv with
    | fl h => exact h.elim
    | ref h _ _ => exact ⟨_, h⟩
  have key : ∀ g1 : G, AllC g1 → Rv g1 v → evSs (cf tab L true (n + 3)) [.ex (.ife (.op .eq [.v 7, .k (.int 0)]) (.call 11 [.v 6] [] [.inl 0]) (.meth 0 4 "write" (.mk 0 3 [] [] [.inl 0]) [] [.v 6] [.inl 0, .inl 1])), .ret (.k (.bl false))] [x0, x1, x2, x3, x4, x5, some v, some (.int kind), x8, x9, x10] g = .exc 2 [("found", v)] [x0, x1, x2, x3, x4, x5, some v, some (.int kind), x8, x9, x10] g1 →
      ∃ g', evSs (cf tab L true (n + 3)) [tryB] [x0, x1, x2, x3, x4, x5, some v, some (.int kind), x8, x9, x10] g = .nx [x0, x1, x2, x3, x4, x5, some v, some (.int kind), x8, x9, none] g' ∧ Kp g1 g' v := by
    intro g1 hA1 hv1 hb
    obtain ⟨g', e1, e2⟩ := suite_ok (L := L) (n := n) (x0 := x0) (x1 := x1) (x2 := x2) (x3 := x3) (x4 := x4) (x5 := x5) (x7 := some (.int kind)) (x8 := x8) (x9 := x9) hv1 hA1
    refine ⟨g', ?_, e2⟩
    unfold tryB
    rw [EvM.ss_cons, EvM.s_try, hb, cf_calm, grdS_of rfl]
    rw [caught_exc (j := 0) (o := some 10) (suite := [.ite (.or (.not (.eis 10 [1, 2])) (.op .ne [.call 17 [.v 6] [] [.inl 0], .op .repr [.efld 10 "found"]])) [.ret (.k (.bl false))] []]) (by decide) rfl rfl rfl rfl]
    show ((((evSs (hf tab L (n + 3) 2 [("found", v)]) _ [x0, x1, x2, x3, x4, x5, some v, some (.int kind), x8, x9, none] g1).nox).gone (some 10)).nxt _) = _
    rw [e1]
    rw [nox_nx, gone_nx, S.nxt_nx, ssK_eq, EvM.ss_nil]
    rfl
  by_cases hk : kind = 0
  · refine key g hA hv ?_
    subst hk
    have e1 : callM tab L true (n + 3) 11 [v] g = .exc 2 [("found", v)] g := sealed_no (n := n + 1) hn (hr g hv)
    kit_pair [e1, beq_self_eq_true]
  · have hA1 : AllC (g ++ [.ins 0 [("all_lines", .ref (g.length + 1)), ("many_safe", .int 0)], .lst []]) := by
      have h1 : AllC (g ++ [.ins 0 []]) := hA.push rfl
      have h2 : AllC ((g ++ [.ins 0 []]) ++ [.lst []]) := h1.push rfl
      have h3 := h2.set (n := g.length) (c := .ins 0 [("all_lines", .ref (g.length + 1)), ("many_safe", .int 0)]) (by simp [closedC, closedDs, closedD])
      have e : ((g ++ [Cell.ins 0 []]) ++ [Cell.lst []]).set g.length (.ins 0 [("all_lines", .ref (g.length + 1)), ("many_safe", .int 0)]) = g ++ [.ins 0 [("all_lines", .ref (g.length + 1)), ("many_safe", .int 0)], .lst []] := by
        rw [List.append_assoc]; simp
      rw [e] at h3
      exact h3
    have hv1 : Rv (g ++ [.ins 0 [("all_lines", .ref (g.length + 1)), ("many_safe", .int 0)], .lst []]) v := by
      cases hv with
      | fl h => exact .fl h
      | tup h h2 => exact .tup h h2
      | dct => exact .dct
      | ref h h2 h3 => exact .ref (get_app h) h2 h3
    have hkb : (kind == 0) = false := by simp [hk]
    obtain ⟨g', e1, e2⟩ := key _ hA1 hv1 (by
      have t1 : callM tab L true (n + 3) 3 [.ref g.length] (g ++ [.ins 0 []]) = .ok .non (g ++ [.ins 0 [("all_lines", .ref (g.length + 1)), ("many_safe", .int 0)], .lst []]) := init_ok (n := n + 2)
      have t2 : callM tab L true (n + 3) 4 [.ref g.length, v] (g ++ [.ins 0 [("all_lines", .ref (g.length + 1)), ("many_safe", .int 0)], .lst []]) = .exc 2 [("found", v)] (g ++ [.ins 0 [("all_lines", .ref (g.length + 1)), ("many_safe", .int 0)], .lst []]) := write_no (n := n + 1) hn (hr _ hv1)
      have t3 : objOf (g ++ [Cell.ins 0 [("all_lines", D.ref (g.length + 1)), ("many_safe", D.int 0)], Cell.lst []]) (D.ref g.length) = some (g.length, 0, ([("all_lines", D.ref (g.length + 1)), ("many_safe", D.int 0)] : List (Str × D))) := objOf_ref (by simp)
      kit_pair [hkb, t1, t3, nm_write, t2])
    refine ⟨g', e1, ?_⟩
    refine ⟨Nat.le_trans (by simp) e2.le, e2.al, fun i c hc => ?_⟩
    exact e2.st i c (get_app hc)
end
end K57
namespace K57
open PySem L2 M3 M3.EvM
section
variable {L n : Nat} {g : G}
/-- both ways for one value -/
theorem kinds_ok {v : D} {x0 x1 x2 x3 x4 x5 x7 x8 x9 x10 : Option D} (hn : NoLine v) (hA : AllC g) (hv : (fl v ∨ (∃ xs, v = .tup xs ∧ (∀ d ∈ xs, fl d) ∧ xs.length ≤ 50) ∨ v = .dct [] [] ∨ ∃ m xs, v = .ref m ∧ g[m]? = some (.lst xs) ∧ (∀ d ∈ xs, fl d) ∧ xs.length ≤ 40)) :
    ∃ g' y7, evSs (cf tab L true (n + 3)) [.for_ (.nm 7) .rng1 [.k (.int 2)] [tryB]] [x0, x1, x2, x3, x4, x5, some v, x7, x8, x9, x10] g = .nx [x0, x1, x2, x3, x4, x5, some v, y7, x8, x9, none] g' ∧
      g.length ≤ g'.length ∧ AllC g' ∧ (∀ (i : Nat) c, g[i]? = some c → v ≠ .ref i → g'[i]? = some c) ∧ (∀ m xs, v = .ref m → g[m]? = some (.lst xs) → (∀ d ∈ xs, fl d) → ∃ ys, g'[m]? = some (.lst ys) ∧ (∀ d ∈ ys, fl d) ∧ ys.length ≤ xs.length + 2) := by
  have rv : ∀ g : G, (∀ m, v = .ref m → ∃ xs, g[m]? = some (.lst xs) ∧ (∀ d ∈ xs, fl d) ∧ xs.length ≤ 50) → Rv g v := by
    intro g h
    rcases hv with h1 | ⟨xs, rfl, h1, h2⟩ | rfl | ⟨m, xs, rfl, _⟩
    · exact .fl h1
    · exact .tup h1 h2
    · exact .dct
    · obtain ⟨ys, a, b, c⟩ := h m rfl
      exact .ref a b (by omega)
  have more : ∀ {xs : List D}, (∀ d ∈ xs, fl d) → ∀ d ∈ xs ++ [D.str "more"], fl d := by
    intro xs h d hd
    rcases List.mem_append.mp hd with hd | hd
    · exact h d hd
    · simp at hd; subst hd; exact more_fl
  have nofl : ∀ m, ¬ fl (.ref m) := fun m h => h
  have h0 : ∀ m, v = .ref m → ∃ xs, g[m]? = some (.lst xs) ∧ (∀ d ∈ xs, fl d) ∧ xs.length ≤ 40 := by
    intro m e
    rcases hv with h1 | ⟨xs, e2, _⟩ | e2 | ⟨m2, xs, e2, h1, h2, h3⟩
    · rw [e] at h1; exact (nofl m h1).elim
    · rw [e] at e2; cases e2
    · rw [e] at e2; cases e2
    · rw [e] at e2; injection e2 with e2; subst e2; exact ⟨xs, h1, h2, h3⟩
  obtain ⟨g1, e1, k1⟩ := try_ok (L := L) (n := n) (kind := 0 + ((0 : Nat) : Int)) (x0 := x0) (x1 := x1) (x2 := x2) (x3 := x3) (x4 := x4) (x5 := x5) (x8 := x8) (x9 := x9) (x10 := x10) (rv g fun m e => by
    obtain ⟨xs, a, b, c⟩ := h0 m e; exact ⟨xs, a, b, by omega⟩) hn hA
  have h1 : ∀ m, v = .ref m → ∀ xs, g[m]? = some (.lst xs) → (∀ d ∈ xs, fl d) → g1[m]? = some (.lst (xs ++ [.str "more"])) := by
    intro m e xs hx _
    rcases k1.st m _ hx with ⟨_, hh⟩ | ⟨_, ys, e2, h2⟩
    · exact absurd e hh
    · injection e2 with e2; subst e2; exact h2
  obtain ⟨g2, e2, k2⟩ := try_ok (L := L) (n := n) (g := g1) (kind := 0 + ((1 : Nat) : Int)) (x0 := x0) (x1 := x1) (x2 := x2) (x3 := x3) (x4 := x4) (x5 := x5) (x8 := x8) (x9 := x9) (x10 := none) (rv g1 fun m e => by
    obtain ⟨xs, a, b, c⟩ := h0 m e
    exact ⟨_, h1 m e xs a b, more b, by simp; omega⟩) hn k1.al
  refine ⟨g2, some (.int (0 + ((1 : Nat) : Int))), ?_, Nat.le_trans k1.le k2.le, k2.al, ?_, ?_⟩
  · have ef : M3.forM (evSs (cf tab L true (n + 3)) [tryB]) (.nm 7) [] ((List.range (2 : Int).toNat).map fun (k : Nat) => D.int (0 + (k : Int))) [x0, x1, x2, x3, x4, x5, some v, x7, x8, x9, x10] g = .nx [x0, x1, x2, x3, x4, x5, some v, some (.int (0 + ((1 : Nat) : Int))), x8, x9, none] g2 := by
      have el : ((List.range (2 : Int).toNat).map fun (k : Nat) => D.int (0 + (k : Int))) = [D.int (0 + ((0 : Nat) : Int)), D.int (0 + ((1 : Nat) : Int))] := rfl
      rw [el]
      unfold M3.forM
      rw [if_pos stands_nil]
      show (S.turn (evSs (cf tab L true (n + 3)) [tryB] [x0, x1, x2, x3, x4, x5, some v, some (.int (0 + ((0 : Nat) : Int))), x8, x9, x10] g) _) = _
      rw [e1, S.turn_nx]
      unfold M3.forM
      rw [if_pos stands_nil]
      show (S.turn (evSs (cf tab L true (n + 3)) [tryB] [x0, x1, x2, x3, x4, x5, some v, some (.int (0 + ((1 : Nat) : Int))), x8, x9, none] g1) _) = _
      rw [e2, S.turn_nx]
      unfold M3.forM
      rw [if_pos stands_nil]
    kit_pair [sr_rng1, ef]
  · intro i c hc hne
    have a1 : g1[i]? = some c := by
      rcases k1.st i c hc with ⟨h, _⟩ | ⟨h, _⟩
      · exact h
      · exact absurd h hne
    rcases k2.st i c a1 with ⟨h, _⟩ | ⟨h, _⟩
    · exact h
    · exact absurd h hne
  · intro m xs e hx hf
    have a1 := h1 m e xs hx hf
    rcases k2.st m _ a1 with ⟨_, hh⟩ | ⟨_, ys, e3, h2⟩
    · exact absurd e hh
    · injection e3 with e3; subst e3
      exact ⟨_, h2, more (more hf), by simp⟩
theorem seals_C {p : Nat} {k : Int} {cell : Cell} {l : List Nat} {x2 x3 x4 x5 : Option D} (hl : Ln l) (hp : g[p]? = some cell) (hb : BoxC k cell) (hA : AllC g) :
    ∃ g', evSs (cf tab L true (n + 3)) (b20.drop 10) [some (.ref p), some (.str (sL l)), x2, x3, x4, x5, none, none, none, none, none] g = .rt (.bl true) g' ∧ g.length ≤ g'.length ∧ AllC g' ∧ (∀ (i : Nat) c, g[i]? = some c → g'[i]? = some c) := by
  have hz := EvM.sizeLine_eq
  have hl60 := hl.1
  have lineFl : fl (.str (sL l)) := ⟨l, rfl, by omega, fun c hc => by have := (hl.2 c hc).1; omega⟩
  generalize hm : g.length = m
  generalize hg1 : g ++ [Cell.lst [.str (sL l)]] = g1
  have hA1 : AllC g1 := by rw [← hg1]; exact hA.push rfl
  have hlen1 : g1.length = m + 1 := by rw [← hg1, ← hm]; simp
  have hold : ∀ (i : Nat) c, g[i]? = some c → g1[i]? = some c := fun i c h => by rw [← hg1]; exact get_app h
  have hm1 : g1[m]? = some (.lst [.str (sL l)]) := by rw [← hg1, ← hm]; simp
  -- the invariant
  let I : List D → M3.Env → G → Prop := fun xs ρ h => (∃ x6 x7 x10, ρ = [some (.ref p), some (.str (sL l)), x2, x3, x4, x5, x6, x7, none, none, x10]) ∧ AllC h ∧ g1.length ≤ h.length ∧ (∀ (i : Nat) c, g[i]? = some c → h[i]? = some c) ∧
    (∃ ys, h[m]? = some (.lst ys) ∧ (∀ d ∈ ys, fl d) ∧ ys.length + 2 * xs.length ≤ 19) ∧ ∀ v ∈ xs, NoLine v ∧ (fl v ∨ (∃ xs, v = .tup xs ∧ (∀ d ∈ xs, fl d) ∧ xs.length ≤ 50) ∨ v = .dct [] [] ∨ v = .ref m)
  have hfor := for_inv (body := evSs (cf tab L true (n + 3)) [.for_ (.nm 7) .rng1 [.k (.int 2)] [tryB]]) (tg := .nm 6) (w := []) I (fun _ _ _ _ => stands_nil) (by
    intro v xs ρ h hI
    obtain ⟨⟨x6, x7, x10, rfl⟩, a1, a2, a3, ⟨ys, a4, a5, a6⟩, a7⟩ := hI
    obtain ⟨b1, b2⟩ := a7 v (by simp)
    simp only [List.length_cons] at a6
    obtain ⟨h', y7, c1, c2, c3, c4, c5⟩ := kinds_ok (L := L) (n := n) (g := h) (v := v) (x0 := some (.ref p)) (x1 := some (.str (sL l))) (x2 := x2) (x3 := x3) (x4 := x4) (x5 := x5) (x7 := x7) (x8 := none) (x9 := none) (x10 := x10) b1 a1 (by
      rcases b2 with b | b | b | b
      · exact .inl b
      · exact .inr (.inl b)
      · exact .inr (.inr (.inl b))
      · exact .inr (.inr (.inr ⟨m, ys, b, a4, a5, by omega⟩)))
    refine ⟨_, rfl, _, h', .inl c1, ⟨some v, y7, none, rfl⟩, c3, Nat.le_trans a2 c2, ?_, ?_, fun w hw => a7 w (by simp [hw])⟩
    · intro i c hc
      refine c4 i c (a3 i c hc) fun e => ?_
      rcases b2 with b | ⟨_, b, _⟩ | b | b
      · rw [e] at b; exact b
      · rw [e] at b; cases b
      · rw [e] at b; cases b
      · rw [e] at b; injection b with b
        have := lt_of_get hc
        omega
    · by_cases hv : v = .ref m
      · obtain ⟨zs, d1, d2, d3⟩ := c5 m ys hv a4 a5
        exact ⟨zs, d1, d2, by omega⟩
      · exact ⟨ys, c4 m _ a4 hv, a5, by omega⟩) 
  have hI0 : I [.non, .int 0, .bl true, .ref m, .tup [.str (sL l)], .dct [] [], .str (sL (l ++ [10])), .str "\n", .int 1] [some (.ref p), some (.str (sL l)), x2, x3, x4, x5, none, none, none, none, none] g1 := by
    refine ⟨⟨_, _, _, rfl⟩, hA1, Nat.le_refl _, hold, ⟨_, hm1, ?_, by simp⟩, ?_⟩
    · intro d hd; simp at hd; subst hd; exact lineFl
    · intro v hv
      simp only [List.mem_cons, List.not_mem_nil, or_false] at hv
      rcases hv with rfl | rfl | rfl | rfl | rfl | rfl | rfl | rfl | rfl
      · exact ⟨trivial, .inl trivial⟩
      · exact ⟨trivial, .inl ⟨by decide, by decide⟩⟩
      · exact ⟨trivial, .inl trivial⟩
      · exact ⟨trivial, .inr (.inr (.inr rfl))⟩
      · exact ⟨trivial, .inr (.inl ⟨_, rfl, fun d hd => by simp at hd; subst hd; exact lineFl, by simp⟩)⟩
      · exact ⟨trivial, .inr (.inr (.inl rfl))⟩
      · refine ⟨⟨_, rfl, by simp⟩, .inl ⟨_, rfl, by simp; omega, ?_⟩⟩
        intro c hc
        rcases List.mem_append.mp hc with hc | hc
        · have := (hl.2 c hc).1; omega
        · simp at hc; omega
      · exact ⟨⟨[10], l_nl, by simp⟩, .inl ⟨[10], l_nl, by decide, by decide⟩⟩
      · exact ⟨trivial, .inl ⟨by decide, by decide⟩⟩
  obtain ⟨ρ', h', e1, ⟨x6, x7, x10, rfl⟩, a1, a2, a3, _⟩ := hfor _ _ _ hI0
  refine ⟨h', ?_, by omega, a1, a3⟩
  have e1' : M3.forM (evSs (cf tab L true (n + 3)) [.for_ (.nm 7) .rng1 [.k (.int 2)] [tryB]]) (.nm 6) [] [.non, .int 0, .bl true, .ref m, .tup [.str (sL l)], .dct [] [], .str (sL (l ++ [10])), .str (sL [10]), .int 1] [some (.ref p), some (.str (sL l)), x2, x3, x4, x5, none, none, none, none, none] g1 = .nx [some (.ref p), some (.str (sL l)), x2, x3, x4, x5, x6, x7, none, none, x10] h' := by
    rw [← l_nl]; exact e1
  rw [show b20.drop 10 = [.for_ (.nm 6) .seq [.lst false [.k .non, .k (.int 0), .k (.bl true), .lst true [.v 1], .tup [.v 1], .dct false [] [], .op (.add false) [.v 1, .k (.str "\n")], .k (.str "\n"), .k (.int 1)]] [.for_ (.nm 7) .rng1 [.k (.int 2)] [tryB]], .ret (.k (.bl true))] from rfl]
  generalize hB : [MS.for_ (.nm 7) .rng1 [.k (.int 2)] [tryB]] = B at e1'
  kit_pair [l_nl, sL_len, sL_app, hg1, hm, e1']
/-- the law's look at sealed lines -/
theorem seals_ok {p : Nat} {k : Int} {cell : Cell} (hp : g[p]? = some cell) (hb : BoxC k cell) (hk : k ≤ 800000000) (hA : AllC g) :
    ∃ g' cell', callM tab L true (n + 4) 20 [.ref p] g = .ok (.bl true) g' ∧ AllC g' ∧ g.length ≤ g'.length ∧ g'[p]? = some cell' ∧ BoxC (k + 300) cell' := by
  obtain ⟨l, c1, e1, hl, b1⟩ := seals_A (L := L) (n := n) hp hb (by omega) hA
  have hp1 : (g.set p c1)[p]? = some c1 := get_set_eq hp
  have hA1 : AllC (g.set p c1) := hA.set b1.closed
  obtain ⟨a, b, d, c2, e2, b2⟩ := seals_B (L := L) (n := n) hl hp1 b1 (by omega) hA1
  rw [List.set_set] at e2
  have hp2 : (g.set p c2)[p]? = some c2 := get_set_eq hp
  have hA2 : AllC (g.set p c2) := hA.set b2.closed
  obtain ⟨g', e3, h1, h2, h3⟩ := seals_C (L := L) (n := n) (x2 := some (.str (sL (sealL l)))) (x3 := some a) (x4 := some b) (x5 := some d) hl hp2 b2 hA2
  refine ⟨g', c2, ?_, h2, by simpa using h1, h3 p c2 hp2, BoxC.mono (by omega) b2⟩
  have hb20 : b20 = b20.take 4 ++ ((b20.drop 4).take 6 ++ b20.drop 10) := rfl
  rw [show n + 4 = (n + 3) + 1 from rfl, r20, hb20, evSs_append, e1, S.nxt_nx, ssK_eq, evSs_append, e2, S.nxt_nx, ssK_eq, e3, out_rt, fin_f]
end
end K57
namespace K57
open PySem L2 M3 M3.EvM
def sD (l : List Nat) : D := .str (sL l)
/-- a store at s with its list at a -/
structure StAt (g : G) (s a : Nat) (ls : List (List Nat)) (safe : Nat) : Prop where
  ob : g[s]? = some (.ins 0 [("all_lines", .ref a), ("many_safe", .int (safe : Nat))])
  li : g[a]? = some (.lst (ls.map sD))
  le : safe ≤ ls.length
  sh : ls.length ≤ 60
  ln : ∀ l ∈ ls, Ln l
/-- what a deed on a store leaves -/
structure Fr (g g' : G) (s a : Nat) : Prop where
  le : g.length ≤ g'.length
  al : AllC g'
  st : ∀ (i : Nat) c, i ≠ s → i ≠ a → g[i]? = some c → g'[i]? = some c
theorem Fr.trans {g g1 g2 : G} {s a b : Nat} (h : Fr g g1 s a) (h2 : Fr g1 g2 s b) (hb : b = a ∨ g.length ≤ b) : Fr g g2 s a := by
  refine ⟨Nat.le_trans h.le h2.le, h2.al, fun i c h3 h4 h5 => h2.st i c h3 ?_ (h.st i c h3 h4 h5)⟩
  rcases hb with e | hb
  · rw [e]; exact h4
  · have := lt_of_get h5; omega
section
variable {L n : Nat} {c : Bool} {g : G} {s a safe : Nat} {ls : List (List Nat)}
theorem StAt.ne (S : StAt g s a ls safe) : s ≠ a := by
  intro e
  have h1 := S.ob
  rw [e, S.li] at h1
  cases h1
theorem StAt.obj (S : StAt g s a ls safe) : objOf g (.ref s) = some (s, 0, ([("all_lines", .ref a), ("many_safe", .int (safe : Nat))] : List (Str × D))) := objOf_ref S.ob
theorem noRefs_sD (ls : List (List Nat)) : noRefs (ls.map sD) = true := by
  induction ls with
  | nil => rfl
  | cons l r ih => rw [List.map_cons]; show (noRef (sD l) && noRefs (r.map sD)) = true; rw [ih]; rfl
theorem closed_sD {n : Nat} (ls : List (List Nat)) : closedC n (.lst (ls.map sD)) = true := noRefs_closed n _ (noRefs_sD ls)
theorem w_no {d : D} {lo hi : Int} (h : ∀ i, d = .int i → ¬ (lo ≤ i ∧ i ≤ hi)) (hr : ∀ m, d = .ref m → ∃ xs, g[m]? = some (.lst xs)) : callM tab L c (n+1) 0 [d, .int lo, .int hi] g = .ok (.bl false) g := by
  cases d with
  | int i =>
    rw [w_int]
    have := h i rfl
    by_cases h1 : lo ≤ i
    · have h2 : ¬ i ≤ hi := fun h2 => this ⟨h1, h2⟩
      rw [decide_eq_true h1, decide_eq_false h2]; rfl
    · rw [decide_eq_false h1]; rfl
  | ref m =>
    obtain ⟨xs, e⟩ := hr m rfl
    rw [r0]; unfold b0
    kit_pair [is_int_rl e]
  | non => rw [r0]; unfold b0; kit_pair []
  | bl b => rw [r0]; unfold b0; kit_pair []
  | str b => rw [r0]; unfold b0; kit_pair []
  | tup b => rw [r0]; unfold b0; kit_pair []
  | lst b => rw [r0]; unfold b0; kit_pair []
  | dct b b2 => rw [r0]; unfold b0; kit_pair []
theorem w_yes {i lo hi : Int} (h : lo ≤ i) (h2 : i ≤ hi) : callM tab L c (n+1) 0 [.int i, .int lo, .int hi] g = .ok (.bl true) g := by
  rw [w_int, decide_eq_true h, decide_eq_true h2]; rfl
/-! the methods -/
theorem safe_ok (S : StAt g s a ls safe) : callM tab L c (n+1) 7 [.ref s] g = .ok (.int (safe : Nat)) g := by
  rw [r7]; unfold b7
  kit_pair [S.obj, na_safe]
theorem lines_ok (S : StAt g s a ls safe) : callM tab L c (n+1) 6 [.ref s] g = .ok (.ref g.length) (g ++ [Cell.lst (ls.map sD)]) := by
  rw [r6]; unfold b6
  kit_pair [S.obj, na_lines, q_ref S.li]
theorem write_ok {l : List Nat} (S : StAt g s a ls safe) (hA : AllC g) (hl : Ln l) (h : ls.length < 60) : ∃ g', callM tab L c (n+2) 4 [.ref s, sD l] g = .ok .non g' ∧ StAt g' s a (ls ++ [l]) safe ∧ Fr g g' s a := by
  have hz := EvM.sizeLine_eq
  have e : ls.map sD ++ [sD l] = (ls ++ [l]).map sD := by simp
  refine ⟨g.set a (.lst ((ls ++ [l]).map sD)), ?_, ⟨get_set_ne S.ob (Ne.symm S.ne), get_set_eq S.li, by have := S.le; simp; omega, by simp; omega, ?_⟩, ⟨by simp, hA.set (closed_sD _), fun i c h1 h2 h3 => get_set_ne h3 (Ne.symm h2)⟩⟩
  · have t : callM tab L c (n+1) 2 [.str (sL l)] g = .ok .non g := need_ok hl.no (by have := hl.1; omega)
    rw [r4]; unfold b4
    kit_pair [show sD l = .str (sL l) from rfl, t, S.obj, na_lines, r_append S.li, o_append S.li, List.length_map]
    rw [← e]; rfl
  · intro x hx
    rcases List.mem_append.mp hx with hx | hx
    · exact S.ln x hx
    · simp at hx; subst hx; exact hl
theorem sync_ok (S : StAt g s a ls safe) (hA : AllC g) : ∃ g', callM tab L c (n+1) 5 [.ref s] g = .ok .non g' ∧ StAt g' s a ls ls.length ∧ Fr g g' s a := by
  refine ⟨g.set s (.ins 0 [("all_lines", .ref a), ("many_safe", .int (ls.length : Nat))]), ?_, ⟨get_set_eq S.ob, get_set_ne S.li S.ne, Nat.le_refl _, S.sh, S.ln⟩, ⟨by simp, hA.set ?_, fun i c h1 h2 h3 => get_set_ne h3 (Ne.symm h1)⟩⟩
  · rw [r5]; unfold b5
    kit_pair [S.obj, na_lines, o_len_ref S.li, List.length_map, pd_2]
  · have := hA.get S.ob
    simpa [closedC, closedDs, closedD] using this
/-- a new list for a store: its object points at it -/
theorem renew {ls' : List (List Nat)} {safe' : Nat} {g' : G} (S : StAt g s a ls safe) (hA : AllC g) (hg : g' = (g ++ [Cell.lst (ls'.map sD)]).set s (Cell.ins 0 [("all_lines", D.ref g.length), ("many_safe", D.int (safe' : Nat))])) (h1 : safe' ≤ ls'.length) (h2 : ls'.length ≤ 60) (h3 : ∀ l ∈ ls', Ln l) :
    StAt g' s g.length ls' safe' ∧ Fr g g' s a := by
  have hs := lt_of_get S.ob
  subst hg
  refine ⟨⟨get_set_eq (get_app S.ob), get_set_ne get_push (by omega), h1, h2, h3⟩, ⟨by simp, (hA.push (closed_sD _)).set ?_, fun i c h4 h5 h6 => get_set_ne (get_app h6) (Ne.symm h4)⟩⟩
  simp [closedC, closedDs, closedD]
theorem keep_ok {many : Nat} (S : StAt g s a ls safe) (hA : AllC g) (h : many ≤ ls.length) : ∃ g', callM tab L c (n+2) 9 [.ref s, .int (many : Nat)] g = .ok .non g' ∧ StAt g' s g.length (ls.take many) many ∧ Fr g g' s a := by
  have hs := lt_of_get S.ob
  obtain ⟨r1, r2⟩ := renew (ls' := ls.take many) (safe' := many) S hA rfl (by simp; omega) (by have := S.sh; simp; omega) (fun l hl => S.ln l (List.mem_of_mem_take hl))
  refine ⟨_, ?_, r1, r2⟩
  have t : callM tab L c (n+1) 0 [.int (many : Nat), .int 0, .int (ls.length : Nat)] g = .ok (.bl true) g := w_yes (by omega) (by omega)
  have e : cutD (ls.map sD) none (some (many : Int)) = (ls.take many).map sD := by rw [cutD_to (by omega), List.map_take]; rfl
  have o1 : objOf (g ++ [Cell.lst ((ls.take many).map sD)]) (.ref s) = some (s, 0, ([("all_lines", .ref a), ("many_safe", .int (safe : Nat))] : List (Str × D))) := objOf_ref (get_app S.ob)
  have o2 : objOf ((g ++ [Cell.lst ((ls.take many).map sD)]).set s (Cell.ins 0 [("all_lines", D.ref g.length), ("many_safe", D.int (safe : Nat))])) (.ref s) = some (s, 0, ([("all_lines", .ref g.length), ("many_safe", .int (safe : Nat))] : List (Str × D))) := objOf_ref (get_set_eq (get_app S.ob))
  rw [r9]; unfold b9
  kit_pair [S.obj, na_lines, o_len_ref S.li, List.length_map, t, sl_ref S.li, e, o1, pd_3, o2, pd_2, List.set_set]
theorem keep_no {d : D} (S : StAt g s a ls safe) (h : ∀ i, d = .int i → ¬ (0 ≤ i ∧ i ≤ (ls.length : Nat))) (hr : ∀ m, d = .ref m → ∃ xs, g[m]? = some (.lst xs)) : callM tab L true (n+2) 9 [.ref s, d] g = .exc 1 [("found", d)] g := by
  have t : callM tab L true (n+1) 0 [d, .int 0, .int (ls.length : Nat)] g = .ok (.bl false) g := w_no h hr
  rw [r9]; unfold b9
  kit_pair [S.obj, na_lines, o_len_ref S.li, List.length_map, t]
  rfl
theorem unsafe_cut (S : StAt g s a ls safe) : cutD (ls.map sD) (some (safe : Int)) none = (ls.drop safe).map sD := by
  rw [cutD_from (by omega), List.map_drop]; rfl
theorem crash_no1 {d e : D} (S : StAt g s a ls safe) (h : ∀ i, d = .int i → ¬ (0 ≤ i ∧ i ≤ ((ls.length - safe : Nat) : Int))) (hr : ∀ m, d = .ref m → ∃ xs, g[m]? = some (.lst xs)) : callM tab L true (n+2) 8 [.ref s, d, e] g = .exc 1 [("found", d)] g := by
  have t : callM tab L true (n+1) 0 [d, .int 0, .int ((ls.length - safe : Nat) : Int)] g = .ok (.bl false) g := w_no h hr
  rw [r8]; unfold b8
  kit_pair [S.obj, na_lines, na_safe, sl_ref S.li, unsafe_cut S, List.length_map, List.length_drop, t]
  rfl
theorem sum_one (g : G) {calm : Bool} {N : Nat} {ρ : M3.Env} {x0 x1 x2 x3 x4 x5 : Option D} (ts : List (List Nat)) (hs : ∀ t ∈ ts, t.length ≤ 100) (hl : ts.length ≤ 100) :
    compM (cturn (cf tab L calm N) [] (.op .len [.v 5])) (.nm 5) [x0, x1, x2, x3, x4, x5] [] (ts.map sD) [] g = .ok (ts.map fun t => D.int (t.length : Nat)) g := by
  have hz := EvM.sizeLine_eq
  refine comp_map sD _ stands_nil ts (fun y hy => ⟨_, rfl, ?_⟩) (by omega)
  have := hs y hy
  rw [cturn_eq]
  kit_pair [show sD y = .str (sL y) from rfl, sL_len]
/-- the line that is torn -/
def tornL (ls : List (List Nat)) (k : Nat) : List (List Nat) := (ls.drop k).take 1
theorem torn_cut {many : Nat} (ls : List (List Nat)) (safe : Nat) : cutD ((ls.drop safe).map sD) (some (many : Int)) (some ((many : Int) + 1)) = (tornL ls (safe + many)).map sD := by
  rw [cutD_ft (by omega) (by omega), show ((many : Int)).toNat = many by omega, show ((many : Int) + 1).toNat - many = 1 by omega, ← List.map_drop, ← List.map_take, List.drop_drop]
  rfl
theorem torn_len (ls : List (List Nat)) (k : Nat) : (tornL ls k).length = if k < ls.length then 1 else 0 := by
  unfold tornL; simp; split <;> omega
theorem torn_ln (ls : List (List Nat)) (k : Nat) (h : ∀ l ∈ ls, Ln l) : ∀ l ∈ tornL ls k, Ln l := fun l hl => h l (List.mem_of_mem_drop (List.mem_of_mem_take hl))
theorem crash_no2 {many : Nat} {e : D} (S : StAt g s a ls safe) (hm : many ≤ ls.length - safe) (h : ∀ i, e = .int i → ¬ (0 ≤ i ∧ i ≤ ((((tornL ls (safe + many)).map fun t => ((t.length : Nat) : Int)).sum) : Int))) (hr : ∀ m, e = .ref m → ∃ xs, g[m]? = some (.lst xs)) : callM tab L true (n+2) 8 [.ref s, .int (many : Nat), e] g = .exc 1 [("found", e)] g := by
  have t : callM tab L true (n+1) 0 [.int (many : Nat), .int 0, .int ((ls.length - safe : Nat) : Int)] g = .ok (.bl true) g := w_yes (by omega) (by omega)
  have t2 : callM tab L true (n+1) 0 [e, .int 0, .int (((tornL ls (safe + many)).map fun t => ((t.length : Nat) : Int)).sum)] g = .ok (.bl false) g := w_no h hr
  have hs1 := fun x0 x1 x2 x3 x4 x5 => sum_one (L := L) g (calm := true) (N := n + 1) (ρ := []) (x0 := x0) (x1 := x1) (x2 := x2) (x3 := x3) (x4 := x4) (x5 := x5) (tornL ls (safe + many)) (fun t ht => by have := (torn_ln _ _ S.ln t ht).1; omega) (by rw [torn_len]; split <;> omega)
  rw [r8]; unfold b8
  kit_pair [S.obj, na_lines, na_safe, sl_ref S.li, unsafe_cut S, List.length_map, List.length_drop, t, torn_cut, hs1, t2]
  rfl
end
end K57
namespace K57
open PySem L2 M3 M3.EvM
/-- a store's lines behind a crash -/
def crashL (ls : List (List Nat)) (k cut : Nat) : List (List Nat) := ls.take k ++ if 0 < cut then (tornL ls k).map (·.take cut) else []
def tornSum (ls : List (List Nat)) (k : Nat) : Nat := ((tornL ls k).map (·.length)).sum
theorem tornSum_int (ls : List (List Nat)) (k : Nat) : ((tornL ls k).map fun t => ((t.length : Nat) : Int)).sum = (tornSum ls k : Nat) := by
  unfold tornSum
  generalize tornL ls k = ts
  induction ts with
  | nil => rfl
  | cons t r ih => simp only [List.map_cons, List.sum_cons, ih]; omega
theorem tornL_cons {ls : List (List Nat)} {k : Nat} (h : 0 < tornSum ls k) : ∃ t, tornL ls k = [t] ∧ k < ls.length := by
  have h1 := torn_len ls k
  unfold tornSum at h
  cases ht : tornL ls k with
  | nil => rw [ht] at h; simp at h
  | cons t r =>
    rw [ht] at h1
    cases r with
    | nil =>
      refine ⟨t, rfl, ?_⟩
      by_cases hk : k < ls.length
      · exact hk
      · rw [if_neg hk] at h1; simp at h1
    | cons t2 r =>
      exfalso
      simp at h1
      split at h1 <;> omega
theorem crashL_len {ls : List (List Nat)} {k cut : Nat} (hk : k ≤ ls.length) (hc : cut ≤ tornSum ls k) : (crashL ls k cut).length ≤ ls.length := by
  unfold crashL
  by_cases h : 0 < cut
  · obtain ⟨t, e, h2⟩ := tornL_cons (ls := ls) (k := k) (by omega)
    rw [if_pos h, e]; simp; omega
  · rw [if_neg h]; simp; omega
theorem crashL_ln {ls : List (List Nat)} {k cut : Nat} (h : ∀ l ∈ ls, Ln l) : ∀ l ∈ crashL ls k cut, Ln l := by
  intro l hl
  unfold crashL at hl
  rcases List.mem_append.mp hl with hl | hl
  · exact h l (List.mem_of_mem_take hl)
  · split at hl
    · obtain ⟨t, ht, rfl⟩ := List.mem_map.mp hl
      have h1 := torn_ln ls k h t ht
      exact ⟨by have := h1.1; simp; omega, fun c hc => h1.2 c (List.mem_of_mem_take hc)⟩
    · cases hl
section
variable {L n : Nat} {c : Bool} {g : G} {s a safe : Nat} {ls : List (List Nat)}
theorem StAt.of {g' : G} (S : StAt g s a ls safe) (h : g'[s]? = g[s]?) (h2 : g'[a]? = g[a]?) : StAt g' s a ls safe := ⟨by rw [h, S.ob], by rw [h2, S.li], S.le, S.sh, S.ln⟩
theorem crash_ok {many cut : Nat} (S : StAt g s a ls safe) (hA : AllC g) (hm : many ≤ ls.length - safe) (hc : cut ≤ tornSum ls (safe + many)) :
    ∃ g', callM tab L true (n+2) 8 [.ref s, .int (many : Nat), .int (cut : Nat)] g = .ok .non g' ∧ StAt g' s g.length (crashL ls (safe + many) cut) (crashL ls (safe + many) cut).length ∧ Fr g g' s a := by
  have hz := EvM.sizeLine_eq
  have hs := lt_of_get S.ob
  have hsl := S.le
  have hsh := S.sh
  have hcl := crashL_len (ls := ls) (k := safe + many) (cut := cut) (by omega) hc
  obtain ⟨r1, r2⟩ := renew (ls' := crashL ls (safe + many) cut) (safe' := (crashL ls (safe + many) cut).length) S hA rfl (Nat.le_refl _) (by omega) (crashL_ln S.ln)
  refine ⟨_, ?_, r1, r2⟩
  have t : callM tab L true (n+1) 0 [.int (many : Nat), .int 0, .int ((ls.length - safe : Nat) : Int)] g = .ok (.bl true) g := w_yes (by omega) (by omega)
  have t2 : callM tab L true (n+1) 0 [.int (cut : Nat), .int 0, .int (((tornL ls (safe + many)).map fun t => ((t.length : Nat) : Int)).sum)] g = .ok (.bl true) g := by rw [tornSum_int]; exact w_yes (by omega) (by omega)
  have hs1 := fun x0 x1 x2 x3 x4 x5 => sum_one (L := L) g (calm := true) (N := n + 1) (ρ := []) (x0 := x0) (x1 := x1) (x2 := x2) (x3 := x3) (x4 := x4) (x5 := x5) (tornL ls (safe + many)) (fun t ht => by have := (torn_ln _ _ S.ln t ht).1; omega) (by rw [torn_len]; split <;> omega)
  have e : cutD (ls.map sD) none (some ((safe : Int) + (many : Int))) = (ls.take (safe + many)).map sD := by
    rw [cutD_to (by omega), List.map_take, show ((safe : Int) + (many : Int)).toNat = safe + many by omega]
  have o1 : objOf (g ++ [Cell.lst ((ls.take (safe + many)).map sD)]) (.ref s) = some (s, 0, ([("all_lines", .ref a), ("many_safe", .int (safe : Nat))] : List (Str × D))) := objOf_ref (get_app S.ob)
  generalize hg2 : (g ++ [Cell.lst ((ls.take (safe + many)).map sD)]).set s (Cell.ins 0 [("all_lines", D.ref g.length), ("many_safe", D.int (safe : Nat))]) = g2
  have o2 : objOf g2 (.ref s) = some (s, 0, ([("all_lines", .ref g.length), ("many_safe", .int (safe : Nat))] : List (Str × D))) := by rw [← hg2]; exact objOf_ref (get_set_eq (get_app S.ob))
  have l2 : g2[g.length]? = some (Cell.lst ((ls.take (safe + many)).map sD)) := by rw [← hg2]; exact get_set_ne get_push (by omega)
  have hfin : ∀ x : Cell, g2.set s x = (g ++ [Cell.lst ((ls.take (safe + many)).map sD)]).set s x := fun x => by rw [← hg2, List.set_set]
  by_cases h0 : 0 < cut
  · obtain ⟨tt, et, hk⟩ := tornL_cons (ls := ls) (k := safe + many) (by omega)
    have hc0 : (0 : Int) < ((cut : Nat) : Int) := by omega
    have ecr : crashL ls (safe + many) cut = ls.take (safe + many) ++ [tt.take cut] := by unfold crashL; rw [if_pos h0, et]; rfl
    have htt := (torn_ln ls (safe + many) S.ln tt (by rw [et]; simp)).1
    have ec : cutD tt none (some (cut : Int)) = tt.take cut := cutD_to (by omega)
    generalize hg3 : g2.set g.length (Cell.lst ((ls.take (safe + many)).map sD ++ [.str (sL (tt.take cut))])) = g3
    have o3 : objOf g3 (.ref s) = some (s, 0, ([("all_lines", .ref g.length), ("many_safe", .int (safe : Nat))] : List (Str × D))) := by
      rw [← hg3]
      refine objOf_ref (get_set_ne ?_ (by omega))
      rw [← hg2]; exact get_set_eq (get_app S.ob)
    have l3 : g3[g.length]? = some (Cell.lst ((ls.take (safe + many)).map sD ++ [.str (sL (tt.take cut))])) := by rw [← hg3]; exact get_set_eq l2
    have elen : ((ls.take (safe + many)).map sD ++ [D.str (sL (tt.take cut))]).length = (crashL ls (safe + many) cut).length := by rw [ecr]; simp
    have hend : g3.set s (Cell.ins 0 [("all_lines", D.ref g.length), ("many_safe", D.int (((ls.take (safe + many)).map sD ++ [D.str (sL (tt.take cut))]).length : Nat))]) = (g ++ [Cell.lst ((crashL ls (safe + many) cut).map sD)]).set s (Cell.ins 0 [("all_lines", D.ref g.length), ("many_safe", D.int ((crashL ls (safe + many) cut).length : Nat))]) := by
      rw [elen, ← hg3, List.set_comm _ _ (by omega : g.length ≠ s), hfin, ecr, List.set_comm _ _ (by omega : s ≠ g.length)]
      congr 1
      rw [List.set_append_right _ _ (Nat.le_refl _), Nat.sub_self, List.map_append]
      rfl
    simp only [et, List.map_cons, List.map_nil] at hs1 t2
    have sm : ∀ g : G, opM .sum [.lst [.int ((tt.length : Nat) : Int)]] g = .ok (.int [((tt.length : Nat) : Int)].sum) g := fun g => o_sum rfl
    have x4 : ixM g2 (.lst [sD tt]) 0 = some (.str (sL tt)) := by rw [x_lst, atI_0]; rfl
    have hsl4 : (sL tt).length ≤ sizeLine := by rw [sL_len]; omega
    rw [r8]; unfold b8
    kit_pair [S.obj, na_lines, na_safe, sl_ref S.li, unsafe_cut S, List.length_map, List.length_drop, t, torn_cut, et, List.map_cons, List.map_nil, hs1, sm, t2, e, o1, pd_3, hg2, decide_eq_true hc0, o2, r_append l2, et, x4, sL_cut, ec, o_append l2, List.length_take, hg3, o3, o_len_ref l3, pd_2]
    rw [← hend]
  · have hc0 : ¬ (0 : Int) < ((cut : Nat) : Int) := by omega
    have ecr : crashL ls (safe + many) cut = ls.take (safe + many) := by unfold crashL; rw [if_neg h0]; simp
    rw [r8]; unfold b8
    rw [ecr]
    kit_pair [S.obj, na_lines, na_safe, sl_ref S.li, unsafe_cut S, List.length_map, List.length_drop, t, torn_cut, hs1, t2, e, o1, pd_3, hg2, decide_eq_false hc0, o2, o_len_ref l2, pd_2, hfin]
/-- a copy -/
theorem copied_ok (S : StAt g s a ls safe) (hA : AllC g) : ∃ g', callM tab L c (n+2) 10 [.ref s] g = .ok (.ref g.length) g' ∧ StAt g' g.length (g.length + 2) ls safe ∧ g.length ≤ g'.length ∧ AllC g' ∧ ∀ (i : Nat) x, g[i]? = some x → g'[i]? = some x := by
  have ha := lt_of_get S.li
  have hs := lt_of_get S.ob
  have t1 : callM tab L c (n + 1) 3 [.ref g.length] (g ++ [.ins 0 []]) = .ok .non (g ++ [.ins 0 [("all_lines", .ref (g.length + 1)), ("many_safe", .int 0)], .lst []]) := init_ok
  generalize hg1 : g ++ [Cell.ins 0 [("all_lines", D.ref (g.length + 1)), ("many_safe", D.int 0)], Cell.lst []] = g1 at t1
  have len1 : g1.length = g.length + 2 := by rw [← hg1]; simp
  have S1 : StAt g1 s a ls safe := S.of (by rw [← hg1, List.getElem?_append_left hs]) (by rw [← hg1, List.getElem?_append_left ha])
  have q1 : g1[g.length]? = some (Cell.ins 0 [("all_lines", D.ref (g.length + 1)), ("many_safe", D.int 0)]) := by rw [← hg1]; simp
  generalize hg2 : g1 ++ [Cell.lst (ls.map sD)] = g2
  have q2 : g2[g.length]? = some (Cell.ins 0 [("all_lines", D.ref (g.length + 1)), ("many_safe", D.int 0)]) := by rw [← hg2]; exact get_app q1
  have o2 : objOf g2 (.ref g.length) = some (g.length, 0, ([("all_lines", D.ref (g.length + 1)), ("many_safe", D.int 0)] : List (Str × D))) := objOf_ref q2
  generalize hg3 : g2.set g.length (Cell.ins 0 [("all_lines", D.ref (g.length + 2)), ("many_safe", D.int 0)]) = g3
  have o3 : objOf g3 (.ref g.length) = some (g.length, 0, ([("all_lines", D.ref (g.length + 2)), ("many_safe", D.int 0)] : List (Str × D))) := by rw [← hg3]; exact objOf_ref (get_set_eq q2)
  have S3 : StAt g3 s a ls safe := S1.of (by rw [← hg3, List.getElem?_set_ne (by omega), ← hg2, List.getElem?_append_left (by omega)]) (by rw [← hg3, List.getElem?_set_ne (by omega), ← hg2, List.getElem?_append_left (by omega)])
  have hA1 : AllC g1 := by
    have h1 : AllC (g ++ [.ins 0 []]) := hA.push rfl
    have h2 : AllC ((g ++ [.ins 0 []]) ++ [.lst []]) := h1.push rfl
    have h3 := h2.set (n := g.length) (c := .ins 0 [("all_lines", .ref (g.length + 1)), ("many_safe", .int 0)]) (by simp [closedC, closedDs, closedD])
    have e : ((g ++ [Cell.ins 0 []]) ++ [Cell.lst []]).set g.length (.ins 0 [("all_lines", .ref (g.length + 1)), ("many_safe", .int 0)]) = g ++ [.ins 0 [("all_lines", .ref (g.length + 1)), ("many_safe", .int 0)], .lst []] := by
      rw [List.append_assoc]; simp
    rw [e, hg1] at h3
    exact h3
  have hA2 : AllC g2 := by rw [← hg2]; exact hA1.push (closed_sD _)
  have len2 : g2.length = g.length + 3 := by rw [← hg2]; simp [len1]
  refine ⟨g2.set g.length (Cell.ins 0 [("all_lines", D.ref (g.length + 2)), ("many_safe", D.int (safe : Nat))]), ?_, ⟨get_set_eq q2, get_set_ne (by rw [← hg2, ← len1]; exact get_push) (by omega), S.le, S.sh, S.ln⟩, by simp; omega, hA2.set (by rw [len2]; simp [closedC, closedDs, closedD]), ?_⟩
  · rw [r10]; unfold b10
    kit_pair [t1, S1.obj, na_lines, q_ref S1.li, hg2, len1, o2, pd_3, hg3, S3.obj, na_safe, o3, pd_2]
    rw [← hg3, List.set_set]
  · intro i x hx
    have hi := lt_of_get hx
    refine get_set_ne ?_ (by omega)
    rw [← hg2]
    refine get_app ?_
    rw [← hg1]
    exact get_app hx
theorem sm_lines {g : G} {x : D} {xs : List (List Nat)} (h : ∀ l ∈ xs, Ln l) (hl : xs.length ≤ 60) (hx : x = .lst (xs.map sD) ∨ ∃ m, x = .ref m ∧ g[m]? = some (.lst (xs.map sD))) : Sm g 2 x (.lst (xs.map sD)) := by
  have hz := EvM.sizeLine_eq
  refine .inr ⟨xs.map sD, xs.map sD, .inr ⟨rfl, hx⟩, rfl, by simp; omega, ?_⟩
  intro i u v h1 h2
  rw [h1] at h2
  injection h2 with h2
  subst h2
  obtain ⟨l, hl2, e⟩ := List.mem_map.mp (List.mem_of_getElem? h1)
  subst e
  refine .inl ⟨rfl, rfl, fun s hs => ?_⟩
  have : sL l = s := by injection hs
  rw [← this, sL_len]
  have := (h l hl2).1
  omega
/-- the law's look at a store -/
theorem shown_ok (S : StAt g s a ls safe) : callM tab L true (n+3) 21 [.ref s, .lst (ls.map sD), .int (safe : Nat)] g = .ok (.bl true) g := by
  have hz := EvM.sizeLine_eq
  have ha := lt_of_get S.li
  have hs := lt_of_get S.ob
  have hsh := S.sh
  have t1 : callM tab L true (n+2) 6 [.ref s] g = .ok (.ref g.length) (g ++ [.lst (ls.map sD)]) := lines_ok S
  generalize hg1 : g ++ [Cell.lst (ls.map sD)] = g1 at t1
  have l1 : g1[g.length]? = some (.lst (ls.map sD)) := by rw [← hg1]; exact get_push
  have S1 : StAt g1 s a ls safe := S.of (by rw [← hg1, List.getElem?_append_left hs]) (by rw [← hg1, List.getElem?_append_left ha])
  have t2 : callM tab L true (n+2) 16 [.ref g.length, .lst (ls.map sD)] g1 = .ok (.bl true) g1 := same16 (sm_lines S.ln S.sh (.inr ⟨_, rfl, l1⟩))
  have t3 : callM tab L true (n+2) 7 [.ref s] g1 = .ok (.int (safe : Nat)) g1 := safe_ok S1
  have t4 : callM tab L true (n+2) 16 [.int (safe : Nat), .int (safe : Nat)] g1 = .ok (.bl true) g1 := same16 (n := n + 1) (k := 1) (sm_flat rfl fun s hs => by cases hs)
  generalize hg2 : g1.set g.length (Cell.lst (.str "more" :: ls.map sD)) = g2
  have S2 : StAt g2 s a ls safe := S1.of (by rw [← hg2, List.getElem?_set_ne (by omega)]) (by rw [← hg2, List.getElem?_set_ne (by omega)])
  have t5 : callM tab L true (n+2) 6 [.ref s] g2 = .ok (.ref g2.length) (g2 ++ [.lst (ls.map sD)]) := lines_ok S2
  have l3 : (g2 ++ [Cell.lst (ls.map sD)])[g2.length]? = some (.lst (ls.map sD)) := get_push
  have t6 : callM tab L true (n+2) 16 [.ref g2.length, .lst (ls.map sD)] (g2 ++ [.lst (ls.map sD)]) = .ok (.bl true) (g2 ++ [.lst (ls.map sD)]) := same16 (sm_lines S.ln S.sh (.inr ⟨_, rfl, l3⟩))
  have hend : finZ true g (.bl true) (g2 ++ [.lst (ls.map sD)]) = .ok (.bl true) g := by
    refine fin_same ?_ (frz_pure rfl)
    rw [← hg2, ← hg1]
    rw [List.take_append_of_le_length (by simp)]
    rw [List.take_set_of_le (Nat.le_refl _)]
    simp
  rw [r21]; unfold b21
  kit_pair [S.obj, nm_lines, t1, t2, S1.obj, nm_safe, t3, t4, r_insert l1, o_insert l1, List.length_map, hg2, S2.obj, t5, t6, hend]
end
end K57
namespace K57
open PySem L2 M3 M3.EvM
/-- what may be refused: flat, a tuple, an empty dict, a list that stands behind base -/
def Vv (base top : Nat) (v : D) : Prop := fl v ∨ (∃ xs, v = .tup xs ∧ (∀ d ∈ xs, fl d) ∧ xs.length ≤ 50) ∨ v = .dct [] [] ∨ ∃ m, v = .ref m ∧ base ≤ m ∧ m < top
theorem Vv.mono {base top top2 : Nat} {v : D} (h : top ≤ top2) : Vv base top v → Vv base top2 v
  | .inl a => .inl a
  | .inr (.inl a) => .inr (.inl a)
  | .inr (.inr (.inl a)) => .inr (.inr (.inl a))
  | .inr (.inr (.inr ⟨m, e, a, b⟩)) => .inr (.inr (.inr ⟨m, e, a, by omega⟩))
inductive AskOk (ls : List (List Nat)) (safe base top : Nat) : D → Prop
  | a1 {v} : Vv base top v → (∀ i, v = .int i → ¬ (0 ≤ i ∧ i ≤ ((ls.length - safe : Nat) : Int))) → AskOk ls safe base top (.lst [.int 0, .lst [v, .int (-5)], .int 0])
  | a2 {v} {many : Nat} : Vv base top v → many ≤ ls.length - safe → (∀ i, v = .int i → ¬ (0 ≤ i ∧ i ≤ ((tornSum ls (safe + many) : Nat) : Int))) → AskOk ls safe base top (.lst [.int 0, .lst [.int (many : Nat), v], .int 1])
  | a3 {v} : Vv base top v → (∀ i, v = .int i → ¬ (0 ≤ i ∧ i ≤ ((ls.length : Nat) : Int))) → AskOk ls safe base top (.lst [.int 1, .lst [v], .int 0])
theorem AskOk.mono {ls : List (List Nat)} {safe base top top2 : Nat} {d : D} (h : top ≤ top2) : AskOk ls safe base top d → AskOk ls safe base top2 d
  | .a1 a b => .a1 (a.mono h) b
  | .a2 a b c => .a2 (a.mono h) b c
  | .a3 a b => .a3 (a.mono h) b
/-- the lists behind base are small ones -/
def Tl (g : G) (base t : Nat) : Prop := ∀ m, base ≤ m → m < g.length → ∃ xs : List D, g[m]? = some (.lst xs) ∧ (∀ d ∈ xs, fl d) ∧ xs.length ≤ 1 + t
theorem Tl.mono {g : G} {base t u : Nat} (h : t ≤ u) (T : Tl g base t) : Tl g base u := fun m h1 h2 => let ⟨xs, a, b, c⟩ := T m h1 h2; ⟨xs, a, b, by omega⟩
theorem Tl.push {g : G} {base t : Nat} {d : D} (T : Tl g base t) (hd : fl d) : Tl (g ++ [.lst [d]]) base t := by
  intro m h1 h2
  simp at h2
  by_cases e : m = g.length
  · subst e
    exact ⟨[d], get_push, fun x hx => by simp at hx; subst hx; exact hd, by simp⟩
  · obtain ⟨xs, a, b, c⟩ := T m h1 (by omega)
    exact ⟨xs, get_app a, b, c⟩
section
variable {L n : Nat} {g : G} {s a safe : Nat} {ls : List (List Nat)}
theorem vv_ref {base top t : Nat} {v : D} (T : Tl g base t) (ht : top ≤ g.length) (h : Vv base top v) : ∀ m, v = .ref m → ∃ xs, g[m]? = some (.lst xs) := by
  intro m e
  rcases h with h | ⟨xs, h, _⟩ | h | ⟨k, h, h1, h2⟩
  · rw [e] at h; exact h.elim
  · rw [e] at h; cases h
  · rw [e] at h; cases h
  · rw [e] at h; injection h with h; subst h
    obtain ⟨xs, x, _⟩ := T m h1 (by omega)
    exact ⟨xs, x⟩
theorem vv_rv {base top t : Nat} {v : D} (T : Tl g base t) (ht : top ≤ g.length) (h60 : t ≤ 800) (h : Vv base top v) : Rv g v := by
  rcases h with h | ⟨xs, rfl, h1, h2⟩ | rfl | ⟨k, rfl, h1, h2⟩
  · exact .fl h
  · exact .tup h1 h2
  · exact .dct
  · obtain ⟨xs, x, y, z⟩ := T k h1 (by omega)
    exact .ref x y (by omega)
/-- a refused deed -/
theorem refused_of {kind : Int} {args : List D} {v : D} (hx : evSs (cf tab L true (n + 2)) [.ite (.op .eq [.v 1, .k (.int 0)]) [.ex (.meth 0 8 "crash" (.v 0) [] [.op .ix [.v 2, .k (.int 0)], .op .ix [.v 2, .k (.int 1)]] [.inl 0, .inl 1, .inl 2])] [.ex (.meth 0 9 "keep" (.v 0) [.op .ix [.v 2, .k (.int 0)]] [] [.inl 0, .inl 1])]] [some (.ref s), some (.int kind), some (.lst args), none] g = .exc 1 [("found", v)] [some (.ref s), some (.int kind), some (.lst args), none] g) :
    callM tab L true (n+3) 22 [.ref s, .int kind, .lst args] g = .ok (.lst [.str "number", v]) g := by
  rw [r22]; unfold b22
  rw [EvM.ss_cons, EvM.s_try, hx, cf_calm, grdS_of rfl]
  rw [caught_exc (j := 0) (o := some 3) (suite := [.ret (.lst false [.k (.str "number"), .efld 3 "found"])]) (by decide) rfl rfl rfl rfl]
  have e : evSs (hf tab L (n + 2) 1 [("found", v)]) [.ret (.lst false [.k (.str "number"), .efld 3 "found"])] [some (.ref s), some (.int kind), some (.lst args), none] g = .rt (.lst [.str "number", v]) g := by
    kit_pair [na_found]
  show out false g (((((evSs (hf tab L (n + 2) 1 [("found", v)]) _ [some (.ref s), some (.int kind), some (.lst args), none] g).nox).gone (some 3))).nxt _) = _
  rw [e]
  rfl
theorem ask_ok {base top t : Nat} {q : D} (S : StAt g s a ls safe) (T : Tl g base t) (ht : top ≤ g.length) (h : AskOk ls safe base top q) :
    ∃ kind args at' v, q = .lst [.int kind, .lst args, .int at'] ∧ callM tab L true (n+3) 22 [.ref s, .int kind, .lst args] g = .ok (.lst [.str "number", v]) g ∧ atI args at' = some v ∧ Vv base top v := by
  cases h with
  | @a1 v h1 h2 =>
    refine ⟨0, [v, .int (-5)], 0, v, rfl, ?_, atI_0, h1⟩
    have t1 : callM tab L true (n + 2) 8 [.ref s, v, .int (-5)] g = .exc 1 [("found", v)] g := crash_no1 S h2 (vv_ref T ht h1)
    refine refused_of ?_
    kit_pair [S.obj, nm_crash, t1, beq_self_eq_true]
  | @a2 v many h1 hm h2 =>
    refine ⟨0, [.int (many : Nat), v], 1, v, rfl, ?_, atI_1, h1⟩
    have t1 : callM tab L true (n + 2) 8 [.ref s, .int (many : Nat), v] g = .exc 1 [("found", v)] g := crash_no2 S hm (fun i e => by rw [tornSum_int]; exact h2 i e) (vv_ref T ht h1)
    refine refused_of ?_
    kit_pair [S.obj, nm_crash, t1, beq_self_eq_true]
  | @a3 v h1 h2 =>
    refine ⟨1, [v], 0, v, rfl, ?_, atI_0, h1⟩
    have t1 : callM tab L true (n + 2) 9 [.ref s, v] g = .exc 1 [("found", v)] g := keep_no S h2 (vv_ref T ht h1)
    have e1 : ((1 : Int) == 0) = false := rfl
    refine refused_of ?_
    kit_pair [S.obj, nm_keep, t1, e1]
def askB : List MS := [.asg 10 (.call 22 [.v 0, .v 6, .v 7] [] [.inl 0, .inl 1, .inl 2]), .ite (.or (.op .ne [.op .ix [.v 10, .k (.int 0)], .k (.str "number")]) (.op .ne [.call 17 [.op .ix [.v 7, .v 8]] [] [.inl 0], .op .repr [.op .ix [.v 10, .k (.int 1)]]])) [.ret (.k (.bl false))] []]
/-- one of the asks -/
theorem asked_ok {base top t : Nat} {q : D} {x1 x2 x3 x4 x5 x6 x7 x8 x9 x10 x11 : Option D} (S : StAt g s a ls safe) (hA : AllC g) (T : Tl g base t) (ht : top ≤ g.length) (h800 : t ≤ 800) (hsb : s < base) (hab : a < base) (h : AskOk ls safe base top q) :
    ∃ ρ' y6 y7 y8 y10 g', bindT g (.tp [6, 7, 8]) q [some (.ref s), x1, x2, x3, x4, x5, x6, x7, x8, x9, x10, x11] = some ρ' ∧ evSs (cf tab L true (n + 3)) askB ρ' g = .nx [some (.ref s), x1, x2, x3, x4, x5, y6, y7, y8, x9, y10, x11] g' ∧
      StAt g' s a ls safe ∧ AllC g' ∧ Tl g' base (t + 1) ∧ g'.length = g.length := by
  obtain ⟨kind, args, at', v, rfl, t1, t2, hv⟩ := ask_ok (L := L) (n := n) S T ht h
  obtain ⟨sh, g', t3, t4, t5⟩ := grown_ok (L := L) (n := n + 1) (c := true) (vv_rv T ht h800 hv)
  have t3' : callM tab L true (n + 3) 17 [v] g = .ok (.str sh) g' := t3
  refine ⟨_, some (.int kind), some (.lst args), some (.int at'), some (.lst [.str "number", v]), g', rfl, ?_, ?_⟩
  · have e : assignT [6, 7, 8] [.int kind, .lst args, .int at'] [some (.ref s), x1, x2, x3, x4, x5, x6, x7, x8, x9, x10, x11] = [some (.ref s), x1, x2, x3, x4, x5, some (.int kind), some (.lst args), some (.int at'), x9, x10, x11] := rfl
    rw [e]
    unfold askB
    kit_pair [t1, beq_self_eq_true, t2, t3', t4]
  · rcases t5 with rfl | ⟨m, xs, rfl, h1, rfl⟩
    · exact ⟨S, hA, T.mono (by omega), rfl⟩
    · obtain ⟨h2, h3⟩ : base ≤ m ∧ m < top := by
        rcases hv with h | ⟨xs, h, _⟩ | h | ⟨k, h, h1, h2⟩
        · exact h.elim
        · cases h
        · cases h
        · injection h with h; subst h; exact ⟨h1, h2⟩
      refine ⟨S.of (List.getElem?_set_ne (by omega)) (List.getElem?_set_ne (by omega)), hA.set ?_, ?_, by simp⟩
      · have := hA.get h1
        show closedDs g.length (xs ++ [.str "more"]) = true
        exact closedDs_app this rfl
      · intro k hk hk2
        simp at hk2
        by_cases e : m = k
        · subst e
          obtain ⟨ys, b1, b2, b3⟩ := T m hk hk2
          rw [h1] at b1
          injection b1 with b1
          injection b1 with b1
          subst b1
          refine ⟨xs ++ [.str "more"], get_set_eq h1, ?_, by simp; omega⟩
          intro d hd
          rcases List.mem_append.mp hd with hd | hd
          · exact b2 d hd
          · simp at hd; subst hd; exact more_fl
        · obtain ⟨ys, b1, b2, b3⟩ := T k hk hk2
          exact ⟨ys, get_set_ne b1 e, b2, by omega⟩
theorem asks_ok {base top : Nat} (hsb : s < base) (hab : a < base) {x1 x2 x3 x4 x5 x9 : Option D} : ∀ (qs : List D) (g : G) (t : Nat) (x6 x7 x8 x10 x11 : Option D), StAt g s a ls safe → AllC g → Tl g base t → top ≤ g.length → t + qs.length ≤ 800 → (∀ q ∈ qs, AskOk ls safe base top q) →
    ∃ y6 y7 y8 y10 g', M3.forM (evSs (cf tab L true (n + 3)) askB) (.tp [6, 7, 8]) [] qs [some (.ref s), x1, x2, x3, x4, x5, x6, x7, x8, x9, x10, x11] g = .nx [some (.ref s), x1, x2, x3, x4, x5, y6, y7, y8, x9, y10, x11] g' ∧ StAt g' s a ls safe ∧ AllC g' ∧ g'.length = g.length
  | [], g, t, x6, x7, x8, x10, x11, S, hA, T, ht, h8, hq => ⟨x6, x7, x8, x10, g, by simp [M3.forM, stands_nil], S, hA, rfl⟩
  | q :: qs, g, t, x6, x7, x8, x10, x11, S, hA, T, ht, h8, hq => by
    simp only [List.length_cons] at h8
    obtain ⟨ρ', y6, y7, y8, y10, g', h1, h2, S', hA', T', hl⟩ := asked_ok (L := L) (n := n) (x1 := x1) (x2 := x2) (x3 := x3) (x4 := x4) (x5 := x5) (x6 := x6) (x7 := x7) (x8 := x8) (x9 := x9) (x10 := x10) (x11 := x11) S hA T ht (by omega) hsb hab (hq q (by simp))
    obtain ⟨z6, z7, z8, z10, g2, h3, S2, hA2, hl2⟩ := asks_ok hsb hab (x1 := x1) (x2 := x2) (x3 := x3) (x4 := x4) (x5 := x5) (x9 := x9) qs g' (t + 1) y6 y7 y8 y10 x11 S' hA' T' (by omega) (by omega) (fun q hq2 => hq q (by simp [hq2]))
    refine ⟨z6, z7, z8, z10, g2, ?_, S2, hA2, by omega⟩
    unfold M3.forM
    rw [if_pos stands_nil, h1]
    simp only []
    rw [h2, M3.S.turn_nx]
    exact h3
end
end K57
namespace K57
open PySem L2 M3 M3.EvM
theorem tornSum_in {ls : List (List Nat)} {k : Nat} {l : List Nat} (h : ls[k]? = some l) : tornSum ls k = l.length := by
  obtain ⟨hk, e⟩ := List.getElem?_eq_some_iff.mp h
  unfold tornSum tornL
  rw [List.drop_eq_getElem_cons hk, e]; simp
theorem tornSum_out {ls : List (List Nat)} {k : Nat} (h : ls.length ≤ k) : tornSum ls k = 0 := by
  unfold tornSum tornL
  rw [List.drop_of_length_le h]; rfl
section
variable {L n : Nat} {g : G} {s a safe : Nat} {ls : List (List Nat)}
theorem comp_each {f : M3.Env → G → R (Option D)} {tg ρ} {g : G} (h : D → D) (xs : List D) (hf : ∀ x ∈ xs, ∃ ρ', bindT g tg x ρ = some ρ' ∧ f ρ' g = .ok (some (h x)) g) (hl : xs.length ≤ 1000) : compM f tg ρ [] xs [] g = .ok (xs.map h) g := by
  have := comp_map (v := fun x : D => x) h stands_nil xs hf (by have := EvM.sizeLine_eq; omega)
  rwa [List.map_id'] at this
theorem comp1 (g : G) {x0 x1 x2 x3 x4 x5 x6 x7 x8 x9 x10 x11 : Option D} (xs : List D) (hl : xs.length ≤ 100) : compM (cturn (cf tab L true n) [] (.lst false [.k (.int 0), .lst false [.v 11, .op .neg [.k (.int 5)]], .k (.int 0)])) (.nm 11) [x0, x1, x2, x3, x4, x5, x6, x7, x8, x9, x10, x11] [] xs [] g = .ok (xs.map fun v => .lst [.int 0, .lst [v, .int (-5)], .int 0]) g := by
  refine comp_each _ xs (fun x hx => ⟨_, rfl, ?_⟩) (by omega)
  rw [cturn_eq]
  kit_pair []
theorem comp2 (g : G) {m : D} {x0 x1 x2 x3 x4 x6 x7 x8 x9 x10 x11 : Option D} (xs : List D) (hl : xs.length ≤ 100) : compM (cturn (cf tab L true n) [] (.lst false [.k (.int 0), .lst false [.v 5, .v 11], .k (.int 1)])) (.nm 11) [x0, x1, x2, x3, x4, some m, x6, x7, x8, x9, x10, x11] [] xs [] g = .ok (xs.map fun v => .lst [.int 0, .lst [m, v], .int 1]) g := by
  refine comp_each _ xs (fun x hx => ⟨_, rfl, ?_⟩) (by omega)
  rw [cturn_eq]
  kit_pair []
theorem comp3 (g : G) {x0 x1 x2 x3 x4 x5 x6 x7 x8 x9 x10 x11 : Option D} (xs : List D) (hl : xs.length ≤ 100) : compM (cturn (cf tab L true n) [] (.lst false [.k (.int 1), .lst false [.v 11], .k (.int 0)])) (.nm 11) [x0, x1, x2, x3, x4, x5, x6, x7, x8, x9, x10, x11] [] xs [] g = .ok (xs.map fun v => .lst [.int 1, .lst [v], .int 0]) g := by
  refine comp_each _ xs (fun x hx => ⟨_, rfl, ?_⟩) (by omega)
  rw [cturn_eq]
  kit_pair []
theorem fl_int {i : Int} (h : -1000000 < i) (h2 : i < 1000000) : fl (.int i) := ⟨h, h2⟩
theorem fl_zero : fl (.str "0") := ⟨[48], l_zero, by decide, by decide⟩
theorem fl_one : fl (.str "1") := ⟨[49], by decide +kernel, by decide, by decide⟩
def manyB : List MS := [.asg 9 (.ife (.op .lt [.v 5, .v 3]) (.op .len [.op .ix [.v 1, .op (.add false) [.v 2, .v 5]]]) (.k (.int 0))), .asg 4 (.op (.add false) [.v 4, .comp false [11] .seq [.lst false [.op (.add false) [.v 9, .k (.int 1)], .op .neg [.k (.int 1)], .k .non, .k (.bl true), .k (.str "0"), .lst true [.k (.int 1)]]] (.nm 11) [] (.lst false [.k (.int 0), .lst false [.v 5, .v 11], .k (.int 1)])])]
theorem many_ok {k : Nat} {asks : List D} {x6 x7 x8 x9 x10 x11 : Option D} (S : StAt g s a ls safe) (hk : k ≤ ls.length - safe) (hla : asks.length ≤ 900) :
    ∃ y9, evSs (cf tab L true n) manyB [some (.ref s), some (.lst (ls.map sD)), some (.int (safe : Nat)), some (.int ((ls.length - safe : Nat) : Int)), some (.lst asks), some (.int (0 + (k : Int))), x6, x7, x8, x9, x10, x11] g = .nx [some (.ref s), some (.lst (ls.map sD)), some (.int (safe : Nat)), some (.int ((ls.length - safe : Nat) : Int)), some (.lst (asks ++ ([.int ((tornSum ls (safe + k) : Nat) + 1), .int (-1), .non, .bl true, .str "0", .ref g.length] : List D).map fun v => .lst [.int 0, .lst [.int (0 + (k : Int)), v], .int 1])), some (.int (0 + (k : Int))), x6, x7, x8, y9, x10, x11] (g ++ [.lst [.int 1]]) := by
  have hz := EvM.sizeLine_eq
  have hsl := S.le
  have hsh := S.sh
  refine ⟨some (.int (tornSum ls (safe + k) : Nat)), ?_⟩
  have e1 : evE (cf tab L true n) (.ife (.op .lt [.v 5, .v 3]) (.op .len [.op .ix [.v 1, .op (.add false) [.v 2, .v 5]]]) (.k (.int 0))) [some (.ref s), some (.lst (ls.map sD)), some (.int (safe : Nat)), some (.int ((ls.length - safe : Nat) : Int)), some (.lst asks), some (.int (0 + (k : Int))), x6, x7, x8, x9, x10, x11] g = .ok (.int (tornSum ls (safe + k) : Nat)) g := by
    by_cases h : k < ls.length - safe
    · have hd : (0 + (k : Int)) < ((ls.length - safe : Nat) : Int) := by omega
      obtain ⟨l, hl⟩ : ∃ l, ls[safe + k]? = some l := ⟨_, List.getElem?_eq_getElem (by omega)⟩
      have ea : atI (ls.map sD) ((safe : Int) + (0 + (k : Int))) = some (.str (sL l)) := by
        rw [atI_of (by omega) (by simp; omega), show ((safe : Int) + (0 + (k : Int))).toNat = safe + k by omega]
        simp [hl]; rfl
      have hll := (S.ln l (List.mem_of_getElem? hl)).1
      rw [tornSum_in hl]
      kit_pair [decide_eq_true hd, ea, sL_len]
    · have hd : ¬ (0 + (k : Int)) < ((ls.length - safe : Nat) : Int) := by omega
      rw [tornSum_out (by omega)]
      kit_pair [decide_eq_false hd]
      rfl
  have hc := fun g' => comp2 (L := L) (n := n) g' (m := .int (0 + (k : Int))) (x0 := some (.ref s)) (x1 := some (.lst (ls.map sD))) (x2 := some (.int (safe : Nat))) (x3 := some (.int ((ls.length - safe : Nat) : Int))) (x4 := some (.lst asks)) (x6 := x6) (x7 := x7) (x8 := x8) (x9 := some (.int (tornSum ls (safe + k) : Nat))) (x10 := x10) (x11 := none) [.int ((tornSum ls (safe + k) : Nat) + 1), .int (-1), .non, .bl true, .str "0", .ref g.length] (by simp)
  unfold manyB
  rw [EvM.ss_cons, EvM.s_asg, e1]
  kit_pair [hc, List.length_map, List.map_cons, List.map_nil]
theorem manys_ok {base : Nat} (hsb : s < base) (hab : a < base) {x6 x7 x8 x10 x11 : Option D} : ∀ (ks : List Nat) (g : G) (asks : List D) (x5 x9 : Option D), StAt g s a ls safe → AllC g → Tl g base 0 → base ≤ g.length → asks.length + 6 * ks.length ≤ 800 → (∀ k ∈ ks, k ≤ ls.length - safe) → (∀ q ∈ asks, AskOk ls safe base g.length q) →
    ∃ y5 y9 asks' g', M3.forM (evSs (cf tab L true n) manyB) (.nm 5) [] (ks.map fun (k : Nat) => D.int (0 + (k : Int))) [some (.ref s), some (.lst (ls.map sD)), some (.int (safe : Nat)), some (.int ((ls.length - safe : Nat) : Int)), some (.lst asks), x5, x6, x7, x8, x9, x10, x11] g = .nx [some (.ref s), some (.lst (ls.map sD)), some (.int (safe : Nat)), some (.int ((ls.length - safe : Nat) : Int)), some (.lst asks'), y5, x6, x7, x8, y9, x10, x11] g' ∧
      StAt g' s a ls safe ∧ AllC g' ∧ Tl g' base 0 ∧ g.length ≤ g'.length ∧ asks'.length ≤ asks.length + 6 * ks.length ∧ (∀ q ∈ asks', AskOk ls safe base g'.length q)
  | [], g, asks, x5, x9, S, hA, T, hb, hl, hk, hq => ⟨x5, x9, asks, g, by simp [M3.forM, stands_nil], S, hA, T, Nat.le_refl _, by simp, hq⟩
  | k :: ks, g, asks, x5, x9, S, hA, T, hb, hl, hk, hq => by
    simp only [List.length_cons] at hl
    have hsh := S.sh
    have hT60 : tornSum ls (safe + k) ≤ 60 := by
      by_cases h : safe + k < ls.length
      · obtain ⟨l, hl⟩ : ∃ l, ls[safe + k]? = some l := ⟨_, List.getElem?_eq_getElem h⟩
        rw [tornSum_in hl]; exact (S.ln l (List.mem_of_getElem? hl)).1
      · rw [tornSum_out (by omega)]; omega
    obtain ⟨y9, e1⟩ := many_ok (L := L) (n := n) (x6 := x6) (x7 := x7) (x8 := x8) (x9 := x9) (x10 := x10) (x11 := x11) (asks := asks) S (hk k (by simp)) (by omega)
    have S1 : StAt (g ++ [.lst [.int 1]]) s a ls safe := S.of (List.getElem?_append_left (lt_of_get S.ob)) (List.getElem?_append_left (lt_of_get S.li))
    have hA1 : AllC (g ++ [.lst [.int 1]]) := hA.push rfl
    have T1 : Tl (g ++ [.lst [.int 1]]) base 0 := T.push (fl_int (by decide) (by decide))
    have hlen1 : (g ++ [Cell.lst [.int 1]]).length = g.length + 1 := by simp
    obtain ⟨y5, z9, asks', g', e2, S2, hA2, T2, h3, h4, h5⟩ := manys_ok hsb hab (x6 := x6) (x7 := x7) (x8 := x8) (x10 := x10) (x11 := x11) ks (g ++ [.lst [.int 1]]) (asks ++ ([.int ((tornSum ls (safe + k) : Nat) + 1), .int (-1), .non, .bl true, .str "0", .ref g.length] : List D).map fun v => .lst [.int 0, .lst [.int (0 + (k : Int)), v], .int 1]) (some (.int (0 + (k : Int)))) y9 S1 hA1 T1 (by omega) (by simp; omega) (fun j hj => hk j (by simp [hj])) (by
      intro q hq2
      rcases List.mem_append.mp hq2 with hq2 | hq2
      · exact (hq q hq2).mono (by omega)
      · obtain ⟨v, hv, rfl⟩ := List.mem_map.mp hq2
        rw [show (0 + (k : Int)) = ((k : Nat) : Int) by omega]
        have hm := hk k (by simp)
        simp only [List.mem_cons, List.not_mem_nil, or_false] at hv
        rcases hv with rfl | rfl | rfl | rfl | rfl | rfl
        · exact .a2 (.inl (fl_int (by omega) (by omega))) hm (fun i e => by injection e with e; omega)
        · exact .a2 (.inl (fl_int (by decide) (by decide))) hm (fun i e => by injection e with e; omega)
        · exact .a2 (.inl trivial) hm (fun i e => by cases e)
        · exact .a2 (.inl trivial) hm (fun i e => by cases e)
        · exact .a2 (.inl fl_zero) hm (fun i e => by cases e)
        · exact .a2 (.inr (.inr (.inr ⟨_, rfl, hb, by omega⟩))) hm (fun i e => by cases e))
    refine ⟨y5, z9, asks', g', ?_, S2, hA2, T2, by omega, by simp at h4 ⊢; omega, h5⟩
    rw [List.map_cons]
    unfold M3.forM
    rw [if_pos stands_nil]
    show (M3.S.turn (evSs (cf tab L true n) manyB [some (.ref s), some (.lst (ls.map sD)), some (.int (safe : Nat)), some (.int ((ls.length - safe : Nat) : Int)), some (.lst asks), some (.int (0 + (k : Int))), x6, x7, x8, x9, x10, x11] g) _) = _
    rw [e1, M3.S.turn_nx]
    exact e2
theorem refusals_ok (S : StAt g s a ls safe) (hA : AllC g) : ∃ g', callM tab L true (n+4) 23 [.ref s, .lst (ls.map sD), .int (safe : Nat)] g = .ok (.bl true) g' ∧ AllC g' ∧ g.length ≤ g'.length := by
  have hz := EvM.sizeLine_eq
  have hsl := S.le
  have hsh := S.sh
  have hs := lt_of_get S.ob
  have ha := lt_of_get S.li
  -- the first asks
  have S1 : StAt (g ++ [.lst [.int 0]]) s a ls safe := S.of (List.getElem?_append_left hs) (List.getElem?_append_left ha)
  have hA1 : AllC (g ++ [.lst [.int 0]]) := hA.push rfl
  have T0 : Tl g g.length 0 := fun m h1 h2 => absurd h2 (by omega)
  have T1 : Tl (g ++ [.lst [.int 0]]) g.length 0 := T0.push (fl_int (by decide) (by decide))
  have hlen1 : (g ++ [Cell.lst [.int 0]]).length = g.length + 1 := by simp
  generalize hv1 : ([.int (-1), .int (((ls.length - safe : Nat) : Int) + 1), .non, .bl true, .bl false, .str "0", .ref g.length, .tup [.int 0], .dct [] []] : List D) = v1
  have h1 : ∀ q ∈ v1.map (fun v => D.lst [.int 0, .lst [v, .int (-5)], .int 0]), AskOk ls safe g.length (g ++ [Cell.lst [.int 0]]).length q := by
    intro q hq
    obtain ⟨v, hv, rfl⟩ := List.mem_map.mp hq
    rw [← hv1] at hv
    simp only [List.mem_cons, List.not_mem_nil, or_false] at hv
    rcases hv with rfl | rfl | rfl | rfl | rfl | rfl | rfl | rfl | rfl
    · exact .a1 (.inl (fl_int (by decide) (by decide))) (fun i e => by injection e with e; omega)
    · exact .a1 (.inl (fl_int (by omega) (by omega))) (fun i e => by injection e with e; omega)
    · exact .a1 (.inl trivial) (fun i e => by cases e)
    · exact .a1 (.inl trivial) (fun i e => by cases e)
    · exact .a1 (.inl trivial) (fun i e => by cases e)
    · exact .a1 (.inl fl_zero) (fun i e => by cases e)
    · exact .a1 (.inr (.inr (.inr ⟨_, rfl, Nat.le_refl _, by omega⟩))) (fun i e => by cases e)
    · exact .a1 (.inr (.inl ⟨_, rfl, fun d hd => by simp at hd; subst hd; exact fl_int (by decide) (by decide), by decide⟩)) (fun i e => by cases e)
    · exact .a1 (.inr (.inr (.inl rfl))) (fun i e => by cases e)
  have lv1 : v1.length = 9 := by rw [← hv1]; rfl
  -- those of each number
  obtain ⟨y5, y9, as2, g2, e2, S2, hA2, T2, h2, h3, h4⟩ := manys_ok (L := L) (n := n + 3) (base := g.length) hs ha (x6 := none) (x7 := none) (x8 := none) (x10 := none) (x11 := none) (List.range (((ls.length - safe : Nat) : Int) + 1).toNat) (g ++ [.lst [.int 0]]) (v1.map fun v => .lst [.int 0, .lst [v, .int (-5)], .int 0]) none none S1 hA1 T1 (by omega) (by simp; omega) (fun k hk => by have := List.mem_range.mp hk; omega) h1
  -- the last ones
  have S3 : StAt (g2 ++ [.lst [.int 0]]) s a ls safe := S2.of (List.getElem?_append_left (lt_of_get S2.ob)) (List.getElem?_append_left (lt_of_get S2.li))
  have hA3 : AllC (g2 ++ [.lst [.int 0]]) := hA2.push rfl
  have T3 : Tl (g2 ++ [.lst [.int 0]]) g.length 0 := T2.push (fl_int (by decide) (by decide))
  have hlen3 : (g2 ++ [Cell.lst [.int 0]]).length = g2.length + 1 := by simp
  generalize hv3 : ([.int (-1), .int (((ls.length : Nat) : Int) + 1), .non, .bl true, .bl false, .str "1", .ref g2.length, .tup [.int 0]] : List D) = v3
  have h5 : ∀ q ∈ v3.map (fun v => D.lst [.int 1, .lst [v], .int 0]), AskOk ls safe g.length (g2 ++ [Cell.lst [.int 0]]).length q := by
    intro q hq
    obtain ⟨v, hv, rfl⟩ := List.mem_map.mp hq
    rw [← hv3] at hv
    simp only [List.mem_cons, List.not_mem_nil, or_false] at hv
    rcases hv with rfl | rfl | rfl | rfl | rfl | rfl | rfl | rfl
    · exact .a3 (.inl (fl_int (by decide) (by decide))) (fun i e => by injection e with e; omega)
    · exact .a3 (.inl (fl_int (by omega) (by omega))) (fun i e => by injection e with e; omega)
    · exact .a3 (.inl trivial) (fun i e => by cases e)
    · exact .a3 (.inl trivial) (fun i e => by cases e)
    · exact .a3 (.inl trivial) (fun i e => by cases e)
    · exact .a3 (.inl fl_one) (fun i e => by cases e)
    · exact .a3 (.inr (.inr (.inr ⟨_, rfl, by omega, by omega⟩))) (fun i e => by cases e)
    · exact .a3 (.inr (.inl ⟨_, rfl, fun d hd => by simp at hd; subst hd; exact fl_int (by decide) (by decide), by decide⟩)) (fun i e => by cases e)
  have lv3 : v3.length = 8 := by rw [← hv3]; rfl
  have hr : (List.range (((ls.length - safe : Nat) : Int) + 1).toNat).length ≤ 61 := by simp; omega
  simp only [List.length_map, lv1] at h3
  obtain ⟨y6, y7, y8, y10, g4, e4, S4, hA4, hl4⟩ := asks_ok (L := L) (n := n) (base := g.length) (top := (g2 ++ [Cell.lst [.int 0]]).length) hs ha (x1 := some (.lst (ls.map sD))) (x2 := some (.int (safe : Nat))) (x3 := some (.int ((ls.length - safe : Nat) : Int))) (x4 := some (.lst (as2 ++ v3.map fun v => .lst [.int 1, .lst [v], .int 0]))) (x5 := y5) (x9 := y9) (as2 ++ v3.map fun v => .lst [.int 1, .lst [v], .int 0]) (g2 ++ [.lst [.int 0]]) 0 none none none none none S3 hA3 T3 (Nat.le_refl _) (by rw [List.length_append, List.length_map, lv3]; omega) (by
    intro q hq
    rcases List.mem_append.mp hq with hq | hq
    · exact (h4 q hq).mono (by omega)
    · exact h5 q hq)
  have t5 : callM tab L true (n + 3) 21 [.ref s, .lst (ls.map sD), .int (safe : Nat)] g4 = .ok (.bl true) g4 := shown_ok S4
  refine ⟨g4, ?_, hA4, by omega⟩
  have c1 := comp1 (L := L) (n := n + 3) (g ++ [.lst [.int 0]]) (x0 := some (.ref s)) (x1 := some (.lst (ls.map sD))) (x2 := some (.int (safe : Nat))) (x3 := some (.int ((ls.length - safe : Nat) : Int))) (x4 := none) (x5 := none) (x6 := none) (x7 := none) (x8 := none) (x9 := none) (x10 := none) (x11 := none) v1 (by omega)
  have c3 := comp3 (L := L) (n := n + 3) (g2 ++ [.lst [.int 0]]) (x0 := some (.ref s)) (x1 := some (.lst (ls.map sD))) (x2 := some (.int (safe : Nat))) (x3 := some (.int ((ls.length - safe : Nat) : Int))) (x4 := some (.lst as2)) (x5 := y5) (x6 := none) (x7 := none) (x8 := none) (x9 := y9) (x10 := none) (x11 := none) v3 (by omega)
  have e0 : ((ls.length : Nat) : Int) - ((safe : Nat) : Int) = ((ls.length - safe : Nat) : Int) := by omega
  have hb : b23 = [.asg 3 (.op .sub [.op .len [.v 1], .v 2]), .asg 4 (.comp false [11] .seq [.lst false [.op .neg [.k (.int 1)], .op (.add false) [.v 3, .k (.int 1)], .k .non, .k (.bl true), .k (.bl false), .k (.str "0"), .lst true [.k (.int 0)], .tup [.k (.int 0)], .dct false [] []]] (.nm 11) [] (.lst false [.k (.int 0), .lst false [.v 11, .op .neg [.k (.int 5)]], .k (.int 0)])), .for_ (.nm 5) .rng1 [.op (.add false) [.v 3, .k (.int 1)]] manyB, .asg 4 (.op (.add false) [.v 4, .comp false [11] .seq [.lst false [.op .neg [.k (.int 1)], .op (.add false) [.op .len [.v 1], .k (.int 1)], .k .non, .k (.bl true), .k (.bl false), .k (.str "1"), .lst true [.k (.int 0)], .tup [.k (.int 0)]]] (.nm 11) [] (.lst false [.k (.int 1), .lst false [.v 11], .k (.int 0)])]), .for_ (.tp [6, 7, 8]) .seq [.v 4] askB, .ret (.call 21 [.v 0, .v 1, .v 2] [] [.inl 0, .inl 1, .inl 2])] := rfl
  rw [show n + 4 = (n + 3) + 1 from rfl, r23, hb]
  have w1 : ∀ g, evEs (cf tab L true (n + 3)) [.lst false [.op .neg [.k (.int 1)], .op (.add false) [.v 3, .k (.int 1)], .k .non, .k (.bl true), .k (.bl false), .k (.str "0"), .lst true [.k (.int 0)], .tup [.k (.int 0)], .dct false [] []]] [some (.ref s), some (.lst (ls.map sD)), some (.int (safe : Nat)), some (.int ((ls.length - safe : Nat) : Int)), none, none, none, none, none, none, none, none] g = .ok [.lst [.int (-1), .int (((ls.length - safe : Nat) : Int) + 1), .non, .bl true, .bl false, .str "0", .ref g.length, .tup [.int 0], .dct [] []]] (g ++ [.lst [.int 0]]) := fun g => by
    kit_pair []
  have w3 : ∀ g x4 x5 x9, evEs (cf tab L true (n + 3)) [.lst false [.op .neg [.k (.int 1)], .op (.add false) [.op .len [.v 1], .k (.int 1)], .k .non, .k (.bl true), .k (.bl false), .k (.str "1"), .lst true [.k (.int 0)], .tup [.k (.int 0)]]] [some (.ref s), some (.lst (ls.map sD)), some (.int (safe : Nat)), some (.int ((ls.length - safe : Nat) : Int)), x4, x5, none, none, none, x9, none, none] g = .ok [.lst [.int (-1), .int (((ls.length : Nat) : Int) + 1), .non, .bl true, .bl false, .str "1", .ref g.length, .tup [.int 0]]] (g ++ [.lst [.int 0]]) := fun g x4 x5 x9 => by
    kit_pair [List.length_map]
  have w1' := w1 g
  rw [hv1] at w1'
  have w3' := w3 g2 (some (.lst as2)) y5 y9
  rw [hv3] at w3'
  have hla2 : as2.length ≤ 400 := by omega
  have s0 : evS (cf tab L true (n + 3)) (.asg 3 (.op .sub [.op .len [.v 1], .v 2])) [some (.ref s), some (.lst (ls.map sD)), some (.int (safe : Nat)), none, none, none, none, none, none, none, none, none] g = .nx [some (.ref s), some (.lst (ls.map sD)), some (.int (safe : Nat)), some (.int ((ls.length - safe : Nat) : Int)), none, none, none, none, none, none, none, none] g := by
    kit_pair [List.length_map, e0]
  rw [EvM.ss_cons, s0, M3.S.nxt_nx, ssK_eq]
  have s1 : evS (cf tab L true (n + 3)) (.asg 4 (.comp false [11] .seq [.lst false [.op .neg [.k (.int 1)], .op (.add false) [.v 3, .k (.int 1)], .k .non, .k (.bl true), .k (.bl false), .k (.str "0"), .lst true [.k (.int 0)], .tup [.k (.int 0)], .dct false [] []]] (.nm 11) [] (.lst false [.k (.int 0), .lst false [.v 11, .op .neg [.k (.int 5)]], .k (.int 0)]))) [some (.ref s), some (.lst (ls.map sD)), some (.int (safe : Nat)), some (.int ((ls.length - safe : Nat) : Int)), none, none, none, none, none, none, none, none] g = .nx [some (.ref s), some (.lst (ls.map sD)), some (.int (safe : Nat)), some (.int ((ls.length - safe : Nat) : Int)), some (.lst (v1.map fun v => .lst [.int 0, .lst [v, .int (-5)], .int 0])), none, none, none, none, none, none, none] (g ++ [.lst [.int 0]]) := by
    rw [EvM.s_asg, EvM.e_comp, cf_calm, grd_of rfl, w1', M3.R.bind_ok, cpK_eq, sr_lst, got_some, cpK2_eq]
    kit_pair [c1]
  rw [EvM.ss_cons, s1, M3.S.nxt_nx, ssK_eq]
  have s2 : evS (cf tab L true (n + 3)) (.for_ (.nm 5) .rng1 [.op (.add false) [.v 3, .k (.int 1)]] manyB) [some (.ref s), some (.lst (ls.map sD)), some (.int (safe : Nat)), some (.int ((ls.length - safe : Nat) : Int)), some (.lst (v1.map fun v => .lst [.int 0, .lst [v, .int (-5)], .int 0])), none, none, none, none, none, none, none] (g ++ [.lst [.int 0]]) = .nx [some (.ref s), some (.lst (ls.map sD)), some (.int (safe : Nat)), some (.int ((ls.length - safe : Nat) : Int)), some (.lst as2), y5, none, none, none, y9, none, none] g2 := by
    kit_pair [sr_rng1, e2]
  rw [EvM.ss_cons, s2, M3.S.nxt_nx, ssK_eq]
  have s3 : evS (cf tab L true (n + 3)) (.asg 4 (.op (.add false) [.v 4, .comp false [11] .seq [.lst false [.op .neg [.k (.int 1)], .op (.add false) [.op .len [.v 1], .k (.int 1)], .k .non, .k (.bl true), .k (.bl false), .k (.str "1"), .lst true [.k (.int 0)], .tup [.k (.int 0)]]] (.nm 11) [] (.lst false [.k (.int 1), .lst false [.v 11], .k (.int 0)])])) [some (.ref s), some (.lst (ls.map sD)), some (.int (safe : Nat)), some (.int ((ls.length - safe : Nat) : Int)), some (.lst as2), y5, none, none, none, y9, none, none] g2 = .nx [some (.ref s), some (.lst (ls.map sD)), some (.int (safe : Nat)), some (.int ((ls.length - safe : Nat) : Int)), some (.lst (as2 ++ v3.map fun v => .lst [.int 1, .lst [v], .int 0])), y5, none, none, none, y9, none, none] (g2 ++ [.lst [.int 0]]) := by
    have ec : evE (cf tab L true (n + 3)) (.comp false [11] .seq [.lst false [.op .neg [.k (.int 1)], .op (.add false) [.op .len [.v 1], .k (.int 1)], .k .non, .k (.bl true), .k (.bl false), .k (.str "1"), .lst true [.k (.int 0)], .tup [.k (.int 0)]]] (.nm 11) [] (.lst false [.k (.int 1), .lst false [.v 11], .k (.int 0)])) [some (.ref s), some (.lst (ls.map sD)), some (.int (safe : Nat)), some (.int ((ls.length - safe : Nat) : Int)), some (.lst as2), y5, none, none, none, y9, none, none] g2 = .ok (.lst (v3.map fun v => .lst [.int 1, .lst [v], .int 0])) (g2 ++ [.lst [.int 0]]) := by
      rw [EvM.e_comp, cf_calm, grd_of rfl, w3', M3.R.bind_ok, cpK_eq, sr_lst, got_some, cpK2_eq]
      kit_pair [c3]
    rw [EvM.s_asg, EvM.e_op, EvM.es_cons, EvM.e_v]
    simp only [List.getElem?_cons_succ, List.getElem?_cons_zero, EvM.getV_some, M3.R.bind_ok, EvM.esK_eq]
    rw [EvM.es_cons, ec]
    kit_pair [List.length_map]
  rw [EvM.ss_cons, s3, M3.S.nxt_nx, ssK_eq]
  have s4 : evS (cf tab L true (n + 3)) (.for_ (.tp [6, 7, 8]) .seq [.v 4] askB) [some (.ref s), some (.lst (ls.map sD)), some (.int (safe : Nat)), some (.int ((ls.length - safe : Nat) : Int)), some (.lst (as2 ++ v3.map fun v => .lst [.int 1, .lst [v], .int 0])), y5, none, none, none, y9, none, none] (g2 ++ [.lst [.int 0]]) = .nx [some (.ref s), some (.lst (ls.map sD)), some (.int (safe : Nat)), some (.int ((ls.length - safe : Nat) : Int)), some (.lst (as2 ++ v3.map fun v => .lst [.int 1, .lst [v], .int 0])), y5, y6, y7, y8, y9, y10, none] g4 := by
    kit_pair [e4]
  rw [EvM.ss_cons, s4, M3.S.nxt_nx, ssK_eq]
  kit_pair [t5]
end
end K57
namespace K57
open PySem L2 M3 M3.EvM
/-- what stands between two turns -/
structure Tn (g : G) (p s a : Nat) (ls : List (List Nat)) (safe : Nat) (k : Int) : Prop where
  st : StAt g s a ls safe
  bx : ∃ cell, g[p]? = some cell ∧ BoxC k cell
  al : AllC g
  ps : p ≠ s
  pa : p ≠ a
section
variable {L n : Nat} {g : G} {p s a safe : Nat} {ls : List (List Nat)} {k : Int}
theorem Tn.box {cell : Cell} {j : Int} (T : Tn g p s a ls safe k) (hb : BoxC j cell) : Tn (g.set p cell) p s a ls safe j := by
  obtain ⟨c0, h0, _⟩ := T.bx
  exact ⟨T.st.of (List.getElem?_set_ne T.ps) (List.getElem?_set_ne T.pa), ⟨cell, get_set_eq h0, hb⟩, T.al.set hb.closed, T.ps, T.pa⟩
theorem Tn.deed {g' : G} {b safe' : Nat} {ls' : List (List Nat)} (T : Tn g p s a ls safe k) (S' : StAt g' s b ls' safe') (F : Fr g g' s a) (hb : b = a ∨ b = g.length) : Tn g' p s b ls' safe' k := by
  obtain ⟨c0, h0, h1⟩ := T.bx
  have hp := lt_of_get h0
  refine ⟨S', ⟨c0, F.st p c0 T.ps T.pa h0, h1⟩, F.al, T.ps, ?_⟩
  rcases hb with e | e
  · rw [e]; exact T.pa
  · omega
/-- a draw -/
theorem Tn.take {c : Bool} {many : Int} (T : Tn g p s a ls safe k) (hk : k ≤ 1000000000) (hm : 0 < many) (hm2 : many < 1000000) : ∃ d g', callM tab L c (n + 1) 15 [.ref p, .int many] g = .ok (.int d) g' ∧ 0 ≤ d ∧ d < many ∧ Tn g' p s a ls safe (k + 1) := by
  obtain ⟨c0, h0, h1⟩ := T.bx
  obtain ⟨d, c1, e, h2, h3, h4⟩ := take15 (L := L) (n := n) (c := c) h0 h1 (by omega) hm (by omega)
  exact ⟨d, _, e, h2, h3, T.box h4⟩
theorem Tn.mono {j : Int} (T : Tn g p s a ls safe k) (h : k ≤ j) : Tn g p s a ls safe j := by
  obtain ⟨c0, h0, h1⟩ := T.bx
  exact ⟨T.st, ⟨c0, h0, h1.mono h⟩, T.al, T.ps, T.pa⟩
def wayA : List MS := [.asg 7 (.call 18 [.v 0] [] [.inl 0]), .asg 2 (.op (.add false) [.v 2, .lst false [.v 7]]), .asg 8 (.ife (.op .lt [.v 5, .k (.int 3)]) (.meth 0 4 "write" (.v 1) [.v 7] [] [.inl 0, .inl 1]) (.meth 0 4 "write" (.v 1) [] [.v 7] [.inl 0, .inl 1]))]
def wayB : List MS := [.par [3, 8] [.op .len [.v 2], .meth 0 5 "sync" (.v 1) [] [] [.inl 0]]]
def wayC : List MS := [.asg 9 (.meth 0 10 "copied" (.v 1) [] [] [.inl 0]), .ite (.not (.call 21 [.v 9, .v 2, .v 3] [] [.inl 0, .inl 1, .inl 2])) [.ret (.k (.bl false))] [], .ex (.meth 0 4 "write" (.v 9) [.k (.str "apart")] [] [.inl 0, .inl 1]), .ex (.meth 0 5 "sync" (.v 9) [] [] [.inl 0]), .ex (.meth 0 9 "keep" (.v 9) [.k (.int 0)] [] [.inl 0, .inl 1]), .asg 8 (.k .non)]
def wayD : List MS := [.asg 10 (.call 15 [.v 0, .op (.add false) [.op .len [.v 2], .k (.int 1)]] [] [.inl 0, .inl 1]), .par [2, 3, 8] [.sl false (.v 2) none (some (.v 10)), .v 10, .meth 0 9 "keep" (.v 1) [] [.v 10] [.inl 0, .inl 1]]]
def wayE : List MS := [.asg 10 (.call 15 [.v 0, .op (.add false) [.v 6, .k (.int 1)]] [] [.inl 0, .inl 1]), .asg 11 (.sl false (.v 2) (some (.op (.add false) [.v 3, .v 10])) (some (.op (.add false) [.op (.add false) [.v 3, .v 10], .k (.int 1)]))), .asg 12 (.op .ix [.lst false [.k (.int 0), .op .len [.bm .join (.k (.str "")) [.v 11]], .call 15 [.v 0, .op (.add false) [.op .len [.bm .join (.k (.str "")) [.v 11]], .k (.int 1)]] [] [.inl 0, .inl 1]], .call 15 [.v 0, .k (.int 3)] [] [.inl 0, .inl 1]]), .asg 8 (.ife (.op .eq [.v 5, .k (.int 7)]) (.meth 0 8 "crash" (.v 1) [.v 10, .v 12] [] [.inl 0, .inl 1, .inl 2]) (.meth 0 8 "crash" (.v 1) [] [.v 12, .v 10] [.inl 0, .inl 2, .inl 1])), .asg 2 (.op (.add false) [.sl false (.v 2) none (some (.op (.add false) [.v 3, .v 10])), .ife (.op .gt [.v 12, .k (.int 0)]) (.lst false [.sl false (.op .ix [.v 11, .k (.int 0)]) none (some (.v 12))]) (.lst false [])]), .asg 3 (.op .len [.v 2])]
/-- what a way leaves -/
def Way (L n : Nat) (g : G) (p s a safe : Nat) (ls : List (List Nat)) (k : Int) (ws : List MS) (way : Int) : Prop := ∀ (x4 x7 x8 x9 x10 x11 x12 : Option D),
  ∃ y7 y9 y10 y11 y12 g' b ls' safe', evSs (cf tab L true (n + 3)) ws [some (.ref p), some (.ref s), some (.lst (ls.map sD)), some (.int (safe : Nat)), x4, some (.int way), some (.int ((ls.length - safe : Nat) : Int)), x7, x8, x9, x10, x11, x12] g = .nx [some (.ref p), some (.ref s), some (.lst (ls'.map sD)), some (.int (safe' : Nat)), x4, some (.int way), some (.int ((ls.length - safe : Nat) : Int)), y7, some .non, y9, y10, y11, y12] g' ∧
    Tn g' p s b ls' safe' (k + 200) ∧ ls'.length ≤ ls.length + 1 ∧ g.length ≤ g'.length
theorem way_A {way : Int} (T : Tn g p s a ls safe k) (hk : k ≤ 900000000) (hl : ls.length < 50) : Way L n g p s a safe ls k wayA way := by
  intro x4 x7 x8 x9 x10 x11 x12
  have hz := EvM.sizeLine_eq
  obtain ⟨c0, h0, h1⟩ := T.bx
  obtain ⟨l, c1, t1, hln, b1⟩ := line_ok (L := L) (n := n + 1) h0 h1 (by omega) T.al
  have t1' : callM tab L true (n + 3) 18 [.ref p] g = .ok (.str (sL l)) (g.set p c1) := t1
  have T1 := T.box b1
  obtain ⟨g', t2, S2, F2⟩ := write_ok (L := L) (n := n + 1) (c := true) T1.st T1.al hln (by omega)
  have t2' : callM tab L true (n + 3) 4 [.ref s, .str (sL l)] (g.set p c1) = .ok .non g' := t2
  have e : ls.map sD ++ [.str (sL l)] = (ls ++ [l]).map sD := by rw [List.map_append]; rfl
  refine ⟨some (.str (sL l)), x9, x10, x11, x12, g', a, ls ++ [l], safe, ?_, (T1.deed S2 F2 (.inl rfl)).mono (by omega), by simp, by have := F2.le; simpa using this⟩
  unfold wayA
  by_cases h3 : way < 3
  · kit_pair [t1', List.length_map, decide_eq_true h3, T1.st.obj, nm_write, t2', e]
  · kit_pair [t1', List.length_map, decide_eq_false h3, T1.st.obj, nm_write, t2', e]
theorem way_B {way : Int} (T : Tn g p s a ls safe k) : Way L n g p s a safe ls k wayB way := by
  intro x4 x7 x8 x9 x10 x11 x12
  obtain ⟨g', t1, S1, F1⟩ := sync_ok (L := L) (n := n + 2) (c := true) T.st T.al
  have t1' : callM tab L true (n + 3) 5 [.ref s] g = .ok .non g' := t1
  refine ⟨x7, x9, x10, x11, x12, g', a, ls, ls.length, ?_, (T.deed S1 F1 (.inl rfl)).mono (by omega), by omega, F1.le⟩
  unfold wayB
  kit_pair [List.length_map, T.st.obj, nm_sync, t1']
theorem way_C {way : Int} (T : Tn g p s a ls safe k) (hl : ls.length < 50) : Way L n g p s a safe ls k wayC way := by
  intro x4 x7 x8 x9 x10 x11 x12
  obtain ⟨c0, h0, h1⟩ := T.bx
  have hp := lt_of_get h0
  have hs := lt_of_get T.st.ob
  have ha := lt_of_get T.st.li
  obtain ⟨g1, t1, S1, l1, A1, K1⟩ := copied_ok (L := L) (n := n + 1) (c := true) T.st T.al
  have t1' : callM tab L true (n + 3) 10 [.ref s] g = .ok (.ref g.length) g1 := t1
  have t2 : callM tab L true (n + 3) 21 [.ref g.length, .lst (ls.map sD), .int (safe : Nat)] g1 = .ok (.bl true) g1 := shown_ok S1
  have apart : ("apart" : Str) = sL [97, 112, 97, 114, 116] := by decide +kernel
  obtain ⟨g2, t3, S2, F2⟩ := write_ok (L := L) (n := n + 1) (c := true) (l := [97, 112, 97, 114, 116]) S1 A1 ⟨by decide, by decide⟩ (by omega)
  have t3' : callM tab L true (n + 3) 4 [.ref g.length, .str (sL [97, 112, 97, 114, 116])] g1 = .ok .non g2 := t3
  obtain ⟨g3, t4, S3, F3⟩ := sync_ok (L := L) (n := n + 2) (c := true) S2 F2.al
  have t4' : callM tab L true (n + 3) 5 [.ref g.length] g2 = .ok .non g3 := t4
  obtain ⟨g4, t5, S4, F4⟩ := keep_ok (L := L) (n := n + 1) (c := true) (many := 0) S3 F3.al (by omega)
  have t5' : callM tab L true (n + 3) 9 [.ref g.length, .int 0] g3 = .ok .non g4 := t5
  have old : ∀ (i : Nat) x, g[i]? = some x → g4[i]? = some x := by
    intro i x hx
    have hi := lt_of_get hx
    exact F4.st i x (by omega) (by omega) (F3.st i x (by omega) (by omega) (F2.st i x (by omega) (by omega) (K1 i x hx)))
  refine ⟨x7, some (.ref g.length), x10, x11, x12, g4, a, ls, safe, ?_, ⟨⟨old s _ T.st.ob, old a _ T.st.li, T.st.le, T.st.sh, T.st.ln⟩, ⟨c0, old p _ h0, h1.mono (by omega)⟩, F4.al, T.ps, T.pa⟩, by omega, Nat.le_trans l1 (Nat.le_trans F2.le (Nat.le_trans F3.le F4.le))⟩
  unfold wayC
  kit_pair [T.st.obj, nm_copied, t1', t2, S1.obj, nm_write, apart, t3', S2.obj, nm_sync, t4', S3.obj, nm_keep, t5']
theorem way_D {way : Int} (T : Tn g p s a ls safe k) (hk : k ≤ 900000000) (hl : ls.length < 50) : Way L n g p s a safe ls k wayD way := by
  intro x4 x7 x8 x9 x10 x11 x12
  obtain ⟨d, g1, t1, h1, h2, T1⟩ := T.take (L := L) (n := n + 2) (c := true) (many := (ls.length : Nat) + 1) (by omega) (by omega) (by omega)
  have t1' : callM tab L true (n + 3) 15 [.ref p, .int ((ls.length : Nat) + 1)] g = .ok (.int d) g1 := t1
  obtain ⟨m, rfl⟩ : ∃ m : Nat, d = (m : Int) := ⟨d.toNat, by omega⟩
  obtain ⟨g2, t2, S2, F2⟩ := keep_ok (L := L) (n := n + 1) (c := true) (many := m) T1.st T1.al (by omega)
  have t2' : callM tab L true (n + 3) 9 [.ref s, .int (m : Nat)] g1 = .ok .non g2 := t2
  have e : cutD (ls.map sD) none (some (m : Int)) = (ls.take m).map sD := by rw [cutD_to (by omega), List.map_take]; rfl
  have hg1 : g.length ≤ g1.length := by
    obtain ⟨c0, h0, h3⟩ := T.bx
    obtain ⟨dd, c1, e1, _⟩ := take15 (L := L) (n := n + 2) (c := true) (many := (ls.length : Nat) + 1) h0 h3 (by omega) (by omega) (by omega)
    rw [show n + 2 + 1 = n + 3 from rfl, t1'] at e1
    injection e1 with _ e1
    rw [e1]; simp
  refine ⟨x7, x9, some (.int (m : Nat)), x11, x12, g2, g1.length, ls.take m, m, ?_, (T1.deed S2 F2 (.inr rfl)).mono (by omega), by simp; omega, Nat.le_trans hg1 F2.le⟩
  unfold wayD
  kit_pair [List.length_map, t1', e, T1.st.obj, nm_keep, t2']
theorem way_E {way : Int} (T : Tn g p s a ls safe k) (hk : k ≤ 900000000) (hl : ls.length < 50) : Way L n g p s a safe ls k wayE way := by
  intro x4 x7 x8 x9 x10 x11 x12
  have hz := EvM.sizeLine_eq
  have hsl := T.st.le
  have grow : ∀ {g g1 : G} {k : Int} {m d : Int} (T : Tn g p s a ls safe k), k ≤ 1000000000 → 0 < m → m < 1000000 → callM tab L true (n + 3) 15 [.ref p, .int m] g = .ok (.int d) g1 → g.length ≤ g1.length := by
    intro g g1 k m d T hk hm hm2 h
    obtain ⟨c0, h0, h3⟩ := T.bx
    obtain ⟨dd, c1, e1, _⟩ := take15 (L := L) (n := n + 2) (c := true) (many := m) h0 h3 (by omega) hm (by omega)
    rw [show n + 2 + 1 = n + 3 from rfl, h] at e1
    injection e1 with _ e1
    rw [e1]; simp
  obtain ⟨d, g1, t1, h1, h2, T1⟩ := T.take (L := L) (n := n + 2) (c := true) (many := ((ls.length - safe : Nat) : Int) + 1) (by omega) (by omega) (by omega)
  have t1' : callM tab L true (n + 3) 15 [.ref p, .int (((ls.length - safe : Nat) : Int) + 1)] g = .ok (.int d) g1 := t1
  have l1 := grow T (by omega) (by omega) (by omega) t1'
  obtain ⟨m, rfl⟩ : ∃ m : Nat, d = (m : Int) := ⟨d.toNat, by omega⟩
  have hT60 : tornSum ls (safe + m) ≤ 60 := by
    by_cases h : safe + m < ls.length
    · obtain ⟨l, hl⟩ : ∃ l, ls[safe + m]? = some l := ⟨_, List.getElem?_eq_getElem h⟩
      rw [tornSum_in hl]; exact (T.st.ln l (List.mem_of_getElem? hl)).1
    · rw [tornSum_out (by omega)]; omega
  obtain ⟨d2, g2, t2, h3, h4, T2⟩ := T1.take (L := L) (n := n + 2) (c := true) (many := ((tornSum ls (safe + m) : Nat) : Int) + 1) (by omega) (by omega) (by omega)
  have t2' : callM tab L true (n + 3) 15 [.ref p, .int (((tornSum ls (safe + m) : Nat) : Int) + 1)] g1 = .ok (.int d2) g2 := t2
  have l2 := grow T1 (by omega) (by omega) (by omega) t2'
  obtain ⟨d3, g3, t3, h5, h6, T3⟩ := T2.take (L := L) (n := n + 2) (c := true) (many := 3) (by omega) (by decide) (by decide)
  have t3' : callM tab L true (n + 3) 15 [.ref p, .int 3] g2 = .ok (.int d3) g3 := t3
  have l3 := grow T2 (by omega) (by omega) (by omega) t3'
  obtain ⟨cut, hx, hcut⟩ : ∃ cut : Nat, atI [D.int 0, .int ((tornSum ls (safe + m) : Nat) : Int), .int d2] d3 = some (.int (cut : Nat)) ∧ cut ≤ tornSum ls (safe + m) := by
    have : d3 = 0 ∨ d3 = 1 ∨ d3 = 2 := by omega
    rcases this with e | e | e <;> subst e
    · exact ⟨0, rfl, by omega⟩
    · exact ⟨_, rfl, Nat.le_refl _⟩
    · exact ⟨d2.toNat, by rw [show ((d2.toNat : Nat) : Int) = d2 by omega]; rfl, by omega⟩
  obtain ⟨g4, t4, S4, F4⟩ := crash_ok (L := L) (n := n + 1) (many := m) (cut := cut) T3.st T3.al (by omega) hcut
  have t4' : callM tab L true (n + 3) 8 [.ref s, .int (m : Nat), .int (cut : Nat)] g3 = .ok .non g4 := t4
  have hcl := crashL_len (ls := ls) (k := safe + m) (cut := cut) (by omega) hcut
  refine ⟨x7, x9, some (.int (m : Nat)), some (.lst ((tornL ls (safe + m)).map sD)), some (.int (cut : Nat)), g4, g3.length, crashL ls (safe + m) cut, (crashL ls (safe + m) cut).length, ?_, (T3.deed S4 F4 (.inr rfl)).mono (by omega), by omega, Nat.le_trans l1 (Nat.le_trans l2 (Nat.le_trans l3 F4.le))⟩
  have e1 : cutD (ls.map sD) (some ((safe : Int) + (m : Int))) (some ((safe : Int) + (m : Int) + 1)) = (tornL ls (safe + m)).map sD := by
    rw [cutD_ft (by omega) (by omega), show ((safe : Int) + (m : Int)).toNat = safe + m by omega, show ((safe : Int) + (m : Int) + 1).toNat - (safe + m) = 1 by omega, ← List.map_drop, ← List.map_take]
    rfl
  have ej : ∀ g : G, opM .join [.str (sL []), .lst ((tornL ls (safe + m)).map sD)] g = .ok (.str (sL (tornL ls (safe + m)).flatten)) g := by
    intro g
    have e5 : ((((tornL ls (safe + m)).map sL).map (·.length)).sum) = tornSum ls (safe + m) := by
      have : ((tornL ls (safe + m)).map sL).map (·.length) = (tornL ls (safe + m)).map (·.length) := by
        rw [List.map_map]
        exact List.map_congr_left fun x _ => sL_len
      rw [this]; rfl
    rw [o_join (ys := (tornL ls (safe + m)).map sL) (by
      show strsOf ((tornL ls (safe + m)).map fun y => D.str (sL y)) = _
      exact strsOf_map sL _) (by rw [e5, show (sL []).length = 0 from rfl, Nat.mul_zero]; omega), join_nil]
  have efl : (tornL ls (safe + m)).flatten.length = tornSum ls (safe + m) := by unfold tornSum; rw [List.length_flatten]
  have elen : ∀ g : G, opM .len [.str (sL (tornL ls (safe + m)).flatten)] g = .ok (.int ((tornSum ls (safe + m) : Nat) : Int)) g := fun g => by
    rw [o_len_str, sL_len, efl]; exact grd_of (by omega) _
  have e2 : cutD (ls.map sD) none (some ((safe : Int) + (m : Int))) = (ls.take (safe + m)).map sD := by
    rw [cutD_to (by omega), List.map_take, show ((safe : Int) + (m : Int)).toNat = safe + m by omega]
  unfold wayE
  by_cases h0 : 0 < cut
  · obtain ⟨tt, et, hkk⟩ := tornL_cons (ls := ls) (k := safe + m) (by omega)
    have hc0 : (0 : Int) < ((cut : Nat) : Int) := by omega
    have ecr : crashL ls (safe + m) cut = ls.take (safe + m) ++ [tt.take cut] := by unfold crashL; rw [if_pos h0, et]; rfl
    have e3 : (ls.take (safe + m)).map sD ++ [.str (sL (tt.take cut))] = (crashL ls (safe + m) cut).map sD := by rw [ecr, List.map_append]; rfl
    have htt := (torn_ln ls (safe + m) T.st.ln tt (by rw [et]; simp)).1
    have ec : cutD tt none (some (cut : Int)) = tt.take cut := cutD_to (by omega)
    have x4' : ∀ g : G, ixM g (.lst ((tornL ls (safe + m)).map sD)) 0 = some (.str (sL tt)) := fun g => by rw [et, x_lst]; rfl
    have hcl2 : (ls.take (safe + m)).length + 1 = (crashL ls (safe + m) cut).length := by rw [ecr]; simp
    by_cases h7 : way = 7
    · kit_pair [t1', e1, l_empty, ej, elen, t2', t3', hx, h7, beq_self_eq_true, T3.st.obj, nm_crash, t4', e2, decide_eq_true hc0, x4', sL_len, sL_cut, ec, List.length_map, List.length_take, e3]
    · have h7' : (way == 7) = false := by simp [h7]
      kit_pair [t1', e1, l_empty, ej, elen, t2', t3', hx, h7', T3.st.obj, nm_crash, t4', e2, decide_eq_true hc0, x4', sL_len, sL_cut, ec, List.length_map, List.length_take, e3]
  · have hc0 : ¬ (0 : Int) < ((cut : Nat) : Int) := by omega
    have ecr : crashL ls (safe + m) cut = ls.take (safe + m) := by unfold crashL; rw [if_neg h0]; simp
    have e3 : (ls.take (safe + m)).map sD ++ [] = (crashL ls (safe + m) cut).map sD := by rw [ecr, List.append_nil]
    by_cases h7 : way = 7
    · kit_pair [t1', e1, l_empty, ej, elen, t2', t3', hx, h7, beq_self_eq_true, T3.st.obj, nm_crash, t4', e2, decide_eq_false hc0, List.length_map, List.length_take, e3]
    · have h7' : (way == 7) = false := by simp [h7]
      kit_pair [t1', e1, l_empty, ej, elen, t2', t3', hx, h7', T3.st.obj, nm_crash, t4', e2, decide_eq_false hc0, List.length_map, List.length_take, e3]
end
end K57
namespace K57
open PySem L2 M3 M3.EvM
section
variable {L n : Nat} {g : G} {p s a safe : Nat} {ls : List (List Nat)} {k : Int}
def turnB : List MS := [.asg 5 (.call 15 [.v 0, .k (.int 9)] [] [.inl 0, .inl 1]), .asg 6 (.op .sub [.op .len [.v 2], .v 3]), .ite (.op .lt [.v 5, .k (.int 4)]) wayA [.ite (.op .eq [.v 5, .k (.int 4)]) wayB [.ite (.op .eq [.v 5, .k (.int 5)]) wayC [.ite (.op .eq [.v 5, .k (.int 6)]) wayD wayE]]], .ite (.or (.op .notNone [.v 8]) (.not (.call 21 [.v 1, .v 2, .v 3] [] [.inl 0, .inl 1, .inl 2]))) [.ret (.k (.bl false))] []]
theorem turn_ok (T : Tn g p s a ls safe k) (hk : k ≤ 800000000) (hl : ls.length < 50) (x4 x5 x6 x7 x8 x9 x10 x11 x12 : Option D) :
    ∃ y5 y6 y7 y8 y9 y10 y11 y12 g' b ls' safe', evSs (cf tab L true (n + 3)) turnB [some (.ref p), some (.ref s), some (.lst (ls.map sD)), some (.int (safe : Nat)), x4, x5, x6, x7, x8, x9, x10, x11, x12] g = .nx [some (.ref p), some (.ref s), some (.lst (ls'.map sD)), some (.int (safe' : Nat)), x4, y5, y6, y7, y8, y9, y10, y11, y12] g' ∧
      Tn g' p s b ls' safe' (k + 210) ∧ ls'.length ≤ ls.length + 1 ∧ g.length ≤ g'.length := by
  have hsl := T.st.le
  obtain ⟨way, g1, t1, h1, h2, T1⟩ := T.take (L := L) (n := n + 2) (c := true) (many := 9) (by omega) (by decide) (by decide)
  have t1' : callM tab L true (n + 3) 15 [.ref p, .int 9] g = .ok (.int way) g1 := t1
  have hg1 : g.length ≤ g1.length := by
    obtain ⟨c0, h0, h3⟩ := T.bx
    obtain ⟨dd, c1, e1, _⟩ := take15 (L := L) (n := n + 2) (c := true) (many := 9) h0 h3 (by omega) (by decide) (by decide)
    rw [show n + 2 + 1 = n + 3 from rfl, t1'] at e1
    injection e1 with _ e1
    rw [e1]; simp
  have e0 : ((ls.length : Nat) : Int) - ((safe : Nat) : Int) = ((ls.length - safe : Nat) : Int) := by omega
  -- one way's end
  have fin : ∀ ws : List MS, Way L n g1 p s a safe ls (k + 1) ws way → (evS (cf tab L true (n + 3)) (.ite (.op .lt [.v 5, .k (.int 4)]) wayA [.ite (.op .eq [.v 5, .k (.int 4)]) wayB [.ite (.op .eq [.v 5, .k (.int 5)]) wayC [.ite (.op .eq [.v 5, .k (.int 6)]) wayD wayE]]]) [some (.ref p), some (.ref s), some (.lst (ls.map sD)), some (.int (safe : Nat)), x4, some (.int way), some (.int ((ls.length - safe : Nat) : Int)), x7, x8, x9, x10, x11, x12] g1 = evSs (cf tab L true (n + 3)) ws [some (.ref p), some (.ref s), some (.lst (ls.map sD)), some (.int (safe : Nat)), x4, some (.int way), some (.int ((ls.length - safe : Nat) : Int)), x7, x8, x9, x10, x11, x12] g1) →
      ∃ y5 y6 y7 y8 y9 y10 y11 y12 g' b ls' safe', evSs (cf tab L true (n + 3)) turnB [some (.ref p), some (.ref s), some (.lst (ls.map sD)), some (.int (safe : Nat)), x4, x5, x6, x7, x8, x9, x10, x11, x12] g = .nx [some (.ref p), some (.ref s), some (.lst (ls'.map sD)), some (.int (safe' : Nat)), x4, y5, y6, y7, y8, y9, y10, y11, y12] g' ∧
      Tn g' p s b ls' safe' (k + 210) ∧ ls'.length ≤ ls.length + 1 ∧ g.length ≤ g'.length := by
    intro ws W hws
    obtain ⟨y7, y9, y10, y11, y12, g', b, ls', safe', e1, T', l1, l2⟩ := W x4 x7 x8 x9 x10 x11 x12
    have t2 : callM tab L true (n + 3) 21 [.ref s, .lst (ls'.map sD), .int (safe' : Nat)] g' = .ok (.bl true) g' := shown_ok T'.st
    refine ⟨some (.int way), some (.int ((ls.length - safe : Nat) : Int)), y7, some .non, y9, y10, y11, y12, g', b, ls', safe', ?_, T'.mono (by omega), l1, Nat.le_trans hg1 l2⟩
    rw [e1] at hws
    unfold turnB
    generalize MS.ite (.op .lt [.v 5, .k (.int 4)]) wayA [.ite (.op .eq [.v 5, .k (.int 4)]) wayB [.ite (.op .eq [.v 5, .k (.int 5)]) wayC [.ite (.op .eq [.v 5, .k (.int 6)]) wayD wayE]]] = I at hws
    kit_pair [t1', List.length_map, e0, hws, t2]
  have hk1 : k + 1 ≤ 900000000 := by omega
  by_cases w4 : way < 4
  · refine fin wayA (way_A T1 hk1 hl) ?_
    generalize wayA = A; generalize wayB = B; generalize wayC = C; generalize wayD = DD; generalize wayE = E
    rw [EvM.s_ite]
    kit_pair [decide_eq_true w4]
  · have w4' := decide_eq_false w4
    by_cases w5 : way = 4
    · refine fin wayB (way_B T1) ?_
      have q1 : (way == 4) = true := by simp [w5]
      generalize wayA = A; generalize wayB = B; generalize wayC = C; generalize wayD = DD; generalize wayE = E
      have hB : ∀ ρ g, (evSs (cf tab L true (n + 3)) B ρ g).nxt (ssK (cf tab L true (n + 3)) []) = evSs (cf tab L true (n + 3)) B ρ g := fun ρ g => by
        cases evSs (cf tab L true (n + 3)) B ρ g <;> first | rfl | (rw [M3.S.nxt_nx, ssK_eq, EvM.ss_nil])
      kit_pair [w4', q1, hB]
    · have q1 : (way == 4) = false := by simp [w5]
      by_cases w6 : way = 5
      · refine fin wayC (way_C T1 hl) ?_
        have q2 : (way == 5) = true := by simp [w6]
        generalize wayA = A; generalize wayB = B; generalize wayC = C; generalize wayD = DD; generalize wayE = E
        have hB : ∀ ρ g, (evSs (cf tab L true (n + 3)) C ρ g).nxt (ssK (cf tab L true (n + 3)) []) = evSs (cf tab L true (n + 3)) C ρ g := fun ρ g => by
          cases evSs (cf tab L true (n + 3)) C ρ g <;> first | rfl | (rw [M3.S.nxt_nx, ssK_eq, EvM.ss_nil])
        kit_pair [w4', q1, q2, hB]
      · have q2 : (way == 5) = false := by simp [w6]
        by_cases w7 : way = 6
        · refine fin wayD (way_D T1 hk1 hl) ?_
          have q3 : (way == 6) = true := by simp [w7]
          generalize wayA = A; generalize wayB = B; generalize wayC = C; generalize wayD = DD; generalize wayE = E
          have hB : ∀ ρ g, (evSs (cf tab L true (n + 3)) DD ρ g).nxt (ssK (cf tab L true (n + 3)) []) = evSs (cf tab L true (n + 3)) DD ρ g := fun ρ g => by
            cases evSs (cf tab L true (n + 3)) DD ρ g <;> first | rfl | (rw [M3.S.nxt_nx, ssK_eq, EvM.ss_nil])
          kit_pair [w4', q1, q2, q3, hB]
        · have q3 : (way == 6) = false := by simp [w7]
          refine fin wayE (way_E T1 hk1 hl) ?_
          generalize wayA = A; generalize wayB = B; generalize wayC = C; generalize wayD = DD; generalize wayE = E
          have hB : ∀ ρ g, (evSs (cf tab L true (n + 3)) E ρ g).nxt (ssK (cf tab L true (n + 3)) []) = evSs (cf tab L true (n + 3)) E ρ g := fun ρ g => by
            cases evSs (cf tab L true (n + 3)) E ρ g <;> first | rfl | (rw [M3.S.nxt_nx, ssK_eq, EvM.ss_nil])
          kit_pair [w4', q1, q2, q3, hB]
theorem turns_ok : ∀ (xs : List D) (g : G) (a safe : Nat) (ls : List (List Nat)) (k : Int) (x4 x5 x6 x7 x8 x9 x10 x11 x12 : Option D), Tn g p s a ls safe k → k + 210 * (xs.length : Nat) ≤ 800000000 → ls.length + xs.length ≤ 40 →
    ∃ y4 y5 y6 y7 y8 y9 y10 y11 y12 g' b ls' safe' j, M3.forM (evSs (cf tab L true (n + 3)) turnB) (.nm 4) [] xs [some (.ref p), some (.ref s), some (.lst (ls.map sD)), some (.int (safe : Nat)), x4, x5, x6, x7, x8, x9, x10, x11, x12] g = .nx [some (.ref p), some (.ref s), some (.lst (ls'.map sD)), some (.int (safe' : Nat)), y4, y5, y6, y7, y8, y9, y10, y11, y12] g' ∧ Tn g' p s b ls' safe' j ∧ g.length ≤ g'.length
  | [], g, a, safe, ls, k, x4, x5, x6, x7, x8, x9, x10, x11, x12, T, hk, hl => ⟨x4, x5, x6, x7, x8, x9, x10, x11, x12, g, a, ls, safe, k, by simp [M3.forM, stands_nil], T, Nat.le_refl _⟩
  | x :: xs, g, a, safe, ls, k, x4, x5, x6, x7, x8, x9, x10, x11, x12, T, hk, hl => by
    simp only [List.length_cons] at hk hl
    obtain ⟨y5, y6, y7, y8, y9, y10, y11, y12, g1, b, ls1, safe1, e1, T1, l1, l2⟩ := turn_ok (L := L) (n := n) T (by omega) (by omega) (some x) x5 x6 x7 x8 x9 x10 x11 x12
    obtain ⟨z4, z5, z6, z7, z8, z9, z10, z11, z12, g2, b2, ls2, safe2, j, e2, T2, l3⟩ := turns_ok xs g1 b safe1 ls1 (k + 210) (some x) y5 y6 y7 y8 y9 y10 y11 y12 T1 (by omega) (by omega)
    refine ⟨z4, z5, z6, z7, z8, z9, z10, z11, z12, g2, b2, ls2, safe2, j, ?_, T2, by omega⟩
    unfold M3.forM
    rw [if_pos stands_nil]
    show (M3.S.turn (evSs (cf tab L true (n + 3)) turnB [some (.ref p), some (.ref s), some (.lst (ls.map sD)), some (.int (safe : Nat)), some x, x5, x6, x7, x8, x9, x10, x11, x12] g) _) = _
    rw [e1, M3.S.turn_nx]
    exact e2
/-- the law's look at stores -/
theorem store_ok {cell : Cell} (hp : g[p]? = some cell) (hb : BoxC k cell) (hk : k ≤ 700000000) (hA : AllC g) :
    ∃ g', callM tab L true (n + 5) 24 [.ref p] g = .ok (.bl true) g' ∧ AllC g' ∧ g.length ≤ g'.length := by
  have hpl := lt_of_get hp
  have t1 : callM tab L true (n + 4) 3 [.ref g.length] (g ++ [.ins 0 []]) = .ok .non (g ++ [.ins 0 [("all_lines", .ref (g.length + 1)), ("many_safe", .int 0)], .lst []]) := init_ok (n := n + 3)
  have A1 : AllC (g ++ [.ins 0 [("all_lines", .ref (g.length + 1)), ("many_safe", .int 0)], .lst []]) := by
    have h1 : AllC (g ++ [.ins 0 []]) := hA.push rfl
    have h2 : AllC ((g ++ [.ins 0 []]) ++ [.lst []]) := h1.push rfl
    have h3 := h2.set (n := g.length) (c := .ins 0 [("all_lines", .ref (g.length + 1)), ("many_safe", .int 0)]) (by simp [closedC, closedDs, closedD])
    have e : ((g ++ [Cell.ins 0 []]) ++ [Cell.lst []]).set g.length (.ins 0 [("all_lines", .ref (g.length + 1)), ("many_safe", .int 0)]) = g ++ [.ins 0 [("all_lines", .ref (g.length + 1)), ("many_safe", .int 0)], .lst []] := by
      rw [List.append_assoc]; simp
    rw [e] at h3
    exact h3
  have T0 : Tn (g ++ [.ins 0 [("all_lines", .ref (g.length + 1)), ("many_safe", .int 0)], .lst []]) p g.length (g.length + 1) [] 0 k := by
    refine ⟨⟨?_, ?_, Nat.le_refl _, by simp, by simp⟩, ⟨cell, get_app hp, hb⟩, A1, by omega, by omega⟩
    · rw [List.getElem?_append_right (Nat.le_refl _), Nat.sub_self]; rfl
    · rw [List.getElem?_append_right (by omega), show g.length + 1 - g.length = 1 by omega]; rfl
  obtain ⟨d, g1, t2, h1, h2, T1⟩ := T0.take (L := L) (n := n + 3) (c := true) (many := 18) (by omega) (by decide) (by decide)
  have t2' : callM tab L true (n + 4) 15 [.ref p, .int 18] (g ++ [.ins 0 [("all_lines", .ref (g.length + 1)), ("many_safe", .int 0)], .lst []]) = .ok (.int d) g1 := t2
  have hg1 : g.length ≤ g1.length := by
    obtain ⟨c0, h0, h3⟩ := T0.bx
    obtain ⟨dd, c1, e1, _⟩ := take15 (L := L) (n := n + 3) (c := true) (many := 18) h0 h3 (by omega) (by decide) (by decide)
    rw [show n + 3 + 1 = n + 4 from rfl, t2'] at e1
    injection e1 with _ e1
    rw [e1]; simp
  have hrl : ((List.range (6 + d).toNat).map fun (k : Nat) => D.int (0 + (k : Int))).length ≤ 24 := by simp; omega
  obtain ⟨z4, z5, z6, z7, z8, z9, z10, z11, z12, g2, b2, ls2, safe2, j, e2, T2, l3⟩ := turns_ok (L := L) (n := n + 1) ((List.range (6 + d).toNat).map fun (k : Nat) => D.int (0 + (k : Int))) g1 (g.length + 1) 0 [] (k + 1) none none none none none none none none none T1 (by omega) (by simp at hrl ⊢; omega)
  have e2' : M3.forM (evSs (cf tab L true (n + 4)) turnB) (.nm 4) [] ((List.range (6 + d).toNat).map fun (k : Nat) => D.int (0 + (k : Int))) [some (.ref p), some (.ref g.length), some (.lst []), some (.int 0), none, none, none, none, none, none, none, none, none] g1 = .nx [some (.ref p), some (.ref g.length), some (.lst (ls2.map sD)), some (.int (safe2 : Nat)), z4, z5, z6, z7, z8, z9, z10, z11, z12] g2 := e2
  obtain ⟨g3, t3, A3, l4⟩ := refusals_ok (L := L) (n := n) T2.st T2.al
  refine ⟨g3, ?_, A3, by omega⟩
  have hb24 : b24 = [.par [1, 2, 3] [.mk 0 3 [] [] [.inl 0], .lst false [], .k (.int 0)], .for_ (.nm 4) .rng1 [.op (.add false) [.k (.int 6), .call 15 [.v 0, .k (.int 18)] [] [.inl 0, .inl 1]]] turnB, .ret (.call 23 [.v 1, .v 2, .v 3] [] [.inl 0, .inl 1, .inl 2])] := rfl
  rw [show n + 5 = (n + 4) + 1 from rfl, r24, hb24]
  generalize turnB = TB at e2'
  kit_pair [t1, t2', sr_rng1, e2', t3]
end
def lawB : List MS := [.asg 2 (.call 14 [.call 13 [.v 0, .v 1] [] [.inl 0, .inl 1]] [] [.inl 0]), .ite (.or (.not (.call 20 [.v 2] [] [.inl 0])) (.not (.call 24 [.v 2] [] [.inl 0]))) [.ret (.k (.bl false))] []]
theorem cells_ok (ns : List Int) : ∀ (ks : List Nat) (g : G) (x1 x2 : Option D), (∀ k ∈ ks, k < 100) → AllC g → ∃ y1 y2 g', M3.forM (evSs (cf tab 0 true 23) lawB) (.nm 1) [] (ks.map fun (k : Nat) => D.int (0 + (k : Int))) [some (.lst (ns.map D.int)), x1, x2] g = .nx [some (.lst (ns.map D.int)), y1, y2] g'
  | [], g, x1, x2, hk, hA => ⟨x1, x2, g, by simp [M3.forM, stands_nil]⟩
  | k :: ks, g, x1, x2, hk, hA => by
    have hk1 := hk k (by simp)
    obtain ⟨i, t1⟩ := cell_ok (tab := tab) (L := 0) (n := 22) (g := g) (f := 13) (C := 8191) rfl (by decide) (by decide) (ns := ns) (k := 0 + (k : Int)) (by omega) (by omega)
    obtain ⟨c, t2, hb⟩ := box_ok (tab := tab) (L := 0) (n := 22) (calm := true) (g := g) (f := 14) rfl (i := i)
    have hp : (g ++ [c])[g.length]? = some c := get_push
    obtain ⟨g1, c1, t3, A1, l1, hp1, hb1⟩ := seals_ok (L := 0) (n := 19) hp hb (by decide) (hA.push hb.closed)
    obtain ⟨g2, t4, A2, l2⟩ := store_ok (L := 0) (n := 18) hp1 hb1 (by decide) A1
    obtain ⟨y1, y2, g', e⟩ := cells_ok ns ks g2 (some (.int (0 + (k : Int)))) (some (.ref g.length)) (fun j hj => hk j (by simp [hj])) A2
    refine ⟨y1, y2, g', ?_⟩
    have t1' : callM tab 0 true 23 13 [.lst (ns.map D.int), .int (0 + (k : Int))] g = .ok (.int i) g := t1
    have t2' : callM tab 0 true 23 14 [.int i] g = .ok (.ref g.length) (g ++ [c]) := t2
    have t3' : callM tab 0 true 23 20 [.ref g.length] (g ++ [c]) = .ok (.bl true) g1 := t3
    have t4' : callM tab 0 true 23 24 [.ref g.length] g1 = .ok (.bl true) g2 := t4
    have e1 : evSs (cf tab 0 true 23) lawB [some (.lst (ns.map D.int)), some (.int (0 + (k : Int))), x2] g = .nx [some (.lst (ns.map D.int)), some (.int (0 + (k : Int))), some (.ref g.length)] g2 := by
      unfold lawB
      kit_pair [t1', t2', t3', t4']
    rw [List.map_cons]
    unfold M3.forM
    rw [if_pos stands_nil]
    show (M3.S.turn (evSs (cf tab 0 true 23) lawB [some (.lst (ns.map D.int)), some (.int (0 + (k : Int))), x2] g) _) = _
    rw [e1, M3.S.turn_nx]
    exact e
theorem hlaw : ∀ ns : List Int, ns.length ≤ 63 → ∃ g, callM tab 0 true 24 25 [.lst (ns.map D.int)] [] = .ok (.bl true) g := by
  intro ns hns
  have hz := EvM.sizeLine_eq
  obtain ⟨m, hm, hm6⟩ : ∃ m : Int, (if (if ((ns.length : Nat) : Int) < 6 then ((ns.length : Nat) : Int) else 6) > 3 then (if ((ns.length : Nat) : Int) < 6 then ((ns.length : Nat) : Int) else 6) else 3) = m ∧ 0 ≤ m ∧ m ≤ 6 := ⟨_, rfl, by split <;> split <;> omega, by split <;> split <;> omega⟩
  obtain ⟨y1, y2, g', e⟩ := cells_ok ns (List.range m.toNat) [] none none (fun k hk => by have := List.mem_range.mp hk; omega) AllC.nil
  refine ⟨g', ?_⟩
  have hb25 : b25 = [.for_ (.nm 1) .rng1 [.op .max [.k (.int 3), .op .min [.k (.int 6), .op .len [.v 0]]]] lawB, .ret (.k (.bl true))] := rfl
  have hr := r25 (L := 0) (n := 23) (c := true) (g := []) (a0 := .lst (ns.map D.int))
  rw [show (24 : Nat) = 23 + 1 from rfl, hr, hb25]
  generalize lawB = LB at e
  kit_pair [List.length_map, hm, sr_rng1, e]
end K57
namespace K57
open PySem L2 M3
theorem room : RoomG false 50 callerA := ⟨fun _ => rfl, by decide, by decide, rfl⟩
end K57
open PySem PySem.W PyProof.Rows
set_option maxRecDepth 100000 in
set_option maxHeartbeats 0 in
theorem PySem.Challenge.cw_streamrows_k57_stores_and_sealed_lines_holds : PySem.Challenge.rw_streamrows_k57_stores_and_sealed_lines.Holds := by
  w_on; o_law; k_head; (case hw => w_witness2)
  k_fill
  refine M3.walk_ofG (n := 63) (k := 50) (x := "script") rfl (by decide) rfl K57.room (fun w h Y => PySem.W.kIn_of Y) ?F
  case F =>
    intro w mg fa h KX G hmg
    refine' K57.all_mk KX G hmg K57.hlaw ?e0 ?l0 ?c0 ?k0 ?e1 ?l1 ?c1 ?k1 ?w1_least ?w1_most ?e2 ?l2 ?c2 ?k2 ?e3 ?i3 ?l3 ?c3 ?k3 ?e4 ?i4 ?l4 ?c4 ?k4 ?e5 ?i5 ?l5 ?c5 ?k5 ?e6 ?i6 ?l6 ?c6 ?k6 ?e7 ?i7 ?l7 ?c7 ?k7 ?e8 ?i8 ?l8 ?c8 ?k8 ?e9 ?i9 ?l9 ?c9 ?k9 ?e10 ?i10 ?l10 ?c10 ?k10 ?e11 ?l11 ?c11 ?k11 ?e12 ?l12 ?c12 ?k12 ?e13 ?l13 ?c13 ?k13 ?e14 ?l14 ?c14 ?k14 ?e15 ?l15 ?c15 ?k15 ?e16 ?l16 ?c16 ?k16 ?e17 ?l17 ?c17 ?k17 ?e18 ?l18 ?c18 ?k18 ?e19 ?l19 ?c19 ?k19 ?e20 ?l20 ?c20 ?k20 ?e21 ?l21 ?c21 ?k21 ?e22 ?l22 ?c22 ?k22 ?e23 ?l23 ?c23 ?k23 ?e24 ?l24 ?c24 ?k24 ?e25 ?l25 ?c25 ?k25 ?C0n ?C0g ?C0h ?C0o ?C0s ?C0m ?C0k ?C0_all_lines ?C0_many_safe ?C9n ?X1n ?X1l ?X1s ?X1g ?X1t ?X1f ?X1i ?X1y ?X1L ?X1c ?X1k ?X1e ?X1T ?X1h ?X1a ?X1m ?S1_1 ?S1_2 ?X2n ?X2l ?X2s ?X2g ?X2t ?X2f ?X2i ?X2y ?X2L ?X2c ?X2k ?X2e ?X2T ?X2h ?X2a ?X2m ?S2_1 ?S2_2 ?K2_PlanError ?clG ?clT ?z_abs ?z_all ?z_bool ?z_int ?z_isinstance ?z_len ?z_list ?z_max ?z_min ?z_range ?z_repr ?z_str ?z_sum ?z_tuple ?y_FIGURES ?y_SEAL
    (case C0n => k_is)
    (case C9n => k_is)
    (case X1n => k_is)
    (case X2n => k_is)
    (case e0 => k_is)
    (case l0 => k_is)
    (case c0 => k_is)
    (case k0 => k_is)
    (case e1 => k_is)
    (case l1 => k_is)
    (case c1 => k_is)
    (case k1 => k_is)
    (case w1_least => k_is)
    (case w1_most => k_is)
    (case e2 => k_is)
    (case l2 => k_is)
    (case c2 => k_is)
    (case k2 => k_is)
    (case e3 => k_is)
    (case i3 => k_is)
    (case l3 => k_is)
    (case c3 => k_is)
    (case k3 => k_is)
    (case e4 => k_is)
    (case i4 => k_is)
    (case l4 => k_is)
    (case c4 => k_is)
    (case k4 => k_is)
    (case e5 => k_is)
    (case i5 => k_is)
    (case l5 => k_is)
    (case c5 => k_is)
    (case k5 => k_is)
    (case e6 => k_is)
    (case i6 => k_is)
    (case l6 => k_is)
    (case c6 => k_is)
    (case k6 => k_is)
    (case e7 => k_is)
    (case i7 => k_is)
    (case l7 => k_is)
    (case c7 => k_is)
    (case k7 => k_is)
    (case e8 => k_is)
    (case i8 => k_is)
    (case l8 => k_is)
    (case c8 => k_is)
    (case k8 => k_is)
    (case e9 => k_is)
    (case i9 => k_is)
    (case l9 => k_is)
    (case c9 => k_is)
    (case k9 => k_is)
    (case e10 => k_is)
    (case i10 => k_is)
    (case l10 => k_is)
    (case c10 => k_is)
    (case k10 => k_is)
    (case e11 => k_is)
    (case l11 => k_is)
    (case c11 => k_is)
    (case k11 => k_is)
    (case e12 => k_is)
    (case l12 => k_is)
    (case c12 => k_is)
    (case k12 => k_is)
    (case e13 => k_is)
    (case l13 => k_is)
    (case c13 => k_is)
    (case k13 => k_is)
    (case e14 => k_is)
    (case l14 => k_is)
    (case c14 => k_is)
    (case k14 => k_is)
    (case e15 => k_is)
    (case l15 => k_is)
    (case c15 => k_is)
    (case k15 => k_is)
    (case e16 => k_is)
    (case l16 => k_is)
    (case c16 => k_is)
    (case k16 => k_is)
    (case e17 => k_is)
    (case l17 => k_is)
    (case c17 => k_is)
    (case k17 => k_is)
    (case e18 => k_is)
    (case l18 => k_is)
    (case c18 => k_is)
    (case k18 => k_is)
    (case e19 => k_is)
    (case l19 => k_is)
    (case c19 => k_is)
    (case k19 => k_is)
    (case e20 => k_is)
    (case l20 => k_is)
    (case c20 => k_is)
    (case k20 => k_is)
    (case e21 => k_is)
    (case l21 => k_is)
    (case c21 => k_is)
    (case k21 => k_is)
    (case e22 => k_is)
    (case l22 => k_is)
    (case c22 => k_is)
    (case k22 => k_is)
    (case e23 => k_is)
    (case l23 => k_is)
    (case c23 => k_is)
    (case k23 => k_is)
    (case e24 => k_is)
    (case l24 => k_is)
    (case c24 => k_is)
    (case k24 => k_is)
    (case e25 => k_is)
    (case l25 => k_is)
    (case c25 => k_is)
    (case k25 => k_is)
    (case C0g => k_is)
    (case C0h => k_is)
    (case C0o => k_is)
    (case C0s => k_is)
    (case C0m => k_is)
    (case C0k => k_is)
    (case C0_all_lines => k_is)
    (case C0_many_safe => k_is)
    (case X1l => (iterate 14 apply Exists.intro); k_is)
    (case X1s => k_is)
    (case X1g => k_is)
    (case X1t => k_is)
    (case X1f => k_is)
    (case X1i => k_is)
    (case X1y => k_is)
    (case X1L => k_is)
    (case X1c => k_is)
    (case X1k => k_is)
    (case X1e => k_is)
    (case X1T => k_is)
    (case X1h => k_is)
    (case X1a => k_is)
    (case X1m => k_is)
    (case S1_1 => k_is)
    (case S1_2 => k_is)
    (case X2l => (iterate 14 apply Exists.intro); k_is)
    (case X2s => k_is)
    (case X2g => k_is)
    (case X2t => k_is)
    (case X2f => k_is)
    (case X2i => k_is)
    (case X2y => k_is)
    (case X2L => k_is)
    (case X2c => k_is)
    (case X2k => k_is)
    (case X2e => k_is)
    (case X2T => k_is)
    (case X2h => k_is)
    (case X2a => k_is)
    (case X2m => k_is)
    (case S2_1 => k_is)
    (case S2_2 => k_is)
    (case K2_PlanError => kit_is)
    (case clG => k_is)
    (case clT => k_is)
    (case z_abs => k_is)
    (case z_all => k_is)
    (case z_bool => k_is)
    (case z_int => k_is)
    (case z_isinstance => k_is)
    (case z_len => k_is)
    (case z_list => k_is)
    (case z_max => k_is)
    (case z_min => k_is)
    (case z_range => k_is)
    (case z_repr => k_is)
    (case z_str => k_is)
    (case z_sum => k_is)
    (case z_tuple => k_is)
    (case y_FIGURES => k_is)
    (case y_SEAL => k_is)
