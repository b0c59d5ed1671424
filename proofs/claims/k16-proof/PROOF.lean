import PyProof.Rows.All
import Wide.All
import OpenK.AllK
import Wide.FinOn
import HandS.ForMost
import HandS.IsInst
import HandS.DictComp
import HandS.TupAny
import HandS.Text
import HandS.Iter
import KE.KDictPairs
import HandS.Small
import HandS.Defaults
import HandS.Head0
import HandS.Head1
import HandS.Head2
import HandS.HeadEnd
import HandS.HeadHook1
import HandS.HeadHook2
import PySem.Challenge.RW_termtide_k16_forms_of_automata
set_option Elab.async false
set_option linter.all false
set_option maxRecDepth 100000
set_option maxHeartbeats 4000000
section
/-! A small Python over plain data: its values, its store, its evaluation. -/
namespace Tt
open PySem

inductive D where
  | non | bl (b : Bool) | int (i : Int) | str (s : Str) | tup (l : List D) | lst (l : List D) | fzl (l : List D) | ref (n : Nat)
  deriving Inhabited

inductive O where
  | lst (l : List D) | dic (kvs : List (L2.Key × D)) | dead
  deriving Inhabited

abbrev Sto := List O
abbrev En := List (Option D)

inductive Bop | add | sub | mul | fdiv | mod
  deriving DecidableEq
inductive Cop | eq | ne | lt | le | gt | ge | isN | notN | inn | notIn
  deriving DecidableEq
inductive Ty | int | bool | str | tuple | list | dict
  deriving DecidableEq
inductive Blt | len | abs | int | sorted | list | tuple | dict | all | any | sum | str | min | max
  deriving DecidableEq
inductive Mth | append | pop | extend | endswith | count
  deriving DecidableEq
/-- a target: one name, or some names of a tuple -/
inductive Tg | one (i : Nat) | many (is : List Nat)
mutual
inductive E where
  | var (i : Nat) | cst (d : D) | glob (x : Str) (d : D)
  | tup (es : List E) | lst (fz : Bool) (es : List E)
  | and (a b : E) | or (a b : E) | not (a : E) | ite (c : T) (a b : E)
  | bin (op : Bop) (a b : E) | neg (a : E)
  | cmp (op : Cop) (a b : E) | chain (op op' : Cop) (a b c : E)
  | ix (a b : E) | slice (a : E) (lo hi : Option E)
  | call (f : Nat) (es : List E)
  | isi (a : E) (t : Ty)
  | blt (fz : Bool) (b : Blt) (es : List E)
  | meth (m : Mth) (o : E) (es : List E)
  | comp (fz : Bool) (own : List Nat) (tg : Tg) (src : Sr) (ifs : List T) (elt : E)
  | dcomp (own : List Nat) (tg : Tg) (src : Sr) (ifs : List T) (k v : E)
inductive T where
  | val (e : E) | cmp (op : Cop) (a b : E) | chain (op op' : Cop) (a b c : E) | not (t : T) | and (a b : T) | or (a b : T)
inductive Sr where
  | seq (e : E) | rng (a : E) | rng2 (a b : E) | enum (e : E) | zip (a b : E) | keys (e : E)
end
inductive Sm where
  | set (i : Nat) (e : E) | unpack (is : List Nat) (e : E) | setIx (o ix v : E) | aug (i : Nat) (op : Bop) (e : E)
  | expr (e : E) | ret (e : E) | retN | ifs (c : T) (a b : List Sm) | for_ (tg : Tg) (src : Sr) (body : List Sm) | while_ (c : T) (body : List Sm)
  | never | pass | brk | cont
end Tt
end

section
/-! The evaluation. -/
namespace Tt
open PySem

/-! ### values -/
mutual
def pyD : D → Option PyData
  | .non => some .none
  | .bl b => some (.bool b)
  | .int i => some (.int i)
  | .str s => some (.str s)
  | .tup l => (pyL l).map .tuple
  | .lst l => (pyL l).map .list
  | .fzl _ => none
  | .ref _ => none
def pyL : List D → Option (List PyData)
  | [] => some []
  | d :: r => (pyD d).bind fun x => (pyL r).map fun y => x :: y
end
def eqD (a b : D) : Option Bool :=
  (pyD a).bind fun x => (pyD b).bind fun y => if (SeqAt.shaped x && SeqAt.shaped y) = true then some (PyData.eqv x y) else none
def kD : D → Option L2.Key
  | .int i => some (.inl i)
  | .str s => some (.inr s)
  | _ => none
def lookK (kvs : List (L2.Key × D)) (k : L2.Key) : Option D := (kvs.find? fun p => decide (p.1 = k)).map (·.2)
def putK (kvs : List (L2.Key × D)) (k : L2.Key) (v : D) : List (L2.Key × D) :=
  if (kvs.any fun kv => decide (kv.1 = k)) = true then kvs.map (fun kv => if kv.1 = k then (kv.1, v) else kv) else kvs ++ [(k, v)]
def mergeK (kvs more : List (L2.Key × D)) : List (L2.Key × D) := more.foldl (fun acc kv => putK acc kv.1 kv.2) kvs
/-- what may be walked -/
def items (S : Sto) : D → Option (List D)
  | .tup l => some l
  | .lst l => some l
  | .fzl l => some l
  | .ref n => match S[n]? with
    | some (.lst l) => some l
    | _ => none
  | _ => none
/-- .. a list alone -/
def litems (S : Sto) : D → Option (List D)
  | .lst l => some l
  | .ref n => match S[n]? with
    | some (.lst l) => some l
    | _ => none
  | _ => none
def truth (S : Sto) : D → Option Bool
  | .non => some false
  | .bl b => some b
  | .int i => some (i != 0)
  | .str s => if s.length ≤ sizeLine then some ((s.length : Int) != 0) else none
  | .tup l => some (!l.isEmpty)
  | .lst l => some (!l.isEmpty)
  | .fzl _ => none
  | .ref n => match S[n]? with
    | some (.lst l) => some (!l.isEmpty)
    | some (.dic kvs) => some (!kvs.isEmpty)
    | _ => none
/-- a new list: a value, or an object of the store -/
def mkL (fz : Bool) (l : List D) (S : Sto) : Option (D × Sto) :=
  if l.length ≤ sizeLine then (if fz = true then some (.lst l, S) else some (.ref S.length, S ++ [.lst l])) else none

/-! ### operators -/
def opB (op : Bop) (a b : D) (S : Sto) : Option (D × Sto) :=
  match op, a, b with
  | .add, .int i, .int j => some (.int (i + j), S)
  | .sub, .int i, .int j => some (.int (i - j), S)
  | .mul, .int i, .int j => if (-(2 ^ 64) < i ∧ i < 2 ^ 64) ∨ (-(2 ^ 64) < j ∧ j < 2 ^ 64) then some (.int (i * j), S) else none
  | .fdiv, .int i, .int j => if 0 < j ∧ j < 1073741824 then some (.int (i / j), S) else none
  | .mod, .int i, .int j => if 0 < j then some (.int (i % j), S) else none
  | .add, .str i, .str j => if i.length + j.length ≤ sizeLine then some (.str (i ++ j), S) else none
  | .add, .tup x, .tup y => if x.length + y.length ≤ sizeLine then some (.tup (x ++ y), S) else none
  | .add, x, y => (litems S x).bind fun l => (litems S y).bind fun r => mkL true (l ++ r) S
  | _, _, _ => none
def flatD : D → Bool
  | .non => true | .bl _ => true | .int _ => true | .str _ => true | _ => false
def toV : D → L2.V
  | .non => .non | .bl b => .bl b | .int i => .int i | .str s => .str s | _ => .non
def inD (a : D) (l : List D) : Option Bool :=
  if (flatD a && l.all flatD) = true then some (L2.inV (toV a) (l.map toV)) else none
def isIn (a b : D) (S : Sto) : Option Bool :=
  match a, b with
  | .str c, .str z => match c.cps.toList with
    | [x] => some (decide (x ∈ z.cps.toList))
    | _ => none
  | a, .ref n => match S[n]? with
    | some (.dic kvs) => (kD a).map fun k => (lookK kvs k).isSome
    | some (.lst l) => inD a l
    | _ => none
  | a, .tup l => inD a l
  | a, .lst l => inD a l
  | _, _ => none
def isNon : D → Bool
  | .non => true
  | _ => false
def cmpD (op : Cop) (a b : D) (S : Sto) : Option Bool :=
  match op, a, b with
  | .eq, a, b => eqD a b
  | .ne, a, b => (eqD a b).map (!·)
  | .lt, .int i, .int j => some (decide (i < j))
  | .le, .int i, .int j => some (decide (i ≤ j))
  | .gt, .int i, .int j => some (decide (j < i))
  | .ge, .int i, .int j => some (decide (j ≤ i))
  | .isN, a, .non => some (isNon a)
  | .notN, a, .non => some (!isNon a)
  | .inn, a, b => isIn a b S
  | .notIn, a, b => (isIn a b S).map (!·)
  | _, _, _ => none
def ixD (a b : D) (S : Sto) : Option D :=
  match a, b with
  | .str z, .int i => if z.length ≤ sizeLine then (L2.atI z.cps.toList i).map fun c => .str ⟨#[c]⟩ else none
  | .tup l, .int i => L2.atI l i
  | .lst l, .int i => L2.atI l i
  | .ref n, b => match S[n]?, b with
    | some (.lst l), .int i => L2.atI l i
    | some (.dic kvs), b => (kD b).bind fun k => lookK kvs k
    | _, _ => none
  | _, _ => none
def cutD {α : Type} (xs : List α) (lo hi : Option Int) : List α := (xs.drop (HT.sIx xs.length 0 lo)).take (HT.sIx xs.length xs.length hi - HT.sIx xs.length 0 lo)
def slD (a : D) (lo hi : Option Int) (S : Sto) : Option (D × Sto) :=
  match a with
  | .tup l => some (.tup (cutD l lo hi), S)
  | .str z => if z.length ≤ sizeLine then some (.str (L2.cutS z lo hi), S) else none
  | a => (litems S a).map fun l => (.lst (cutD l lo hi), S)
def isiD (S : Sto) (t : Ty) : D → Option Bool
  | .non => some false
  | .bl _ => some (t == .bool || t == .int)
  | .int _ => some (t == .int)
  | .str _ => some (t == .str)
  | .tup _ => some (t == .tuple)
  | .lst _ => some (t == .list)
  | .fzl _ => none
  | .ref n => match S[n]? with
    | some (.lst _) => some (t == .list)
    | some (.dic _) => some (t == .dict)
    | _ => none
def bools : List D → Option (List Bool)
  | [] => some []
  | .bl b :: r => (bools r).map (b :: ·)
  | _ => none
def intsD : List D → Option (List Int)
  | [] => some []
  | .int i :: r => (intsD r).map (i :: ·)
  | _ => none
def kpairs : List D → Option (List (L2.Key × D))
  | [] => some []
  | .tup [k, v] :: r => (kD k).bind fun k => (kpairs r).map ((k, v) :: ·)
  | _ => none
def insI (x : Int) : List Int → List Int
  | [] => [x]
  | y :: r => if x ≤ y then x :: y :: r else y :: insI x r
def sortI : List Int → List Int
  | [] => []
  | x :: r => insI x (sortI r)
def keysI : List (L2.Key × D) → Option (List Int)
  | [] => some []
  | (.inl i, _) :: r => (keysI r).map (i :: ·)
  | _ => none
def bltD (fz : Bool) (b : Blt) (ds : List D) (S : Sto) : Option (D × Sto) :=
  match b, ds with
  | .len, [.str s] => if s.length ≤ sizeLine then some (.int s.length, S) else none
  | .len, [.ref n] => match S[n]? with
    | some (.lst l) => some (.int l.length, S)
    | some (.dic kvs) => some (.int kvs.length, S)
    | _ => none
  | .len, [d] => (items S d).map fun l => (.int l.length, S)
  | .abs, [.int i] => some (.int (if i < 0 then -i else i), S)
  | .int, [.int i] => some (.int i, S)
  | .int, [.bl b] => some (.int (if b = true then 1 else 0), S)
  | .list, [d] => (items S d).bind fun l => mkL fz l S
  | .tuple, [d] => (items S d).map fun l => (.tup l, S)
  | .dict, [d] => (items S d).bind fun l => (kpairs l).map fun kvs => (.ref S.length, S ++ [.dic (mergeK [] kvs)])
  | .all, [d] => (litems S d).bind fun l => (bools l).map fun bs => (.bl (bs.all id), S)
  | .any, [d] => (litems S d).bind fun l => (bools l).map fun bs => (.bl (bs.any id), S)
  | .sum, [d] => (litems S d).bind fun l => (intsD l).map fun ns => (.int ns.sum, S)
  | .sorted, [.ref n] => match S[n]? with
    | some (.dic kvs) => (keysI kvs).bind fun ks => if ks.length < 64 then mkL fz ((sortI ks).map .int) S else none
    | some (.lst l) => (intsD l).bind fun ks => if ks.length < 64 then mkL fz ((sortI ks).map .int) S else none
    | _ => none
  | .sorted, [.lst l] => (intsD l).bind fun ks => if ks.length < 64 then mkL fz ((sortI ks).map .int) S else none
  | _, _ => none
def mthD (m : Mth) (o : D) (ds : List D) (S : Sto) : Option (D × Sto) :=
  match m, o, ds with
  | .append, .ref n, [x] => match S[n]? with
    | some (.lst l) => if l.length < sizeLine then some (.non, S.set n (.lst (l ++ [x]))) else none
    | _ => none
  | .pop, .ref n, [] => match S[n]? with
    | some (.lst l) => match l[l.length - 1]? with
      | some x => some (x, S.set n (.lst l.dropLast))
      | none => none
    | _ => none
  | .pop, .ref n, [.int i] => match S[n]? with
    | some (.lst l) => if 0 ≤ i ∧ i < 2 ^ 63 then (match l[i.toNat]? with
      | some x => some (x, S.set n (.lst (l.eraseIdx i.toNat)))
      | none => none) else none
    | _ => none
  | .extend, .ref n, [y] => match S[n]? with
    | some (.lst l) => (litems S y).bind fun r => if l.length + r.length ≤ sizeLine then some (.non, S.set n (.lst (l ++ r))) else none
    | _ => none
  | .endswith, .str a, [.str b] => some (.bl (Txt.endswith a b), S)
  | .count, d, [x] => (litems S d).bind fun l => if (flatD x && l.all flatD) = true then some (.int (((l.map toV).countP fun y => L2.eqV y (toV x) : Nat)), S) else none
  | _, _, _ => none

/-- the receiver is of the method's type -/
def mthChk (m : Mth) (o : D) (S : Sto) : Bool :=
  match m, o with
  | .endswith, .str _ => true
  | .endswith, _ => false
  | _, o => (litems S o).isSome

/-! ### targets -/
def setAll : List Nat → List D → En → Option En
  | [], [], env => some env
  | i :: is, d :: ds, env => setAll is ds (env.set i (some d))
  | _, _, _ => none
def bindT : Tg → D → En → Option En
  | .one i, d, env => some (env.set i (some d))
  | .many is, .tup ds, env => setAll is ds env
  | _, _, _ => none
def wipeD (env : En) : List Nat → En
  | [] => env
  | v :: vs => (wipeD env vs).set v none

/-! ### loops -/
/-- a statement's end -/
inductive Fl | nx | rt (d : D) | bk | ct
abbrev Cal := Nat → List D → Sto → Option (D × Sto)
def evs (f : E → En → Sto → Option (D × Sto)) : List E → En → Sto → Option (List D × Sto)
  | [], _, S => some ([], S)
  | e :: es, env, S => (f e env S).bind fun p => (evs f es env p.2).bind fun q => some (p.1 :: q.1, q.2)
def evTs (f : T → En → Sto → Option (Bool × Sto)) : List T → En → Sto → Option (Bool × Sto)
  | [], _, S => some (true, S)
  | t :: ts, env, S => (f t env S).bind fun p => if p.1 = true then evTs f ts env p.2 else some (false, p.2)
/-- a source: what is walked at each turn; how many turns -/
structure Src where
  rd : Sto → Option (List D)
  n : Nat
def loopL (s : Src) (tg : Tg) (body : En → Sto → Option (Fl × En × Sto)) : Nat → Nat → En → Sto → Option (Fl × En × Sto)
  | 0, _, env, S => (s.rd S).bind fun l => if l.length = s.n then some (.nx, env, S) else none
  | m + 1, i, env, S => (s.rd S).bind fun l => if l.length = s.n then l[i]?.bind fun x => (bindT tg x env).bind fun env1 => (body env1 S).bind fun r => match r with
    | (.nx, e2, S2) => loopL s tg body m (i + 1) e2 S2
    | (.ct, e2, S2) => loopL s tg body m (i + 1) e2 S2
    | (.bk, e2, S2) => some (.nx, e2, S2)
    | (.rt d, e2, S2) => some (.rt d, e2, S2) else none
/-- a comprehension: the items made so far -/
def loopC (s : Src) (tg : Tg) (env : En) (body : En → Sto → Option (Option D × Sto)) : Nat → Nat → List D → Sto → Option (List D × Sto)
  | 0, _, acc, S => (s.rd S).bind fun l => if l.length = s.n then some (acc, S) else none
  | m + 1, i, acc, S => (s.rd S).bind fun l => if l.length = s.n then l[i]?.bind fun x => (bindT tg x env).bind fun env1 => (body env1 S).bind fun r => match r with
    | (some d, S2) => if acc.length < sizeLine then loopC s tg env body m (i + 1) (acc ++ [d]) S2 else none
    | (none, S2) => loopC s tg env body m (i + 1) acc S2 else none
def loopD (s : Src) (tg : Tg) (env : En) (body : En → Sto → Option (Option (D × D) × Sto)) : Nat → Nat → List (L2.Key × D) → Sto → Option (List (L2.Key × D) × Sto)
  | 0, _, acc, S => (s.rd S).bind fun l => if l.length = s.n then some (acc, S) else none
  | m + 1, i, acc, S => (s.rd S).bind fun l => if l.length = s.n then l[i]?.bind fun x => (bindT tg x env).bind fun env1 => (body env1 S).bind fun r => match r with
    | (some (k, v), S2) => (kD k).bind fun k => if acc.length < sizeLine then loopD s tg env body m (i + 1) (putK acc k v) S2 else none
    | (none, S2) => loopD s tg env body m (i + 1) acc S2 else none
def whL (c : En → Sto → Option (Bool × Sto)) (body : En → Sto → Option (Fl × En × Sto)) : Nat → En → Sto → Option (Fl × En × Sto)
  | 0, _, _ => none
  | m + 1, env, S => (c env S).bind fun p => if p.1 = true then (body env p.2).bind fun r => match r with
    | (.nx, e2, S2) => whL c body m e2 S2
    | (.ct, e2, S2) => whL c body m e2 S2
    | (.bk, e2, S2) => some (.nx, e2, S2)
    | (.rt d, e2, S2) => some (.rt d, e2, S2) else some (.nx, env, p.2)
def rngL (lo : Int) (n : Nat) : List D := (List.range n).map fun (i : Nat) => .int (lo + (i : Int))

/-! ### expressions -/
def evOpt (f : E → En → Sto → Option (D × Sto)) : Option E → En → Sto → Option (Option Int × Sto)
  | none, _, S => some (none, S)
  | some e, env, S => (f e env S).bind fun p => match p.1 with
    | .int i => some (some i, p.2)
    | _ => none
def chars (s : Str) : List D := s.cps.toList.map fun c => .str ⟨#[c]⟩
def srcOf (S : Sto) : D → Option Src
  | .str s => some ⟨fun _ => some (chars s), s.cps.size⟩
  | d => (items S d).map fun l => ⟨fun S' => items S' d, l.length⟩
def evSr (f : E → En → Sto → Option (D × Sto)) (s : Sr) (env : En) (S : Sto) : Option (Src × Sto) :=
  match s with
  | .seq e => (f e env S).bind fun p => (srcOf p.2 p.1).map fun s => (s, p.2)
  | .rng a => (f a env S).bind fun p => match p.1 with
    | .int j => if -(2 ^ 62) ≤ j ∧ j < 2 ^ 62 then some (⟨fun _ => some (rngL 0 j.toNat), j.toNat⟩, p.2) else none
    | _ => none
  | .rng2 a b => (f a env S).bind fun p => (f b env p.2).bind fun q => match p.1, q.1 with
    | .int i, .int j => if -(2 ^ 62) ≤ i ∧ i < 2 ^ 62 ∧ -(2 ^ 62) ≤ j ∧ j < 2 ^ 62 then some (⟨fun _ => some (rngL i (j - i).toNat), (j - i).toNat⟩, q.2) else none
    | _, _ => none
  | _ => none
def evCmp (f : E → En → Sto → Option (D × Sto)) (op : Cop) (a b : E) (env : En) (S : Sto) : Option (Bool × Sto) :=
  (f a env S).bind fun p => (f b env p.2).bind fun q => (cmpD op p.1 q.1 q.2).map fun r => (r, q.2)
def evChain (f : E → En → Sto → Option (D × Sto)) (op op' : Cop) (a b c : E) (env : En) (S : Sto) : Option (Bool × Sto) :=
  (f a env S).bind fun p => (f b env p.2).bind fun q => (cmpD op p.1 q.1 q.2).bind fun r =>
      if r = true then (f c env q.2).bind fun u => (cmpD op' q.1 u.1 u.2).map fun r' => (r', u.2) else some (false, q.2)
mutual
def ev (cal : Cal) : Nat → E → En → Sto → Option (D × Sto)
  | 0, _, _, _ => none
  | d + 1, e, env, S =>
    match e with
    | .var i => match env[i]? with
      | some (some x) => some (x, S)
      | _ => none
    | .cst x => some (x, S)
    | .glob _ x => some (x, S)
    | .tup es => (evs (ev cal d) es env S).bind fun p => if p.1.length ≤ sizeLine then some (.tup p.1, p.2) else none
    | .lst fz es => (evs (ev cal d) es env S).bind fun p => mkL fz p.1 p.2
    | .and a b => (ev cal d a env S).bind fun p => match p.1 with
      | .bl true => ev cal d b env p.2
      | .bl false => some (.bl false, p.2)
      | _ => none
    | .or a b => (ev cal d a env S).bind fun p => match p.1 with
      | .bl true => some (.bl true, p.2)
      | .bl false => ev cal d b env p.2
      | _ => none
    | .not a => (ev cal d a env S).bind fun p => match p.1 with
      | .bl b => some (.bl (!b), p.2)
      | _ => none
    | .ite c a b => (evT cal d c env S).bind fun p => if p.1 = true then ev cal d a env p.2 else ev cal d b env p.2
    | .bin op a b => (ev cal d a env S).bind fun p => (ev cal d b env p.2).bind fun q => opB op p.1 q.1 q.2
    | .neg a => (ev cal d a env S).bind fun p => match p.1 with
      | .int i => some (.int (-i), p.2)
      | _ => none
    | .cmp op a b => (evCmp (ev cal d) op a b env S).map fun p => (.bl p.1, p.2)
    | .chain op op' a b c => (evChain (ev cal d) op op' a b c env S).map fun p => (.bl p.1, p.2)
    | .ix a b => (ev cal d a env S).bind fun p => (ev cal d b env p.2).bind fun q => (ixD p.1 q.1 q.2).map fun r => (r, q.2)
    | .slice a lo hi => (ev cal d a env S).bind fun p => (evOpt (ev cal d) lo env p.2).bind fun q => (evOpt (ev cal d) hi env q.2).bind fun r => slD p.1 q.1 r.1 r.2
    | .call f es => (evs (ev cal d) es env S).bind fun p => cal f p.1 p.2
    | .isi a t => (ev cal d a env S).bind fun p => (isiD p.2 t p.1).map fun r => (.bl r, p.2)
    | .blt fz b es => (evs (ev cal d) es env S).bind fun p => bltD fz b p.1 p.2
    | .meth m o es => (ev cal d o env S).bind fun p => if mthChk m p.1 p.2 = true then (evs (ev cal d) es env p.2).bind fun q => mthD m p.1 q.1 q.2 else none
    | .comp fz own tg src ifs elt => (evSr (ev cal d) src env S).bind fun s =>
      (loopC s.1 tg (wipeD env own) (fun env1 S1 => (evTs (evT cal d) ifs env1 S1).bind fun c => if c.1 = true then (ev cal d elt env1 c.2).map fun r => (some r.1, r.2) else some (none, c.2)) s.1.n 0 [] s.2).bind fun r =>
        mkL fz r.1 r.2
    | .dcomp own tg src ifs k v => (evSr (ev cal d) src env S).bind fun s =>
      (loopD s.1 tg (wipeD env own) (fun env1 S1 => (evTs (evT cal d) ifs env1 S1).bind fun c => if c.1 = true then
        (ev cal d k env1 c.2).bind fun rk => (ev cal d v env1 rk.2).map fun r => (some (rk.1, r.1), r.2) else some (none, c.2)) s.1.n 0 [] s.2).bind fun r =>
        some (.ref r.2.length, r.2 ++ [.dic r.1])
def evT (cal : Cal) : Nat → T → En → Sto → Option (Bool × Sto)
  | 0, _, _, _ => none
  | d + 1, t, env, S =>
    match t with
    | .val e => (ev cal d e env S).bind fun p => (truth p.2 p.1).map fun b => (b, p.2)
    | .cmp op a b => evCmp (ev cal d) op a b env S
    | .chain op op' a b c => evChain (ev cal d) op op' a b c env S
    | .not t => (evT cal d t env S).map fun p => (!p.1, p.2)
    | .and a b => (evT cal d a env S).bind fun p => if p.1 = true then evT cal d b env p.2 else some (false, p.2)
    | .or a b => (evT cal d a env S).bind fun p => if p.1 = true then some (true, p.2) else evT cal d b env p.2
end

/-! ### statements -/
/-- how often a while may turn -/
def WH : Nat := 1000000
def exs (f : Sm → En → Sto → Option (Fl × En × Sto)) : List Sm → En → Sto → Option (Fl × En × Sto)
  | [], env, S => some (.nx, env, S)
  | s :: ss, env, S => (f s env S).bind fun r => match r with
    | (.nx, e2, S2) => exs f ss e2 S2
    | r => some r
def setIxD (o i v : D) (S : Sto) : Option Sto :=
  match o with
  | .ref n => match S[n]? with
    | some (.lst l) => match i with
      | .int k => (L2.ixN l.length k).map fun j => S.set n (.lst (l.set j v))
      | _ => none
    | some (.dic kvs) => (kD i).bind fun k => if kvs.length < sizeLine then some (S.set n (.dic (putK kvs k v))) else none
    | _ => none
  | _ => none
def augD (op : Bop) (a b : D) : Option D :=
  match op, a, b with
  | .add, .int a, .int b => some (.int (a + b))
  | .sub, .int a, .int b => some (.int (a - b))
  | _, _, _ => none
def ex (cal : Cal) : Nat → Sm → En → Sto → Option (Fl × En × Sto)
  | 0, _, _, _ => none
  | d + 1, s, env, S =>
    match s with
    | .set i e => (ev cal d e env S).map fun p => (.nx, env.set i (some p.1), p.2)
    | .unpack is e => (ev cal d e env S).bind fun p => match p.1 with
      | .tup ds => (setAll is ds env).map fun env1 => (.nx, env1, p.2)
      | _ => none
    | .setIx o ix v => (ev cal d v env S).bind fun p => (ev cal d o env p.2).bind fun q => (ev cal d ix env q.2).bind fun r => (setIxD q.1 r.1 p.1 r.2).map fun S' => (.nx, env, S')
    | .aug i op e => match env[i]? with
      | some (some x) => (ev cal d e env S).bind fun p => (augD op x p.1).map fun y => (.nx, env.set i (some y), p.2)
      | _ => none
    | .expr e => (ev cal d e env S).map fun p => (.nx, env, p.2)
    | .ret e => (ev cal d e env S).map fun p => (.rt p.1, env, p.2)
    | .retN => some (.rt .non, env, S)
    | .ifs c a b => (evT cal d c env S).bind fun p => if p.1 = true then exs (ex cal d) a env p.2 else exs (ex cal d) b env p.2
    | .for_ tg src body => (evSr (ev cal d) src env S).bind fun s => loopL s.1 tg (exs (ex cal d) body) s.1.n 0 env s.2
    | .while_ c body => whL (evT cal d c) (exs (ex cal d) body) WH env S
    | .never => none
    | .pass => some (.nx, env, S)
    | .brk => some (.bk, env, S)
    | .cont => some (.ct, env, S)

/-! ### defs -/
structure Df where
  ps : Nat
  n : Nat
  body : List Sm
  keep : Bool := false
mutual
/-- all references lie below n -/
def clD (n : Nat) : D → Bool
  | .ref i => decide (i < n)
  | .tup l => clL n l
  | .lst l => clL n l
  | .fzl l => clL n l
  | _ => true
def clL (n : Nat) : List D → Bool
  | [] => true
  | d :: r => clD n d && clL n r
end
def clO (n : Nat) : O → Bool
  | .lst l => clL n l
  | .dic kvs => clL n (kvs.map (·.2))
  | .dead => true
/-- a new list that leaves its def is a value from then on -/
def leave (S : Sto) (n : Nat) (d : D) : Option D :=
  if clD n d = true then some d else match d with
    | .ref i => match S[i]? with
      | some (.lst l) => if clL n l = true then some (.lst l) else none
      | _ => none
    | _ => none
def fin (df : Df) (n : Nat) (d : D) (S : Sto) : Option (D × Sto) :=
  if df.keep = true then some (d, S) else
    (leave S n d).bind fun d' => if ((S.take n).all (clO n)) = true then some (d', S.take n) else none
/-- how deep a body's text may nest -/
def DP : Nat := 60
def run (cal : Cal) (df : Df) (args : List D) (S : Sto) : Option (D × Sto) :=
  if args.length = df.ps then
    match exs (ex cal DP) df.body (args.map some ++ List.replicate (df.n - args.length) none) S with
    | some (.rt d, _, S') => fin df S.length d S'
    | some (.nx, _, S') => fin df S.length .non S'
    | _ => none
  else none
def calls (pg : List Df) : Nat → Cal
  | 0 => fun _ _ _ => none
  | k + 1 => fun f args S => match pg[f]? with
    | some df => run (calls pg k) df args S
    | none => none
end Tt
end

section
/-! How plain data stands in the abstract heap. -/
namespace Tt
open PySem PySem.Spec PyProof.Rows L2

/-- where the objects of the store lie, and what else is held back for the time being -/
structure Ad where
  r : List Addr
  h : List Addr
abbrev Ad.push (ι : Ad) (p : Addr) : Ad := ⟨ι.r ++ [p], ι.h⟩
abbrev Ad.hide (ι : Ad) (p : Addr) : Ad := ⟨ι.r, p :: ι.h⟩
/-- a tuple that is known whole: it has no dict of its own -/
def SqS (K : PySem.W.Frag) (H : Hp) (a : Addr) (xs : List V) : Prop :=
  (∃ ob : Obj, ob.dict = none ∧ H a = some (.frz ob (.tup xs))) ∨
    ∃ (o : Obj) (its : Array Value) (n : Nat), K.lookup a = some o ∧ o.cls = .type "tuple" ∧ o.dict = none ∧ o.data = .seq its n ∧ its.size ≤ sizeLine ∧ Vals xs its.toList
theorem SqS.t {K : PySem.W.Frag} {H : Hp} {a : Addr} {xs : List V} (h : SqS K H a xs) : SqT K H a xs := by
  rcases h with ⟨ob, _, h⟩ | ⟨o, its, n, h1, h2, _, h3, h4, h5⟩
  · exact .inl (.inr ⟨ob, h⟩)
  · exact .inr ⟨o, its, n, h1, h2, h3, h4, h5⟩
/-- a list handed in from outside -/
def SqF (K : PySem.W.Frag) (H : Hp) (a : Addr) (xs : List V) : Prop :=
  (∃ ob : Obj, H a = some (.frz ob (.lst xs))) ∨
    ∃ (o : Obj) (its : Array Value) (n : Nat), K.lookup a = some o ∧ o.cls = .type "list" ∧ o.dict = none ∧ o.data = .seq its n ∧ its.size ≤ sizeLine ∧ Vals xs its.toList
theorem SqF.l {K : PySem.W.Frag} {H : Hp} {a : Addr} {xs : List V} (h : SqF K H a xs) : SqL K H a xs := by
  rcases h with ⟨ob, h⟩ | h
  · exact .inl (.inr ⟨ob, h⟩)
  · exact .inr h
mutual
/-- v is the data d: ι tells where the store's objects lie -/
def Rep (K : PySem.W.Frag) (ι : Ad) (H : Hp) : D → V → Prop
  | .non, v => v = .non
  | .bl b, v => v = .bl b
  | .int i, v => v = .int i
  | .str s, v => v = .str s
  | .tup l, v => ∃ a vs, v = .ref a ∧ SqS K H a vs ∧ Reps K ι H l vs
  | .lst l, v => ∃ a vs, v = .ref a ∧ H a = some (.lst vs) ∧ (a ∉ ι.r ∧ a ∉ ι.h) ∧ Reps K ι H l vs
  | .fzl l, v => ∃ a vs, v = .ref a ∧ SqF K H a vs ∧ Reps K ι H l vs
  | .ref n, v => ∃ a, v = .ref a ∧ ι.r[n]? = some a
def Reps (K : PySem.W.Frag) (ι : Ad) (H : Hp) : List D → List V → Prop
  | [], vs => vs = []
  | d :: r, vs => ∃ v ws, vs = v :: ws ∧ Rep K ι H d v ∧ Reps K ι H r ws
end
def Krep (K : PySem.W.Frag) (ι : Ad) (H : Hp) : List (Key × D) → List (Key × V) → Prop
  | [], vs => vs = []
  | p :: r, vs => ∃ v ws, vs = (p.1, v) :: ws ∧ Rep K ι H p.2 v ∧ Krep K ι H r ws
def Oat (K : PySem.W.Frag) (ι : Ad) (H : Hp) (a : Addr) : O → Prop
  | .lst l => ∃ vs, H a = some (.lst vs) ∧ Reps K ι H l vs
  | .dic kvs => ∃ ws, H a = some (.dK ws) ∧ Krep K ι H kvs ws
  | .dead => True
structure Sat (K : PySem.W.Frag) (ι : Ad) (H : Hp) (S : Sto) : Prop where
  len : ι.r.length = S.length
  nd : ι.r.Nodup
  at_ : ∀ (i : Nat) (o : O) (a : Addr), S[i]? = some o → ι.r[i]? = some a → Oat K ι H a o
  there : ∀ a, a ∈ ι.r ∨ a ∈ ι.h → H a ≠ none
  apart : ∀ a ∈ ι.h, a ∉ ι.r
structure Eat (K : PySem.W.Frag) (ι : Ad) (H : Hp) (env : En) (σ : L2.St) : Prop where
  len : σ.length = env.length
  at_ : ∀ (i : Nat) (d : D), env[i]? = some (some d) → ∃ v, σ[i]? = some (some v) ∧ Rep K ι H d v
/-- what has come stands on what was -/
structure Ext (K : PySem.W.Frag) (ι : Ad) (H : Hp) (ι' : Ad) (H' : Hp) : Prop where
  pre : ∃ t, ι'.r = ι.r ++ t
  hid : ι'.h = ι.h
  fresh : ∀ a ∈ ι'.r, a ∉ ι.r → H a = none
  tup : ∀ a xs, SqS K H a xs → SqS K H' a xs
  lst : ∀ a xs, a ∉ ι.r → H a = some (.lst xs) → H' a = some (.lst xs)
  dk : ∀ a xs, a ∉ ι.r → H a = some (.dK xs) → H' a = some (.dK xs)
  frz : ∀ a o u, H a = some (.frz o u) → H' a = some (.frz o u)
  keep : ∀ a, H a ≠ none → H' a ≠ none
/-- .. where more may be held back -/
structure ExtW (K : PySem.W.Frag) (ι : Ad) (H : Hp) (ι' : Ad) (H' : Hp) : Prop where
  pre : ∃ t, ι'.r = ι.r ++ t
  hid : ∀ a ∈ ι'.h, a ∈ ι.h ∨ H a = none
  fresh : ∀ a ∈ ι'.r, a ∉ ι.r → H a = none
  tup : ∀ a xs, SqS K H a xs → SqS K H' a xs
  lst : ∀ a xs, a ∉ ι.r → H a = some (.lst xs) → H' a = some (.lst xs)
  sqf : ∀ a xs, SqF K H a xs → SqF K H' a xs

section
variable {K : PySem.W.Frag} {ι ι' ι1 : Ad} {H H' H1 : Hp} {S S' : Sto}
theorem Ext.sqf (x : Ext K ι H ι' H') : ∀ a xs, SqF K H a xs → SqF K H' a xs := fun a xs h => h.imp (fun ⟨ob, e⟩ => ⟨ob, x.frz a ob _ e⟩) id
theorem Ext.w (x : Ext K ι H ι' H') : ExtW K ι H ι' H' := ⟨x.pre, fun a h => .inl (by rw [← x.hid]; exact h), x.fresh, x.tup, x.lst, x.sqf⟩
theorem Ext.refl : Ext K ι H ι H := ⟨⟨[], by simp⟩, rfl, fun a h n => absurd h n, fun _ _ h => h, fun _ _ _ h => h, fun _ _ _ h => h, fun _ _ _ h => h, fun _ h => h⟩
theorem Ext.get (x : Ext K ι H ι' H') {n : Nat} {a : Addr} (h : ι.r[n]? = some a) : ι'.r[n]? = some a := by
  obtain ⟨t, e⟩ := x.pre
  rw [e, List.getElem?_append_left (List.getElem?_eq_some_iff.mp h).1]
  exact h
theorem Ext.notIn (x : Ext K ι H ι' H') {a : Addr} (h : a ∉ ι.r) (hh : H a ≠ none) : a ∉ ι'.r := fun z => hh (x.fresh a z h)
theorem Ext.trans (x : Ext K ι H ι1 H1) (y : Ext K ι1 H1 ι' H') : Ext K ι H ι' H' := by
  refine ⟨?_, y.hid.trans x.hid, fun a h n => ?_, fun a xs h => y.tup a xs (x.tup a xs h), fun a xs n h => y.lst a xs (x.notIn n (by rw [h]; simp)) (x.lst a xs n h), fun a xs n h => y.dk a xs (x.notIn n (by rw [h]; simp)) (x.dk a xs n h), fun a o u h => y.frz a o u (x.frz a o u h), fun a h => y.keep a (x.keep a h)⟩
  · obtain ⟨t, e⟩ := x.pre
    obtain ⟨t', e'⟩ := y.pre
    exact ⟨t ++ t', by rw [e', e, List.append_assoc]⟩
  · by_cases h1 : a ∈ ι1.r
    · exact x.fresh a h1 n
    · have h2 := y.fresh a h h1
      cases q : H a with
      | none => rfl
      | some o => exact absurd h2 (x.keep a (by rw [q]; simp))
theorem ExtW.get (x : ExtW K ι H ι' H') {n : Nat} {a : Addr} (h : ι.r[n]? = some a) : ι'.r[n]? = some a := by
  obtain ⟨t, e⟩ := x.pre
  rw [e, List.getElem?_append_left (List.getElem?_eq_some_iff.mp h).1]
  exact h
theorem ExtW.trans (x : ExtW K ι H ι1 H1) (k : ∀ a, H a ≠ none → H1 a ≠ none) (y : ExtW K ι1 H1 ι' H') : ExtW K ι H ι' H' := by
  have up : ∀ a, H1 a = none → H a = none := fun a h => by
    cases q : H a with
    | none => rfl
    | some o => exact absurd h (k a (by rw [q]; simp))
  refine ⟨?_, fun a h => ?_, fun a h n => ?_, fun a xs h => y.tup a xs (x.tup a xs h), fun a xs n h => ?_, fun a xs h => y.sqf a xs (x.sqf a xs h)⟩
  · obtain ⟨t, e⟩ := x.pre
    obtain ⟨t', e'⟩ := y.pre
    exact ⟨t ++ t', by rw [e', e, List.append_assoc]⟩
  · rcases y.hid a h with h | h
    · exact x.hid a h
    · exact .inr (up a h)
  · by_cases h1 : a ∈ ι1.r
    · exact x.fresh a h1 n
    · exact up a (y.fresh a h h1)
  · exact y.lst a xs (fun z => by have := x.fresh a z n; rw [h] at this; cases this) (x.lst a xs n h)
mutual
theorem Rep.extW (x : ExtW K ι H ι' H') : ∀ {d : D} {v : V}, Rep K ι H d v → Rep K ι' H' d v
  | .non, v, h => by simp only [Rep] at h ⊢; exact h
  | .bl b, v, h => by simp only [Rep] at h ⊢; exact h
  | .int b, v, h => by simp only [Rep] at h ⊢; exact h
  | .str b, v, h => by simp only [Rep] at h ⊢; exact h
  | .tup l, v, h => by
    simp only [Rep] at h ⊢
    obtain ⟨a, vs, e, t, r⟩ := h
    exact ⟨a, vs, e, x.tup _ _ t, Reps.extW x r⟩
  | .lst l, v, h => by
    simp only [Rep] at h ⊢
    obtain ⟨a, vs, e, t, n, r⟩ := h
    have nn : H a ≠ none := by rw [t]; simp
    exact ⟨a, vs, e, x.lst _ _ n.1 t, ⟨fun z => nn (x.fresh a z n.1), fun z => (x.hid a z).elim n.2 nn⟩, Reps.extW x r⟩
  | .fzl l, v, h => by
    simp only [Rep] at h ⊢
    obtain ⟨a, vs, e, t, r⟩ := h
    exact ⟨a, vs, e, x.sqf _ _ t, Reps.extW x r⟩
  | .ref n, v, h => by
    simp only [Rep] at h ⊢
    obtain ⟨a, e, t⟩ := h
    exact ⟨a, e, x.get t⟩
theorem Reps.extW (x : ExtW K ι H ι' H') : ∀ {l : List D} {vs : List V}, Reps K ι H l vs → Reps K ι' H' l vs
  | [], vs, h => by simp only [Reps] at h ⊢; exact h
  | d :: r, vs, h => by
    simp only [Reps] at h ⊢
    obtain ⟨v, ws, e, h1, h2⟩ := h
    exact ⟨v, ws, e, Rep.extW x h1, Reps.extW x h2⟩
end
theorem Rep.ext (x : Ext K ι H ι' H') {d : D} {v : V} (h : Rep K ι H d v) : Rep K ι' H' d v := h.extW x.w
theorem Reps.ext (x : Ext K ι H ι' H') {l : List D} {vs : List V} (h : Reps K ι H l vs) : Reps K ι' H' l vs := h.extW x.w
theorem Krep.extW (x : ExtW K ι H ι' H') : ∀ {l : List (Key × D)} {vs : List (Key × V)}, Krep K ι H l vs → Krep K ι' H' l vs
  | [], vs, h => by simp only [Krep] at h ⊢; exact h
  | d :: r, vs, h => by
    simp only [Krep] at h ⊢
    obtain ⟨v, ws, e, h1, h2⟩ := h
    exact ⟨v, ws, e, Rep.extW x h1, Krep.extW x h2⟩
theorem Oat.extW {a : Addr} {o : O} (x : ExtW K ι H ι' H') (h : Oat K ι H a o) (he : H' a = H a) : Oat K ι' H' a o := by
  cases o with
  | lst l => obtain ⟨vs, e, r⟩ := h; exact ⟨vs, by rw [he]; exact e, r.extW x⟩
  | dic kvs => obtain ⟨vs, e, r⟩ := h; exact ⟨vs, by rw [he]; exact e, r.extW x⟩
  | dead => trivial
theorem Krep.ext (x : Ext K ι H ι' H') : ∀ {l : List (Key × D)} {vs : List (Key × V)}, Krep K ι H l vs → Krep K ι' H' l vs
  | [], vs, h => by simp only [Krep] at h ⊢; exact h
  | d :: r, vs, h => by
    simp only [Krep] at h ⊢
    obtain ⟨v, ws, e, h1, h2⟩ := h
    exact ⟨v, ws, e, Rep.ext x h1, Krep.ext x h2⟩
theorem Eat.extW {env : En} {σ : L2.St} (x : ExtW K ι H ι' H') (h : Eat K ι H env σ) : Eat K ι' H' env σ := ⟨h.len, fun i d e => by
  obtain ⟨v, e1, r⟩ := h.at_ i d e
  exact ⟨v, e1, r.extW x⟩⟩
theorem Eat.ext {env : En} {σ : L2.St} (x : Ext K ι H ι' H') (h : Eat K ι H env σ) : Eat K ι' H' env σ := ⟨h.len, fun i d e => by
  obtain ⟨v, e1, r⟩ := h.at_ i d e
  exact ⟨v, e1, r.ext x⟩⟩
theorem Reps.length : ∀ {l : List D} {vs : List V}, Reps K ι H l vs → vs.length = l.length
  | [], vs, h => by simp only [Reps] at h; rw [h]; rfl
  | d :: r, vs, h => by
    simp only [Reps] at h
    obtain ⟨v, ws, e, h1, h2⟩ := h
    rw [e, List.length_cons, List.length_cons, Reps.length h2]
theorem Reps.get : ∀ {l : List D} {vs : List V} {i : Nat} {d : D}, Reps K ι H l vs → l[i]? = some d → ∃ v, vs[i]? = some v ∧ Rep K ι H d v
  | [], _, _, _, _, e => by simp at e
  | d :: r, vs, i, d', h, e => by
    simp only [Reps] at h
    obtain ⟨v, ws, rfl, h1, h2⟩ := h
    cases i with
    | zero => simp at e; subst e; exact ⟨v, rfl, h1⟩
    | succ i => simpa using Reps.get (i := i) h2 (by simpa using e)
theorem Reps.get' : ∀ {l : List D} {vs : List V} {i : Nat} {v : V}, Reps K ι H l vs → vs[i]? = some v → ∃ d, l[i]? = some d ∧ Rep K ι H d v
  | [], _, _, _, h, e => by simp only [Reps] at h; subst h; simp at e
  | d :: r, vs, i, d', h, e => by
    simp only [Reps] at h
    obtain ⟨v, ws, rfl, h1, h2⟩ := h
    cases i with
    | zero => simp at e; subst e; exact ⟨d, rfl, h1⟩
    | succ i => simpa using Reps.get' (i := i) h2 (by simpa using e)
theorem Reps.nil : Reps K ι H [] [] := by simp [Reps]
theorem Reps.cons {d : D} {v : V} {l : List D} {vs : List V} (h : Rep K ι H d v) (h2 : Reps K ι H l vs) : Reps K ι H (d :: l) (v :: vs) := by
  simp only [Reps]; exact ⟨v, vs, rfl, h, h2⟩
theorem Reps.append : ∀ {l m : List D} {vs ws : List V}, Reps K ι H l vs → Reps K ι H m ws → Reps K ι H (l ++ m) (vs ++ ws)
  | [], m, vs, ws, h, g => by simp only [Reps] at h; subst h; exact g
  | d :: r, m, vs, ws, h, g => by
    simp only [Reps] at h
    obtain ⟨v, us, rfl, h1, h2⟩ := h
    exact .cons h1 (Reps.append h2 g)
theorem Reps.take : ∀ {l : List D} {vs : List V} (n : Nat), Reps K ι H l vs → Reps K ι H (l.take n) (vs.take n)
  | _, _, 0, _ => by simp [Reps]
  | [], vs, n + 1, h => by simp only [Reps] at h; subst h; simp [Reps]
  | d :: r, vs, n + 1, h => by
    simp only [Reps] at h
    obtain ⟨v, us, rfl, h1, h2⟩ := h
    exact .cons h1 (Reps.take n h2)
theorem Reps.drop : ∀ {l : List D} {vs : List V} (n : Nat), Reps K ι H l vs → Reps K ι H (l.drop n) (vs.drop n)
  | _, _, 0, h => by simpa using h
  | [], vs, n + 1, h => by simp only [Reps] at h; subst h; simp [Reps]
  | d :: r, vs, n + 1, h => by
    simp only [Reps] at h
    obtain ⟨v, us, rfl, h1, h2⟩ := h
    exact Reps.drop n h2
theorem Reps.set : ∀ {l : List D} {vs : List V} (n : Nat) {d : D} {v : V}, Reps K ι H l vs → Rep K ι H d v → Reps K ι H (l.set n d) (vs.set n v)
  | [], vs, n, _, _, h, g => by simp only [Reps] at h; subst h; simp [Reps]
  | _ :: r, vs, 0, d, v, h, g => by
    simp only [Reps] at h
    obtain ⟨v, us, rfl, h1, h2⟩ := h
    exact .cons g h2
  | _ :: r, vs, n + 1, d, v, h, g => by
    simp only [Reps] at h
    obtain ⟨v, us, rfl, h1, h2⟩ := h
    exact .cons h1 (Reps.set n h2 g)
theorem Reps.eraseIdx : ∀ {l : List D} {vs : List V} (n : Nat), Reps K ι H l vs → Reps K ι H (l.eraseIdx n) (vs.eraseIdx n)
  | [], vs, n, h => by simp only [Reps] at h; subst h; simp [Reps]
  | _ :: r, vs, 0, h => by
    simp only [Reps] at h
    obtain ⟨v, us, rfl, h1, h2⟩ := h
    exact h2
  | _ :: r, vs, n + 1, h => by
    simp only [Reps] at h
    obtain ⟨v, us, rfl, h1, h2⟩ := h
    exact .cons h1 (Reps.eraseIdx n h2)
theorem Reps.dropLast {l : List D} {vs : List V} (h : Reps K ι H l vs) : Reps K ι H l.dropLast vs.dropLast := by
  rw [List.dropLast_eq_take, List.dropLast_eq_take, h.length]
  exact h.take _
/-- a new object, not of the store -/
theorem Ext.new {p : Addr} {o : HO} (hp : H p = none) : Ext K ι H ι (upd H p o) := by
  refine ⟨⟨[], by simp⟩, rfl, fun a h n => absurd h n, fun a xs h => ?_, fun a xs _ h => ?_, fun a xs _ h => ?_, fun a o u h => ?_, fun a h => ?_⟩
  · rcases h with ⟨ob, h0, h⟩ | h
    · exact .inl ⟨ob, h0, by rw [upd_ne (ne_of_none h hp)]; exact h⟩
    · exact .inr h
  · rw [upd_ne (ne_of_none h hp)]; exact h
  · rw [upd_ne (ne_of_none h hp)]; exact h
  · rw [upd_ne (ne_of_none h hp)]; exact h
  · by_cases e : a = p
    · subst e; exact absurd hp h
    · rw [upd_ne e]; exact h
/-- a new object of the store -/
theorem Ext.push {p : Addr} {o : HO} (hp : H p = none) : Ext K ι H (ι.push p) (upd H p o) := by
  have x : Ext K ι H ι (upd H p o) := Ext.new hp
  refine ⟨⟨[p], rfl⟩, rfl, fun a h n => ?_, x.tup, x.lst, x.dk, x.frz, x.keep⟩
  rcases List.mem_append.mp h with h | h
  · exact absurd h n
  · have e : a = p := by simpa using h
    subst e; exact hp
/-- an object of the store is written -/
theorem Ext.write {a : Addr} {o : HO} (h : a ∈ ι.r) (hm : Mut (H a)) : Ext K ι H ι (upd H a o) := by
  have nt : ∀ b u, H b = some u → ¬ Mut (some u) → b ≠ a := fun b u q n z => by subst z; rw [q] at hm; exact n hm
  refine ⟨⟨[], by simp⟩, rfl, fun b h n => absurd h n, fun b xs h => ?_, fun b xs n h => ?_, fun b xs n h => ?_, fun b o u h => ?_, fun b h => ?_⟩
  · rcases h with ⟨ob, h0, h⟩ | h
    · exact .inl ⟨ob, h0, by rw [upd_ne (nt b _ h fun z => z)]; exact h⟩
    · exact .inr h
  · rw [upd_ne (fun z => n (by rw [z]; exact (by assumption)))]; exact h
  · rw [upd_ne (fun z => n (by rw [z]; exact (by assumption)))]; exact h
  · rw [upd_ne (nt b _ h fun z => z)]; exact h
  · by_cases e : b = a
    · subst e; rw [upd_same]; simp
    · rw [upd_ne e]; exact h
theorem Oat.ext {a : Addr} {o : O} (x : Ext K ι H ι' H') (h : Oat K ι H a o) (he : H' a = H a) : Oat K ι' H' a o := h.extW x.w he
theorem Sat.get (s : Sat K ι H S) {n : Nat} {o : O} (h : S[n]? = some o) : ∃ a, ι.r[n]? = some a ∧ Oat K ι H a o := by
  have hn : n < ι.r.length := by rw [s.len]; exact (List.getElem?_eq_some_iff.mp h).1
  exact ⟨ι.r[n], List.getElem?_eq_getElem hn, s.at_ n o _ h (List.getElem?_eq_getElem hn)⟩
theorem Sat.new (s : Sat K ι H S) {p : Addr} {o : HO} (hp : H p = none) : Sat K ι (upd H p o) S := by
  refine ⟨s.len, s.nd, fun i ob a h1 h2 => (s.at_ i ob a h1 h2).ext (Ext.new hp) ?_, fun a h => (Ext.new (K := K) (ι := ι) hp).keep a (s.there a h), s.apart⟩
  have : a ≠ p := fun z => s.there a (.inl (List.mem_of_getElem? h2)) (by rw [z]; exact hp)
  rw [upd_ne this]
theorem Sat.notIn (s : Sat K ι H S) {p : Addr} (hp : H p = none) : p ∉ ι.r ∧ p ∉ ι.h := ⟨fun z => s.there p (.inl z) hp, fun z => s.there p (.inr z) hp⟩
theorem Sat.last (s : Sat K ι H S) (p : Addr) : (ι.push p).r[S.length]? = some p := by
  show (ι.r ++ [p])[S.length]? = some p
  rw [← s.len, List.getElem?_append_right (Nat.le_refl _)]
  simp
theorem Sat.push (s : Sat K ι H S) {p : Addr} {o : HO} {ob : O} (hp : H p = none) (h : Oat K (ι.push p) (upd H p o) p ob) : Sat K (ι.push p) (upd H p o) (S ++ [ob]) := by
  have hn := s.notIn hp
  refine ⟨by show (ι.r ++ [p]).length = _; rw [List.length_append, List.length_append, s.len]; rfl, ?_, fun i o' a h1 h2 => ?_, fun a h => ?_, fun a ha hr => ?_⟩
  · show (ι.r ++ [p]).Nodup
    rw [List.nodup_append]
    exact ⟨s.nd, by simp, fun a ha b hb => by
      have e : b = p := by simpa using hb
      subst e; exact fun z => hn.1 (by rw [← z]; exact ha)⟩
  · by_cases hi : i < S.length
    · rw [List.getElem?_append_left hi] at h1
      have h2' : (ι.r ++ [p])[i]? = some a := h2
      rw [List.getElem?_append_left (by rw [s.len]; exact hi)] at h2'
      refine (s.at_ i o' a h1 h2').ext (Ext.push hp) ?_
      rw [upd_ne (fun z => hn.1 (by rw [← z]; exact List.mem_of_getElem? h2'))]
    · have hi' : i = S.length := by
        have := (List.getElem?_eq_some_iff.mp h1).1
        simp at this; omega
      subst hi'
      rw [List.getElem?_append_right (Nat.le_refl _)] at h1
      rw [s.last p] at h2
      simp at h1 h2
      subst h1 h2
      exact h
  · have x : Ext K ι H ι (upd H p o) := Ext.new hp
    rcases h with h | h
    · rcases List.mem_append.mp h with h | h
      · exact x.keep a (s.there a (.inl h))
      · have e : a = p := by simpa using h
        subst e; rw [upd_same]; simp
    · exact x.keep a (s.there a (.inr h))
  · rcases List.mem_append.mp hr with h | h
    · exact s.apart a ha h
    · have e : a = p := by simpa using h
      subst e; exact hn.2 ha
theorem Sat.write (s : Sat K ι H S) {n : Nat} {a : Addr} {o : HO} {ob : O} (h : ι.r[n]? = some a) (hm : Mut (H a)) (hn : Oat K ι (upd H a o) a ob) : Sat K ι (upd H a o) (S.set n ob) := by
  have x : Ext K ι H ι (upd H a o) := Ext.write (List.mem_of_getElem? h) hm
  refine ⟨by rw [List.length_set]; exact s.len, s.nd, fun i o' b h1 h2 => ?_, fun b hb => x.keep b (s.there b hb), s.apart⟩
  by_cases e : n = i
  · subst e
    rw [h] at h2; cases h2
    have hl : n < S.length := by rw [← s.len]; exact (List.getElem?_eq_some_iff.mp h).1
    rw [List.getElem?_set_self hl] at h1
    cases h1
    exact hn
  · rw [List.getElem?_set_ne e] at h1
    refine (s.at_ i o' b h1 h2).ext x ?_
    rw [upd_ne]
    intro z
    subst z
    obtain ⟨l1, e1⟩ := List.getElem?_eq_some_iff.mp h
    obtain ⟨l2, e2⟩ := List.getElem?_eq_some_iff.mp h2
    exact e ((List.getElem_inj s.nd).mp (e1.trans e2.symm))

/-! ### an object held back -/
/-- a new object, held back, changes: what stood ahead of it does not see it -/
theorem Ext.side (x : Ext K ι H ι' H') {D : Addr} {o : HO} (hD : H D = none) : Ext K ι H ι' (upd H' D o) := by
  have ne : ∀ a, H a ≠ none → a ≠ D := fun a h z => h (by rw [z]; exact hD)
  refine ⟨x.pre, x.hid, x.fresh, fun a xs h => ?_, fun a xs n h => ?_, fun a xs n h => ?_, fun a o u h => ?_, fun a h => ?_⟩
  · rcases x.tup a xs h with ⟨ob, h0, h1⟩ | h1
    · rcases h with ⟨ob2, h2, h3⟩ | h3
      · exact .inl ⟨ob, h0, by rw [upd_ne (ne a (by rw [h3]; simp))]; exact h1⟩
      · exact .inr h3
    · exact .inr h1
  · rw [upd_ne (ne a (by rw [h]; simp))]; exact x.lst a xs n h
  · rw [upd_ne (ne a (by rw [h]; simp))]; exact x.dk a xs n h
  · rw [upd_ne (ne a (by rw [h]; simp))]; exact x.frz a o u h
  · rw [upd_ne (ne a h)]; exact x.keep a h
/-- within: what is held back is held back all the time -/
theorem Ext.unhide {D : Addr} (x : Ext K (ι.hide D) H (ι'.hide D) H') : Ext K ι H ι' H' :=
  ⟨x.pre, by have := x.hid; exact (List.cons.inj this).2, x.fresh, x.tup, x.lst, x.dk, x.frz, x.keep⟩
theorem Ext.hidden {D : Addr} (x : Ext K (ι.hide D) H ι' H') : ∃ κ : Ad, ι' = κ.hide D := ⟨⟨ι'.r, ι.h⟩, by
  cases ι' with
  | mk r h => have e : h = D :: ι.h := x.hid; subst e; rfl⟩
mutual
theorem Rep.side {D : Addr} {o : HO} (hD : ∀ ob u, H D ≠ some (.frz ob u)) : ∀ {d : Tt.D} {v : V}, Rep K (ι.hide D) H d v → Rep K (ι.hide D) (upd H D o) d v
  | .non, v, h => by simp only [Rep] at h ⊢; exact h
  | .bl b, v, h => by simp only [Rep] at h ⊢; exact h
  | .int b, v, h => by simp only [Rep] at h ⊢; exact h
  | .str b, v, h => by simp only [Rep] at h ⊢; exact h
  | .tup l, v, h => by
    simp only [Rep] at h ⊢
    obtain ⟨a, vs, e, t, r⟩ := h
    refine ⟨a, vs, e, ?_, Reps.side hD r⟩
    rcases t with ⟨ob, h0, t⟩ | t
    · exact .inl ⟨ob, h0, by rw [upd_ne (fun z => hD _ _ (by rw [← z]; exact t))]; exact t⟩
    · exact .inr t
  | .lst l, v, h => by
    simp only [Rep] at h ⊢
    obtain ⟨a, vs, e, t, n, r⟩ := h
    exact ⟨a, vs, e, by rw [upd_ne (fun z => n.2 (by rw [z]; exact List.mem_cons_self))]; exact t, n, Reps.side hD r⟩
  | .fzl l, v, h => by
    simp only [Rep] at h ⊢
    obtain ⟨a, vs, e, t, r⟩ := h
    refine ⟨a, vs, e, ?_, Reps.side hD r⟩
    rcases t with ⟨ob, t⟩ | t
    · exact .inl ⟨ob, by rw [upd_ne (fun z => hD _ _ (by rw [← z]; exact t))]; exact t⟩
    · exact .inr t
  | .ref n, v, h => by
    simp only [Rep] at h ⊢
    exact h
theorem Reps.side {D : Addr} {o : HO} (hD : ∀ ob u, H D ≠ some (.frz ob u)) : ∀ {l : List Tt.D} {vs : List V}, Reps K (ι.hide D) H l vs → Reps K (ι.hide D) (upd H D o) l vs
  | [], vs, h => by simp only [Reps] at h ⊢; exact h
  | d :: r, vs, h => by
    simp only [Reps] at h ⊢
    obtain ⟨v, ws, e, h1, h2⟩ := h
    exact ⟨v, ws, e, Rep.side hD h1, Reps.side hD h2⟩
end
mutual
/-- no longer held back: a value, or an object of the store -/
theorem Rep.shown {D : Addr} {κ : Ad} (hr : ∀ (n : Nat) a, ι.r[n]? = some a → κ.r[n]? = some a) (hk : ∀ a, a ∉ ι.r → a ∉ (ι.hide D).h → a ∉ κ.r ∧ a ∉ κ.h) : ∀ {d : Tt.D} {v : V}, Rep K (ι.hide D) H d v → Rep K κ H d v
  | .non, v, h => by simp only [Rep] at h ⊢; exact h
  | .bl b, v, h => by simp only [Rep] at h ⊢; exact h
  | .int b, v, h => by simp only [Rep] at h ⊢; exact h
  | .str b, v, h => by simp only [Rep] at h ⊢; exact h
  | .tup l, v, h => by
    simp only [Rep] at h ⊢
    obtain ⟨a, vs, e, t, r⟩ := h
    exact ⟨a, vs, e, t, Reps.shown hr hk r⟩
  | .lst l, v, h => by
    simp only [Rep] at h ⊢
    obtain ⟨a, vs, e, t, n, r⟩ := h
    exact ⟨a, vs, e, t, hk a n.1 n.2, Reps.shown hr hk r⟩
  | .fzl l, v, h => by
    simp only [Rep] at h ⊢
    obtain ⟨a, vs, e, t, r⟩ := h
    exact ⟨a, vs, e, t, Reps.shown hr hk r⟩
  | .ref n, v, h => by
    simp only [Rep] at h ⊢
    obtain ⟨a, e, t⟩ := h
    exact ⟨a, e, hr n a t⟩
theorem Reps.shown {D : Addr} {κ : Ad} (hr : ∀ (n : Nat) a, ι.r[n]? = some a → κ.r[n]? = some a) (hk : ∀ a, a ∉ ι.r → a ∉ (ι.hide D).h → a ∉ κ.r ∧ a ∉ κ.h) : ∀ {l : List Tt.D} {vs : List V}, Reps K (ι.hide D) H l vs → Reps K κ H l vs
  | [], vs, h => by simp only [Reps] at h ⊢; exact h
  | d :: r, vs, h => by
    simp only [Reps] at h ⊢
    obtain ⟨v, ws, e, h1, h2⟩ := h
    exact ⟨v, ws, e, Rep.shown hr hk h1, Reps.shown hr hk h2⟩
end
theorem Krep.side {D : Addr} {o : HO} (hD : ∀ ob u, H D ≠ some (.frz ob u)) : ∀ {l : List (Key × Tt.D)} {vs : List (Key × V)}, Krep K (ι.hide D) H l vs → Krep K (ι.hide D) (upd H D o) l vs
  | [], vs, h => by simp only [Krep] at h ⊢; exact h
  | d :: r, vs, h => by
    simp only [Krep] at h ⊢
    obtain ⟨v, ws, e, h1, h2⟩ := h
    exact ⟨v, ws, e, Rep.side hD h1, Krep.side hD h2⟩
theorem Krep.shown {D : Addr} {κ : Ad} (hr : ∀ (n : Nat) a, ι.r[n]? = some a → κ.r[n]? = some a) (hk : ∀ a, a ∉ ι.r → a ∉ (ι.hide D).h → a ∉ κ.r ∧ a ∉ κ.h) : ∀ {l : List (Key × Tt.D)} {vs : List (Key × V)}, Krep K (ι.hide D) H l vs → Krep K κ H l vs
  | [], vs, h => by simp only [Krep] at h ⊢; exact h
  | d :: r, vs, h => by
    simp only [Krep] at h ⊢
    obtain ⟨v, ws, e, h1, h2⟩ := h
    exact ⟨v, ws, e, Rep.shown hr hk h1, Krep.shown hr hk h2⟩
theorem Oat.shown {D a : Addr} {κ : Ad} {o : O} (hr : ∀ (n : Nat) a, ι.r[n]? = some a → κ.r[n]? = some a) (hk : ∀ a, a ∉ ι.r → a ∉ (ι.hide D).h → a ∉ κ.r ∧ a ∉ κ.h) (h : Oat K (ι.hide D) H a o) : Oat K κ H a o := by
  cases o with
  | lst l => obtain ⟨vs, e, r⟩ := h; exact ⟨vs, e, r.shown hr hk⟩
  | dic kvs => obtain ⟨vs, e, r⟩ := h; exact ⟨vs, e, r.shown hr hk⟩
  | dead => trivial
end
section
variable {K : PySem.W.Frag} {ι ι' ι1 : Ad} {H H' H1 : Hp} {S S' : Sto}
/-- a new object is held back -/
theorem ExtW.hide (x : Ext K ι H ι' H') {p : Addr} (hp : H p = none) : ExtW K ι H (ι'.hide p) H' :=
  ⟨x.pre, fun a h => by
    rcases List.mem_cons.mp h with e | h
    · subst e; exact .inr hp
    · exact .inl (by rw [← x.hid]; exact h), x.fresh, x.tup, x.lst, x.sqf⟩
theorem Sat.hide (s : Sat K ι H S) {p : Addr} {o : HO} (hp : H p = none) : Sat K (ι.hide p) (upd H p o) S := by
  have hn := s.notIn hp
  have x : ExtW K ι H (ι.hide p) (upd H p o) := ExtW.hide (Ext.new hp) hp
  refine ⟨s.len, s.nd, fun i ob a h1 h2 => (s.at_ i ob a h1 h2).extW x ?_, fun a h => ?_, fun a ha => ?_⟩
  · rw [upd_ne (fun z => hn.1 (by rw [← z]; exact List.mem_of_getElem? h2))]
  · have x : Ext K ι H ι (upd H p o) := Ext.new hp
    rcases h with h | h
    · exact x.keep a (s.there a (.inl h))
    · rcases List.mem_cons.mp h with e | h
      · subst e; rw [upd_same]; simp
      · exact x.keep a (s.there a (.inr h))
  · rcases List.mem_cons.mp ha with e | h
    · subst e; exact hn.1
    · exact s.apart a h
theorem Sat.side {D : Addr} (s : Sat K (ι.hide D) H S) {o : HO} (hD : ∀ ob u, H D ≠ some (.frz ob u)) : Sat K (ι.hide D) (upd H D o) S := by
  have ne : ∀ a, a ∈ ι.r → a ≠ D := fun a h z => s.apart D List.mem_cons_self (by rw [← z]; exact h)
  refine ⟨s.len, s.nd, fun i ob a h1 h2 => ?_, fun a h => ?_, s.apart⟩
  · have e : upd H D o a = H a := upd_ne (ne a (List.mem_of_getElem? h2))
    have h := s.at_ i ob a h1 h2
    cases ob with
    | lst l => obtain ⟨vs, e1, r⟩ := h; exact ⟨vs, by rw [e]; exact e1, r.side hD⟩
    | dic l => obtain ⟨vs, e1, r⟩ := h; exact ⟨vs, by rw [e]; exact e1, r.side hD⟩
    | dead => trivial
  · by_cases e : a = D
    · subst e; rw [upd_same]; simp
    · rw [upd_ne e]; exact s.there a h
theorem Sat.show {D : Addr} (s : Sat K (ι.hide D) H S) : Sat K ι H S :=
  ⟨s.len, s.nd, fun i o a h1 h2 => (s.at_ i o a h1 h2).shown (fun _ _ h => h) fun a h1 h2 => ⟨h1, fun z => h2 (List.mem_cons_of_mem _ z)⟩, fun a h => s.there a (h.imp id fun z => List.mem_cons_of_mem _ z), fun a h => s.apart a (List.mem_cons_of_mem _ h)⟩
/-- what was held back becomes an object of the store -/
theorem push_shown {D : Addr} (hD : D ∉ ι.h) : (∀ (n : Nat) a, ι.r[n]? = some a → (ι.push D).r[n]? = some a) ∧ ∀ a, a ∉ ι.r → a ∉ (ι.hide D).h → a ∉ (ι.push D).r ∧ a ∉ (ι.push D).h := by
  refine ⟨fun n a h => ?_, fun a h1 h2 => ⟨fun z => ?_, fun z => h2 (List.mem_cons_of_mem _ z)⟩⟩
  · show (ι.r ++ [D])[n]? = some a
    rw [List.getElem?_append_left (List.getElem?_eq_some_iff.mp h).1]
    exact h
  · rcases List.mem_append.mp z with z | z
    · exact h1 z
    · exact h2 (by rw [show a = D by simpa using z]; exact List.mem_cons_self)
theorem Sat.pushed {D : Addr} {ob : O} (s : Sat K (ι.hide D) H S) (hD : D ∉ ι.h) (h : Oat K (ι.push D) H D ob) : Sat K (ι.push D) H (S ++ [ob]) := by
  have hr : D ∉ ι.r := s.apart D List.mem_cons_self
  obtain ⟨p1, p2⟩ := push_shown (ι := ι) hD
  refine ⟨by show (ι.r ++ [D]).length = _; rw [List.length_append, List.length_append, show ι.r.length = S.length from s.len]; rfl, ?_, fun i o' a h1 h2 => ?_, fun a h => ?_, fun a ha hm => ?_⟩
  · show (ι.r ++ [D]).Nodup
    rw [List.nodup_append]
    exact ⟨s.nd, by simp, fun a ha b hb => by
      have e : b = D := by simpa using hb
      subst e; exact fun z => hr (by rw [← z]; exact ha)⟩
  · by_cases hi : i < S.length
    · rw [List.getElem?_append_left hi] at h1
      have h2' : (ι.r ++ [D])[i]? = some a := h2
      rw [List.getElem?_append_left (by rw [show ι.r.length = S.length from s.len]; exact hi)] at h2'
      exact (s.at_ i o' a h1 h2').shown p1 p2
    · have hi' : i = S.length := by
        have := (List.getElem?_eq_some_iff.mp h1).1
        simp at this; omega
      subst hi'
      rw [List.getElem?_append_right (Nat.le_refl _)] at h1
      rw [(s.show).last D] at h2
      simp at h1 h2
      subst h1 h2
      exact h
  · rcases h with h | h
    · rcases List.mem_append.mp h with h | h
      · exact s.there a (.inl h)
      · exact s.there a (.inr (by rw [show a = D by simpa using h]; exact List.mem_cons_self))
    · exact s.there a (.inr (List.mem_cons_of_mem _ h))
  · rcases List.mem_append.mp hm with h | h
    · exact s.apart a (List.mem_cons_of_mem _ ha) h
    · exact hD (by rw [← show a = D by simpa using h]; exact ha)
theorem Ext.pushed (x : Ext K ι H ι' H') {D : Addr} (hD : H D = none) : Ext K ι H (ι'.push D) H' := by
  refine ⟨?_, x.hid, fun a h n => ?_, x.tup, x.lst, x.dk, x.frz, x.keep⟩
  · obtain ⟨t, e⟩ := x.pre
    exact ⟨t ++ [D], by show ι'.r ++ [D] = _; rw [e, List.append_assoc]⟩
  · rcases List.mem_append.mp h with h | h
    · exact x.fresh a h n
    · rw [show a = D by simpa using h]; exact hD
end

/-! ### rules whose new tuples are known whole -/
section
variable {X : Cx} {pins : List (Addr × Obj)} {σ : L2.St} {H : Hp} {s : Shared}
theorem laidS {h : Heap} {its : List Value} {xs : List V} {t : Nat} (I : Inv X pins σ H { s with heap := h, toks := t }) (r : Vals xs its) (hz : xs.length ≤ sizeLine) :
    Inv X pins σ (upd H h.objs.size (.frz { cls := .type "tuple", data := .seq its.toArray } (.tup xs))) { s with heap := h.push { cls := .type "tuple", data := .seq its.toArray }, toks := t } ∧ H h.objs.size = none :=
  ⟨I.laid (t' := t) (fun b o e => Heap.get?_push_of_some _ e) (Nat.le_refl _) ⟨Heap.get?_push_size _ rfl, hz, its, r, IsTup.new _ _⟩, I.hok.fresh (Nat.le_refl _)⟩
def tTupS (t : TA) : TE := fun σ H Q => t σ H fun xs H1 => xs.length ≤ sizeLine ∧ ∀ p ob, ob.dict = none → H1 p = none → Q (.ref p) (upd H1 p (.frz ob (.tup xs)))
theorem pe_tupS {es : List Expr} {t : TA} {x1 : Nat} {pos : Pos} (h : PA X es t) : PE X (.Tuple es x1 pos) (tTupS t) := by
  refine ⟨fun pins s σ H Q I hq => ?_⟩
  refine wpAny_Tuple_spliced (thn (h.run pos pins s σ H _ I hq) fun us s1 ⟨xs, H1, I1, r, z, q⟩ => ⟨by rw [← r.length]; exact z, ?_⟩)
  obtain ⟨I2, hn⟩ := laidS (h := s1.heap) (t := s1.toks) I1 r z
  exact ⟨.ref s1.heap.objs.size, _, I2, rfl, q _ _ rfl hn⟩
theorem call_tuple_ofS : CallR X (.type "tuple") (fun xs H Q => ∃ p ys, xs = [.ref p] ∧ ((SqL X.K H p ys ∧ ∀ l ob, ob.dict = none → H l = none → Q (.ref l) (upd H l (.frz ob (.tup ys)))) ∨ (SqT X.K H p ys ∧ Q (.ref p) H))) := by
  intro pins s σ H xs us Q I r h
  obtain ⟨p, ys, rfl, h⟩ := h
  obtain ⟨u, rfl, rx⟩ := vals1 r
  cases rx
  rcases h with ⟨hq, q⟩ | ⟨hq, q⟩
  · obtain ⟨its, r', pl, hz⟩ := I.list hq
    have hlen := r'.length
    refine call_tuple_list pl.isList (fun h' kp => ?_) (by simp only [List.size_toArray] <;> omega)
    have I1 : Inv X pins σ H { s with heap := h' } := I.kept (t' := s.toks) kp
    obtain ⟨I2, hn⟩ := laidS (h := h') (t := s.toks) I1 r' hz
    exact ⟨.ref h'.objs.size, _, I2, rfl, q _ _ rfl hn⟩
  · obtain ⟨its, r', pl, hz⟩ := I.tuple hq
    exact call_tuple_same pl ⟨.ref p, H, I, rfl, q⟩
def rCatS (K : PySem.W.Frag) : R2 := fun x y H Q => ∃ a b xs ys, x = .ref a ∧ y = .ref b ∧ SqT K H a xs ∧ SqT K H b ys ∧ xs.length + ys.length ≤ sizeLine ∧
  (xs = [] → Q (.ref b) H) ∧ (xs ≠ [] → ys = [] → Q (.ref a) H) ∧ (xs ≠ [] → ys ≠ [] → ∀ p ob, ob.dict = none → H p = none → Q (.ref p) (upd H p (.frz ob (.tup (xs ++ ys)))))
theorem op_catS : OpR X (binaryOp .Add) (rCatS X.K) := by
  intro pins s σ H x y v u Q I rx ry h
  obtain ⟨a, b, xs, ys, rfl, rfl, ha, hb, hz, q0, q1, q2⟩ := h
  cases rx
  cases ry
  obtain ⟨its, r1, p1, _⟩ := I.tuple ha
  obtain ⟨its2, r2, p2, _⟩ := I.tuple hb
  by_cases hx : xs = []
  · subst hx
    cases r1
    exact cat_tup0 p1 p2 ⟨.ref b, H, I, rfl, q0 rfl⟩
  · refine HT.cat_tup p1 p2 (fun z => hx (r1.nil_iff.mp z)) (fun z => ⟨.ref a, H, I, rfl, q1 hx (r2.nil_iff.mp z)⟩) (fun z => ?_) (by rw [← r1.length, ← r2.length]; exact hz)
    obtain ⟨I2, hn⟩ := laidS (h := s.heap) (t := s.toks) I (r1.append r2) (by rw [List.length_append]; exact hz)
    exact ⟨.ref s.heap.objs.size, _, I2, rfl, q2 hx (fun w => z (r2.nil_iff.mpr w)) _ _ rfl hn⟩
def rSlS (K : PySem.W.Frag) : V → Option Int → Option Int → Hp → VK → Prop := fun x lo hi H Q => ∃ a xs, x = .ref a ∧ SqT K H a xs ∧
  (HT.sIx xs.length 0 lo = 0 ∧ HT.sIx xs.length xs.length hi = xs.length → Q (.ref a) H) ∧ (¬ (HT.sIx xs.length 0 lo = 0 ∧ HT.sIx xs.length xs.length hi = xs.length) → ∀ p ob, ob.dict = none → H p = none → Q (.ref p) (upd H p (.frz ob (.tup (cutV xs lo hi)))))
theorem sl_tupS : SlR X (rSlS X.K) := by
  intro pins s σ H x v vl vu lo hi sl Q I rx hs pl pu h
  obtain ⟨a, xs, rfl, hx, q1, q2⟩ := h
  cases rx
  obtain ⟨its, r, ht, hz⟩ := I.tuple hx
  have hlen : its.toArray.size = xs.length := by rw [List.size_toArray]; exact r.length.symm
  refine ⟨"tuple", _, PyProof.Rows.slot_tuple_getitem.lookup, ht.typeIs, ?_⟩
  by_cases hw : HT.sIx xs.length 0 lo = 0 ∧ HT.sIx xs.length xs.length hi = xs.length
  · exact getItem_tuple_whole ht hs pl pu (by rw [hlen]; exact hw) ⟨.ref a, H, I, rfl, q1 hw⟩
  · refine HT.getItem_tuple_cut ht hs pl pu (by rw [hlen]; exact hw) ?_ (by rw [hlen]; exact hz)
    rw [hlen]
    obtain ⟨I2, hn⟩ := laidS (h := s.heap) (t := s.toks) I ((r.drop (HT.sIx xs.length 0 lo)).take (HT.sIx xs.length xs.length hi - HT.sIx xs.length 0 lo)) (Nat.le_trans (cutV_length xs lo hi) hz)
    exact ⟨.ref s.heap.objs.size, _, I2, rfl, q2 hw _ _ rfl hn⟩
end
end Tt
end

section
/-! Each form of an expression keeps to its evaluation. -/
namespace Tt
open PySem PySem.Spec PyProof.Rows L2

/-- what an evaluation asks: an expression's, a list's, a test's -/
def sE (K : PySem.W.Frag) (m : En → Sto → Option (D × Sto)) : TE := fun σ H Q => ∃ ι env S d S', Sat K ι H S ∧ Eat K ι H env σ ∧ m env S = some (d, S') ∧
  ∀ ι' H' v, Ext K ι H ι' H' → Sat K ι' H' S' → Rep K ι' H' d v → Q v H'
def sA (K : PySem.W.Frag) (m : En → Sto → Option (List D × Sto)) : TA := fun σ H Q => ∃ ι env S d S', Sat K ι H S ∧ Eat K ι H env σ ∧ m env S = some (d, S') ∧
  ∀ ι' H' v, Ext K ι H ι' H' → Sat K ι' H' S' → Reps K ι' H' d v → Q v H'
def sT (K : PySem.W.Frag) (m : En → Sto → Option (Bool × Sto)) : TT := fun σ H Q => ∃ ι env S d S', Sat K ι H S ∧ Eat K ι H env σ ∧ m env S = some (d, S') ∧
  ∀ ι' H', Ext K ι H ι' H' → Sat K ι' H' S' → Q d H'

section
variable {X : Cx}
theorem PE.imp {e : Expr} {t t' : TE} (h : PE X e t) (w : ∀ σ H Q, t' σ H Q → t σ H Q) : PE X e t' := ⟨fun pins s σ H Q I q => h.run pins s σ H Q I (w σ H Q q)⟩
theorem PT.imp {e : Expr} {t t' : TT} (h : PT X e t) (w : ∀ σ H Q, t' σ H Q → t σ H Q) : PT X e t' := ⟨fun pins s σ H Q I q => h.run pins s σ H Q I (w σ H Q q)⟩
theorem PW.imp {e : Expr} {t t' : TT} (h : PW X e t) (w : ∀ σ H Q, t' σ H Q → t σ H Q) : PW X e t' := ⟨fun wh pins s σ H Q I q => h.run wh pins s σ H Q I (w σ H Q q)⟩
theorem PA.imp {e : List Expr} {t t' : TA} (h : PA X e t) (w : ∀ σ H Q, t' σ H Q → t σ H Q) : PA X e t' := ⟨fun pos pins s σ H Q I q => h.run pos pins s σ H Q I (w σ H Q q)⟩
theorem PS.imp {e : Stmt} {t t' : TS} (h : PS X e t) (w : ∀ D σ H, t' D σ H → t D σ H) : PS X e t' := ⟨fun pins s σ H D I q => h.run pins s σ H D I (w D σ H q)⟩
theorem PSs.imp {e : List Stmt} {t t' : TS} (h : PSs X e t) (w : ∀ D σ H, t' D σ H → t D σ H) : PSs X e t' := ⟨fun pins s σ H D I q => h.run pins s σ H D I (w D σ H q)⟩
end

/-! ### operators over data -/
/-- a rule of the layer serves an operator over data -/
def OpD (K : PySem.W.Frag) (r : R2) (f : D → D → Sto → Option (D × Sto)) : Prop :=
  ∀ ι H S a b x y d S' (Q : VK), Sat K ι H S → Rep K ι H a x → Rep K ι H b y → f a b S = some (d, S') →
    (∀ ι' H' v, Ext K ι H ι' H' → Sat K ι' H' S' → Rep K ι' H' d v → Q v H') → r x y H Q
theorem op_use {K : PySem.W.Frag} {r : R2} {f : D → D → Sto → Option (D × Sto)} (o : OpD K r f) {ma mb : En → Sto → Option (D × Sto)} {σ : L2.St} {H : Hp} {Q : VK}
    (h : sE K (fun env S => (ma env S).bind fun p => (mb env p.2).bind fun q => f p.1 q.1 q.2) σ H Q) : tOp r (sE K ma) (sE K mb) σ H Q := by
  obtain ⟨ι, env, S, d, S', hs, he, hm, q⟩ := h
  simp only [Option.bind_eq_some_iff] at hm
  obtain ⟨⟨a, S1⟩, h1, ⟨b, S2⟩, h2, h3⟩ := hm
  refine ⟨ι, env, S, a, S1, hs, he, h1, fun ι1 H1 x x1 s1 r1 => ?_⟩
  refine ⟨ι1, env, S1, b, S2, s1, he.ext x1, h2, fun ι2 H2 y x2 s2 r2 => ?_⟩
  exact o ι2 H2 S2 a b x y d S' Q s2 (r1.ext x2) r2 h3 fun ι' H' v x' s' r' => q ι' H' v ((x1.trans x2).trans x') s' r'

section
variable {K : PySem.W.Frag} {ι : Ad} {H : Hp} {S : Sto}
theorem rep_int {i : Int} {v : V} : Rep K ι H (.int i) v ↔ v = .int i := by simp only [Rep]
theorem rep_bl {i : Bool} {v : V} : Rep K ι H (.bl i) v ↔ v = .bl i := by simp only [Rep]
theorem rep_str {i : Str} {v : V} : Rep K ι H (.str i) v ↔ v = .str i := by simp only [Rep]
theorem rep_non {v : V} : Rep K ι H .non v ↔ v = .non := by simp only [Rep]
theorem rep_tup {l : List D} {v : V} : Rep K ι H (.tup l) v ↔ ∃ a vs, v = .ref a ∧ SqS K H a vs ∧ Reps K ι H l vs := by simp only [Rep]
theorem rep_lst {l : List D} {v : V} : Rep K ι H (.lst l) v ↔ ∃ a vs, v = .ref a ∧ H a = some (.lst vs) ∧ (a ∉ ι.r ∧ a ∉ ι.h) ∧ Reps K ι H l vs := by simp only [Rep]
theorem rep_fzl {l : List D} {v : V} : Rep K ι H (.fzl l) v ↔ ∃ a vs, v = .ref a ∧ SqF K H a vs ∧ Reps K ι H l vs := by simp only [Rep]
theorem rep_ref {n : Nat} {v : V} : Rep K ι H (.ref n) v ↔ ∃ a, v = .ref a ∧ ι.r[n]? = some a := by simp only [Rep]
/-- a list at hand -/
theorem litems_at (s : Sat K ι H S) {d : D} {v : V} {l : List D} (r : Rep K ι H d v) (h : litems S d = some l) : ∃ a vs, v = .ref a ∧ H a = some (.lst vs) ∧ Reps K ι H l vs := by
  cases d with
  | lst m =>
    simp only [litems, Option.some.injEq] at h
    subst h
    obtain ⟨a, vs, e, h1, _, h2⟩ := rep_lst.mp r
    exact ⟨a, vs, e, h1, h2⟩
  | ref n =>
    simp only [litems] at h
    obtain ⟨a, e, ha⟩ := rep_ref.mp r
    cases q : S[n]? with
    | none => rw [q] at h; cases h
    | some o =>
      rw [q] at h
      cases o with
      | lst m =>
        simp only [Option.some.injEq] at h
        subst h
        obtain ⟨vs, h1, h2⟩ := s.at_ n _ a q ha
        exact ⟨a, vs, e, h1, h2⟩
      | _ => cases h
  | _ => simp [litems] at h
theorem items_at (s : Sat K ι H S) {d : D} {v : V} {l : List D} (r : Rep K ι H d v) (h : items S d = some l) : ∃ a vs, v = .ref a ∧ (SqL K H a vs ∨ SqT K H a vs) ∧ Reps K ι H l vs := by
  cases d with
  | tup m =>
    simp only [items, Option.some.injEq] at h
    subst h
    obtain ⟨a, vs, e, h1, h2⟩ := rep_tup.mp r
    exact ⟨a, vs, e, .inr h1.t, h2⟩
  | fzl m =>
    simp only [items, Option.some.injEq] at h
    subst h
    obtain ⟨a, vs, e, h1, h2⟩ := rep_fzl.mp r
    exact ⟨a, vs, e, .inl h1.l, h2⟩
  | lst m =>
    obtain ⟨a, vs, e, h1, h2⟩ := litems_at s r (show litems S (.lst m) = some l from h)
    exact ⟨a, vs, e, .inl (SqL.of h1), h2⟩
  | ref n =>
    obtain ⟨a, vs, e, h1, h2⟩ := litems_at s r (show litems S (.ref n) = some l from h)
    exact ⟨a, vs, e, .inl (SqL.of h1), h2⟩
  | _ => simp [items] at h
/-- a new list -/
theorem mkL_at {fz : Bool} {l : List D} {d : D} {S' : Sto} {vs : List V} {Q : VK} (s : Sat K ι H S) (h : mkL fz l S = some (d, S')) (r : Reps K ι H l vs)
    (q : ∀ ι' H' v, Ext K ι H ι' H' → Sat K ι' H' S' → Rep K ι' H' d v → Q v H') : vs.length ≤ sizeLine ∧ ∀ p, H p = none → Q (.ref p) (upd H p (.lst vs)) := by
  unfold mkL at h
  split at h
  · rename_i hz
    refine ⟨by rw [r.length]; exact hz, fun p hp => ?_⟩
    split at h
    · cases h
      refine q ι _ _ (Ext.new hp) (s.new hp) (rep_lst.mpr ⟨p, vs, rfl, upd_same, s.notIn hp, r.ext (Ext.new hp)⟩)
    · cases h
      refine q (ι.push p) _ _ (Ext.push hp) (s.push hp ⟨vs, upd_same, r.ext (Ext.push hp)⟩) (rep_ref.mpr ⟨p, rfl, s.last p⟩)
  · cases h
theorem tup_at {l : List D} {vs : List V} {Q : VK} (s : Sat K ι H S) (r : Reps K ι H l vs)
    (q : ∀ ι' H' v, Ext K ι H ι' H' → Sat K ι' H' S → Rep K ι' H' (.tup l) v → Q v H') : ∀ p ob, ob.dict = none → H p = none → Q (.ref p) (upd H p (.frz ob (.tup vs))) := fun p ob h0 hp =>
  q ι _ _ (Ext.new hp) (s.new hp) (rep_tup.mpr ⟨p, vs, rfl, .inl ⟨ob, h0, upd_same⟩, r.ext (Ext.new hp)⟩)
end

/-! ### binary operators -/
theorem opd_int {K : PySem.W.Frag} {C : Int → Int → Prop} {g : Int → Int → Int} {f : D → D → Sto → Option (D × Sto)} (hf : ∀ a b S d S', f a b S = some (d, S') → ∃ i j, a = .int i ∧ b = .int j ∧ C i j ∧ d = .int (g i j) ∧ S' = S) :
    OpD K (rI C fun i j => .int (g i j)) f := by
  intro ι H S a b x y d S' Q s r1 r2 h q
  obtain ⟨i, j, rfl, rfl, c, rfl, rfl⟩ := hf _ _ _ _ _ h
  exact ⟨i, j, rep_int.mp r1, rep_int.mp r2, c, q ι H _ .refl s (rep_int.mpr rfl)⟩
def rAddAll (K : PySem.W.Frag) : R2 := fun x y H Q => (rI0 fun i j => .int (i + j)) x y H Q ∨ (∃ i j, x = .str i ∧ y = .str j ∧ i.length + j.length ≤ sizeLine ∧ Q (.str (i ++ j)) H) ∨ rCatS K x y H Q ∨ rCat x y H Q
theorem op_addAll {X : Cx} : OpR X (binaryOp .Add) (rAddAll X.K) := op_add.or (op_add_str.or (op_catS.or op_cat))
theorem opd_add {K : PySem.W.Frag} : OpD K (rAddAll K) (opB .add) := by
  intro ι H S a b x y d S' Q s r1 r2 h q
  have lists : ∀ a b, ((litems S a).bind fun l => (litems S b).bind fun r => mkL true (l ++ r) S) = some (d, S') → Rep K ι H a x → Rep K ι H b y → rAddAll K x y H Q := by
    intro a b h r1 r2
    simp only [Option.bind_eq_some_iff] at h
    obtain ⟨l, h1, r, h2, h3⟩ := h
    obtain ⟨p1, vs, e1, g1, q1⟩ := litems_at s r1 h1
    obtain ⟨p2, ws, e2, g2, q2⟩ := litems_at s r2 h2
    obtain ⟨hz, go⟩ := mkL_at (Q := Q) s h3 (q1.append q2) q
    exact .inr (.inr (.inr ⟨p1, p2, vs, ws, e1, e2, g1, g2, by rw [← List.length_append]; exact hz, go⟩))
  cases a with
  | int i =>
    cases b with
    | int j =>
      simp only [opB, Option.some.injEq, Prod.mk.injEq] at h
      obtain ⟨rfl, rfl⟩ := h
      exact .inl ⟨i, j, rep_int.mp r1, rep_int.mp r2, q ι H _ .refl s (rep_int.mpr rfl)⟩
    | _ => simp [opB, litems] at h
  | str i =>
    cases b with
    | str j =>
      simp only [opB] at h
      split at h
      · cases h
        exact .inr (.inl ⟨i, j, rep_str.mp r1, rep_str.mp r2, by assumption, q ι H _ .refl s (rep_str.mpr rfl)⟩)
      · cases h
    | _ => simp [opB, litems] at h
  | tup l =>
    cases b with
    | tup m =>
      simp only [opB] at h
      split at h
      · cases h
        obtain ⟨a1, vs, e1, g1, q1⟩ := rep_tup.mp r1
        obtain ⟨a2, ws, e2, g2, q2⟩ := rep_tup.mp r2
        refine .inr (.inr (.inl ⟨a1, a2, vs, ws, e1, e2, g1.t, g2.t, by rw [q1.length, q2.length]; assumption, fun z => ?_, fun z1 z2 => ?_, fun z1 z2 => tup_at s (q1.append q2) q⟩))
        · subst z
          have : l = [] := List.eq_nil_of_length_eq_zero (by rw [← q1.length]; rfl)
          subst this
          exact q ι H _ .refl s (rep_tup.mpr ⟨a2, ws, rfl, g2, q2⟩)
        · subst z2
          have : m = [] := List.eq_nil_of_length_eq_zero (by rw [← q2.length]; rfl)
          subst this
          rw [List.append_nil] at q
          exact q ι H _ .refl s (rep_tup.mpr ⟨a1, vs, rfl, g1, q1⟩)
      · cases h
    | _ => simp [opB, litems] at h
  | lst l => exact lists (.lst l) b (by simpa [opB] using h) r1 r2
  | ref n => exact lists (.ref n) b (by simpa [opB] using h) r1 r2
  | _ => simp [opB, litems] at h
theorem opd_sub {K : PySem.W.Frag} : OpD K (rI0 fun i j => .int (i - j)) (opB .sub) := by
  intro ι H S a b x y d S' Q s r1 r2 h q
  cases a <;> first
    | (simp [opB, litems] at h; done)
    | (cases b <;> first
        | (simp [opB, litems] at h; done)
        | (simp only [opB, Option.some.injEq, Prod.mk.injEq] at h; obtain ⟨rfl, rfl⟩ := h; exact ⟨_, _, rep_int.mp r1, rep_int.mp r2, q ι H _ .refl s (rep_int.mpr rfl)⟩))
theorem opd_mul {K : PySem.W.Frag} : OpD K (rI CMul fun i j => .int (i * j)) (opB .mul) := by
  refine opd_int (g := fun i j => i * j) fun a b S d S' h => ?_
  cases a <;> first
    | (simp [opB, litems] at h; done)
    | (cases b <;> first
        | (simp [opB, litems] at h; done)
        | (simp only [opB] at h; split at h <;> first | (cases h; exact ⟨_, _, rfl, rfl, by assumption, rfl, rfl⟩) | cases h))
theorem opd_fdiv {K : PySem.W.Frag} : OpD K (rI CDiv fun i j => .int (i / j)) (opB .fdiv) := by
  refine opd_int (g := fun i j => i / j) fun a b S d S' h => ?_
  cases a <;> first
    | (simp [opB, litems] at h; done)
    | (cases b <;> first
        | (simp [opB, litems] at h; done)
        | (simp only [opB] at h; split at h <;> first | (cases h; exact ⟨_, _, rfl, rfl, by assumption, rfl, rfl⟩) | cases h))
theorem opd_mod {K : PySem.W.Frag} : OpD K (rI (fun _ j => 0 < j) fun i j => .int (i % j)) (opB .mod) := by
  refine opd_int (g := fun i j => i % j) fun a b S d S' h => ?_
  cases a <;> first
    | (simp [opB, litems] at h; done)
    | (cases b <;> first
        | (simp [opB, litems] at h; done)
        | (simp only [opB] at h; split at h <;> first | (cases h; exact ⟨_, _, rfl, rfl, by assumption, rfl, rfl⟩) | cases h))
end Tt
end

section
/-! Comparisons, subscripts, slices. -/
namespace Tt
open PySem PySem.Spec PyProof.Rows L2

section
variable {K : PySem.W.Frag} {ι : Ad} {H : Hp} {S : Sto}
mutual
theorem dp_of : ∀ {d : D} {v : V} {x : PyData}, Rep K ι H d v → pyD d = some x → Dp K H v x
  | .non, v, x, r, h => by
    have := rep_non.mp r; subst this
    simp only [pyD, Option.some.injEq] at h; subst h; exact .non
  | .bl b, v, x, r, h => by
    have := rep_bl.mp r; subst this
    simp only [pyD, Option.some.injEq] at h; subst h; exact .bl b
  | .int b, v, x, r, h => by
    have := rep_int.mp r; subst this
    simp only [pyD, Option.some.injEq] at h; subst h; exact .int b
  | .str b, v, x, r, h => by
    have := rep_str.mp r; subst this
    simp only [pyD, Option.some.injEq] at h; subst h; exact .str b
  | .tup l, v, x, r, h => by
    obtain ⟨a, vs, rfl, h1, h2⟩ := rep_tup.mp r
    simp only [pyD, Option.map_eq_some_iff] at h
    obtain ⟨y, h, rfl⟩ := h
    exact .tup h1.t (dps_of h2 h)
  | .lst l, v, x, r, h => by
    obtain ⟨a, vs, rfl, h1, _, h2⟩ := rep_lst.mp r
    simp only [pyD, Option.map_eq_some_iff] at h
    obtain ⟨y, h, rfl⟩ := h
    exact .lst (SqL.of h1) (dps_of h2 h)
  | .fzl n, v, x, r, h => by simp [pyD] at h
  | .ref n, v, x, r, h => by simp [pyD] at h
theorem dps_of : ∀ {l : List D} {vs : List V} {xs : List PyData}, Reps K ι H l vs → pyL l = some xs → DpAll K H vs xs
  | [], vs, xs, r, h => by
    simp only [Reps] at r; subst r
    simp only [pyL, Option.some.injEq] at h; subst h; exact .nil
  | d :: l, vs, xs, r, h => by
    simp only [Reps] at r
    obtain ⟨v, ws, rfl, r1, r2⟩ := r
    simp only [pyL, Option.bind_eq_some_iff, Option.map_eq_some_iff] at h
    obtain ⟨x, h1, y, h2, rfl⟩ := h
    exact .cons (dp_of r1 h1) (dps_of r2 h2)
end
theorem flat_rep {d : D} {v : V} (f : flatD d = true) (r : Rep K ι H d v) : v = toV d ∧ flatV v = true := by
  cases d <;> first
    | (have e := rep_non.mp r; subst e; exact ⟨rfl, rfl⟩)
    | (have e := rep_bl.mp r; subst e; exact ⟨rfl, rfl⟩)
    | (have e := rep_int.mp r; subst e; exact ⟨rfl, rfl⟩)
    | (have e := rep_str.mp r; subst e; exact ⟨rfl, rfl⟩)
    | (simp [flatD] at f)
theorem flat_reps : ∀ {l : List D} {vs : List V}, l.all flatD = true → Reps K ι H l vs → vs = l.map toV ∧ vs.all flatV = true
  | [], vs, f, r => by simp only [Reps] at r; subst r; exact ⟨rfl, rfl⟩
  | d :: l, vs, f, r => by
    simp only [Reps] at r
    obtain ⟨v, ws, rfl, r1, r2⟩ := r
    rw [List.all_cons, Bool.and_eq_true] at f
    obtain ⟨e1, f1⟩ := flat_rep f.1 r1
    obtain ⟨e2, f2⟩ := flat_reps f.2 r2
    exact ⟨by rw [List.map_cons, ← e1, ← e2], by rw [List.all_cons, f1, f2]; rfl⟩
theorem krep_look : ∀ {kvs : List (Key × D)} {ws : List (Key × V)} (k : Key), Krep K ι H kvs ws →
    (∀ d, lookK kvs k = some d → ∃ v, valV ws k = some v ∧ Rep K ι H d v) ∧ (lookK kvs k).isSome = (valV ws k).isSome
  | [], ws, k, r => by simp only [Krep] at r; subst r; exact ⟨fun d h => by simp [lookK] at h, rfl⟩
  | p :: kvs, ws, k, r => by
    simp only [Krep] at r
    obtain ⟨v, us, rfl, r1, r2⟩ := r
    obtain ⟨ih1, ih2⟩ := krep_look k r2
    by_cases e : p.1 = k
    · have h1 : lookK (p :: kvs) k = some p.2 := by simp [lookK, List.find?_cons, e]
      have h2 : valV ((p.1, v) :: us) k = some v := valV_pos e
      rw [h1, h2]
      exact ⟨fun d h => by cases h; exact ⟨v, rfl, r1⟩, rfl⟩
    · have h1 : lookK (p :: kvs) k = lookK kvs k := by simp [lookK, List.find?_cons, e]
      have h2 : valV ((p.1, v) :: us) k = valV us k := valV_neg e
      rw [h1, h2]
      exact ⟨ih1, ih2⟩
theorem kd_rep {d : D} {v : V} {k : Key} (r : Rep K ι H d v) (h : kD d = some k) : v = kV k := by
  cases d <;> simp only [kD, Option.some.injEq] at h <;> first
    | (subst h; exact rep_int.mp r)
    | (subst h; exact rep_str.mp r)
    | cases h
theorem dic_at (s : Sat K ι H S) {n : Nat} {v : V} {kvs : List (Key × D)} (r : Rep K ι H (.ref n) v) (h : S[n]? = some (.dic kvs)) : ∃ a ws, v = .ref a ∧ ι.r[n]? = some a ∧ H a = some (.dK ws) ∧ Krep K ι H kvs ws := by
  obtain ⟨a, e, ha⟩ := rep_ref.mp r
  obtain ⟨ws, h1, h2⟩ := s.at_ n _ a h ha
  exact ⟨a, ws, e, ha, h1, h2⟩
end

/-! ### comparisons -/
/-- a comparison's rule serves it over data -/
def CmpOk (K : PySem.W.Frag) (r : R2) (op : Cop) : Prop :=
  ∀ ι H S a b x y c (Q : VK), Sat K ι H S → Rep K ι H a x → Rep K ι H b y → cmpD op a b S = some c → Q (.bl c) H → r x y H Q
theorem cmp_eq {K : PySem.W.Frag} : CmpOk K (rEqD K) .eq := by
  intro ι H S a b x y c Q s r1 r2 h q
  simp only [cmpD, eqD, Option.bind_eq_some_iff] at h
  obtain ⟨u, h1, w, h2, h3⟩ := h
  split at h3
  · rename_i hs
    cases h3
    rw [Bool.and_eq_true] at hs
    exact ⟨u, w, dp_of r1 h1, dp_of r2 h2, hs.1, hs.2, q⟩
  · cases h3
theorem cmp_ne {K : PySem.W.Frag} : CmpOk K (rNeD K) .ne := by
  intro ι H S a b x y c Q s r1 r2 h q
  simp only [cmpD, eqD, Option.map_eq_some_iff, Option.bind_eq_some_iff] at h
  obtain ⟨c', ⟨u, h1, w, h2, h3⟩, rfl⟩ := h
  split at h3
  · rename_i hs
    cases h3
    rw [Bool.and_eq_true] at hs
    exact ⟨u, w, dp_of r1 h1, dp_of r2 h2, hs.1, hs.2, q⟩
  · cases h3
theorem cmp_lt {K : PySem.W.Frag} : CmpOk K (rI0 fun i j => .bl (decide (i < j))) .lt := by
  intro ι H S a b x y c Q s r1 r2 h q
  cases a <;> first
    | (simp [cmpD] at h; done)
    | (cases b <;> first
        | (simp [cmpD] at h; done)
        | (simp only [cmpD, Option.some.injEq] at h; subst h; exact ⟨_, _, rep_int.mp r1, rep_int.mp r2, q⟩))
theorem cmp_le {K : PySem.W.Frag} : CmpOk K (rI0 fun i j => .bl (decide (i ≤ j))) .le := by
  intro ι H S a b x y c Q s r1 r2 h q
  cases a <;> first
    | (simp [cmpD] at h; done)
    | (cases b <;> first
        | (simp [cmpD] at h; done)
        | (simp only [cmpD, Option.some.injEq] at h; subst h; exact ⟨_, _, rep_int.mp r1, rep_int.mp r2, q⟩))
theorem cmp_gt {K : PySem.W.Frag} : CmpOk K (rI0 fun i j => .bl (decide (j < i))) .gt := by
  intro ι H S a b x y c Q s r1 r2 h q
  cases a <;> first
    | (simp [cmpD] at h; done)
    | (cases b <;> first
        | (simp [cmpD] at h; done)
        | (simp only [cmpD, Option.some.injEq] at h; subst h; exact ⟨_, _, rep_int.mp r1, rep_int.mp r2, q⟩))
theorem cmp_ge {K : PySem.W.Frag} : CmpOk K (rI0 fun i j => .bl (decide (j ≤ i))) .ge := by
  intro ι H S a b x y c Q s r1 r2 h q
  cases a <;> first
    | (simp [cmpD] at h; done)
    | (cases b <;> first
        | (simp [cmpD] at h; done)
        | (simp only [cmpD, Option.some.injEq] at h; subst h; exact ⟨_, _, rep_int.mp r1, rep_int.mp r2, q⟩))
theorem isnon_rep {K : PySem.W.Frag} {ι : Ad} {H : Hp} {a : D} {x : V} (r : Rep K ι H a x) : decide (x = .non) = isNon a := by
  cases a with
  | non => have e := rep_non.mp r; subst e; rfl
  | bl b => have e := rep_bl.mp r; subst e; rfl
  | int b => have e := rep_int.mp r; subst e; rfl
  | str b => have e := rep_str.mp r; subst e; rfl
  | tup l => obtain ⟨a, vs, rfl, _⟩ := rep_tup.mp r; rfl
  | lst l => obtain ⟨a, vs, rfl, _⟩ := rep_lst.mp r; rfl
  | fzl l => obtain ⟨a, vs, rfl, _⟩ := rep_fzl.mp r; rfl
  | ref n => obtain ⟨a, rfl, _⟩ := rep_ref.mp r; rfl
theorem cmp_isN {K : PySem.W.Frag} : CmpOk K (fun x y H Q => y = .non ∧ Q (.bl (decide (x = .non))) H) .isN := by
  intro ι H S a b x y c Q s r1 r2 h q
  cases b <;> first
    | (simp [cmpD] at h; done)
    | (simp only [cmpD, Option.some.injEq] at h; subst h; exact ⟨rep_non.mp r2, by rw [isnon_rep r1]; exact q⟩)
theorem cmp_notN {K : PySem.W.Frag} : CmpOk K (fun x y H Q => y = .non ∧ Q (.bl (!decide (x = .non))) H) .notN := by
  intro ι H S a b x y c Q s r1 r2 h q
  cases b <;> first
    | (simp [cmpD] at h; done)
    | (simp only [cmpD, Option.some.injEq] at h; subst h; exact ⟨rep_non.mp r2, by rw [isnon_rep r1]; exact q⟩)
/-- in: a sign of a text, an item of a list, a key -/
def rInAll (K : PySem.W.Frag) (neg : Bool) : R2 := fun x y H Q =>
  (∃ (c : Nat) (z : Str), x = .str ⟨#[c]⟩ ∧ y = .str z ∧ Q (.bl (if neg then !decide (c ∈ z.cps.toList) else decide (c ∈ z.cps.toList))) H) ∨
  rIn K neg x y H Q ∨ ∃ a o, y = .ref a ∧ DGet H a x o ∧ Q (.bl (if neg then !o.isSome else o.isSome)) H
theorem op_inAll {X : Cx} (hu : X.A.units + 1 < cLine) : OpR X (compareOp .In) (rInAll X.K false) := by
  refine op_in_sign.or (op_in_seq.or ?_)
  intro pins s σ H x y v u Q I rx ry h
  obtain ⟨a, o, rfl, g, q⟩ := h
  cases ry
  exact d_in hu I g rx fun s3 I3 => ⟨.bl o.isSome, H, I3, rfl, q⟩
theorem op_notInAll {X : Cx} (hu : X.A.units + 1 < cLine) : OpR X (compareOp .NotIn) (rInAll X.K true) := by
  refine op_notIn_sign.or (op_notIn_seq.or ?_)
  intro pins s σ H x y v u Q I rx ry h
  obtain ⟨a, o, rfl, g, q⟩ := h
  cases ry
  exact d_notIn hu I g rx fun s3 I3 => ⟨.bl (!o.isSome), H, I3, rfl, q⟩
theorem in_all {K : PySem.W.Frag} (neg : Bool) {ι : Ad} {H : Hp} {S : Sto} {a b : D} {x y : V} {c : Bool} {Q : VK} (s : Sat K ι H S) (r1 : Rep K ι H a x) (r2 : Rep K ι H b y) (h : isIn a b S = some c) (q : Q (.bl (if neg then !c else c)) H) : rInAll K neg x y H Q := by
  have seq : ∀ {l : List D} {p : Addr} {vs : List V}, inD a l = some c → y = .ref p → (SqL K H p vs ∨ SqT K H p vs) → Reps K ι H l vs → rInAll K neg x y H Q := by
    intro l p vs h e hs r
    unfold inD at h
    split at h
    · rename_i f
      rw [Bool.and_eq_true] at f
      cases h
      obtain ⟨e1, f1⟩ := flat_rep f.1 r1
      obtain ⟨e2, f2⟩ := flat_reps f.2 r
      exact .inr (.inl ⟨p, vs, e, hs, f1, f2, by rw [e1, e2]; exact q⟩)
    · cases h
  cases b with
  | str z =>
    cases a <;> first
      | (simp [isIn] at h; done)
      | skip
    rename_i ch
    simp only [isIn] at h
    split at h
    · rename_i g e
      cases h
      refine .inl ⟨g, z, ?_, rep_str.mp r2, q⟩
      rw [rep_str.mp r1]
      congr 1
      cases ch
      simp only at e
      congr 1
      exact Array.ext' (by simpa using e)
    · cases h
  | tup l =>
    obtain ⟨p, vs, e, g, r⟩ := rep_tup.mp r2
    exact seq (l := l) (by cases a <;> simpa [isIn] using h) e (.inr g.t) r
  | lst l =>
    obtain ⟨p, vs, e, g, _, r⟩ := rep_lst.mp r2
    exact seq (l := l) (by cases a <;> simpa [isIn] using h) e (.inl (SqL.of g)) r
  | ref n =>
    cases e : S[n]? with
    | none => cases a <;> simp [isIn, e] at h
    | some o =>
      cases o with
      | lst l =>
        obtain ⟨p, e1, ha⟩ := rep_ref.mp r2
        obtain ⟨vs, g1, g2⟩ := s.at_ n _ p e ha
        exact seq (l := l) (by cases a <;> simpa [isIn, e] using h) e1 (.inl (SqL.of g1)) g2
      | dic kvs =>
        have h' : (kD a).map (fun k => (lookK kvs k).isSome) = some c := by cases a <;> simpa [isIn, e] using h
        rw [Option.map_eq_some_iff] at h'
        obtain ⟨k, hk, rfl⟩ := h'
        obtain ⟨p, ws, e1, _, g1, g2⟩ := dic_at s r2 e
        obtain ⟨_, l2⟩ := krep_look k g2
        refine .inr (.inr ⟨p, valV ws k, e1, ?_, by rw [← l2]; exact q⟩)
        rw [kd_rep r1 hk]
        exact DGet.k g1
      | dead => cases a <;> simp [isIn, e] at h
  | _ => cases a <;> simp [isIn] at h
theorem cmp_in {K : PySem.W.Frag} : CmpOk K (rInAll K false) .inn := by
  intro ι H S a b x y c Q s r1 r2 h q
  exact in_all false s r1 r2 (by cases a <;> cases b <;> simpa [cmpD] using h) q
theorem cmp_notIn {K : PySem.W.Frag} : CmpOk K (rInAll K true) .notIn := by
  intro ι H S a b x y c Q s r1 r2 h q
  have h' : (isIn a b S).map (!·) = some c := by cases a <;> cases b <;> simpa [cmpD] using h
  rw [Option.map_eq_some_iff] at h'
  obtain ⟨c', h1, rfl⟩ := h'
  exact in_all true s r1 r2 h1 q
/-- all comparisons -/
def copOf : Cop → CmpOp
  | .eq => .Eq | .ne => .NotEq | .lt => .Lt | .le => .LtE | .gt => .Gt | .ge => .GtE | .isN => .Is | .notN => .IsNot | .inn => .In | .notIn => .NotIn
theorem cmp_all {X : Cx} (hu : X.A.units + 64 < cLine) (op : Cop) : ∃ r, OpR X (compareOp (copOf op)) r ∧ CmpOk X.K r op := by
  cases op with
  | eq => exact ⟨_, op_eqD hu, cmp_eq⟩
  | ne => exact ⟨_, op_neD hu, cmp_ne⟩
  | lt => exact ⟨_, op_lt, cmp_lt⟩
  | le => exact ⟨_, op_le, cmp_le⟩
  | gt => exact ⟨_, op_gt, cmp_gt⟩
  | ge => exact ⟨_, op_ge, cmp_ge⟩
  | isN => exact ⟨_, op_isN, cmp_isN⟩
  | notN => exact ⟨_, op_notN, cmp_notN⟩
  | inn => exact ⟨_, op_inAll (by omega), cmp_in⟩
  | notIn => exact ⟨_, op_notInAll (by omega), cmp_notIn⟩
theorem bop_all {X : Cx} (op : Bop) : ∃ o r, (o = match op with | .add => Operator.Add | .sub => .Sub | .mul => .Mult | .fdiv => .FloorDiv | .mod => .Mod) ∧ OpR X (binaryOp o) r ∧ OpD X.K r (opB op) := by
  cases op with
  | add => exact ⟨_, _, rfl, op_addAll, opd_add⟩
  | sub => exact ⟨_, _, rfl, op_sub, opd_sub⟩
  | mul => exact ⟨_, _, rfl, op_mul, opd_mul⟩
  | fdiv => exact ⟨_, _, rfl, op_fdiv, opd_fdiv⟩
  | mod => exact ⟨_, _, rfl, op_mod, opd_mod⟩

/-! ### subscripts -/
theorem ix_dict {X : Cx} (hu : X.A.units + 1 < cLine) : IxR X (fun x y H Q => ∃ a v, x = .ref a ∧ DGet H a y (some v) ∧ Q v H) := by
  intro value slice pins s σ H x y v u Q I rx ry h hs
  obtain ⟨a, z, rfl, g, q⟩ := h
  obtain rfl : v = Value.ref a := rx
  exact tail_any (dict_typeIs I g) PySem.F.slot_dict_getitem.lookup (d_getItem hu I g ry fun w' s3 I3 rw' => ⟨z, H, I3, rw', q⟩) hs
def rIxAll (K : PySem.W.Frag) : R2 := fun x y H Q => rIx K x y H Q ∨ ∃ a v, x = .ref a ∧ DGet H a y (some v) ∧ Q v H
theorem ix_all {X : Cx} (hu : X.A.units + 1 < cLine) : IxR X (rIxAll X.K) := ix_seq.or (ix_dict hu)
theorem atI_rep {K : PySem.W.Frag} {ι : Ad} {H : Hp} {l : List D} {vs : List V} {i : Int} {d : D} (r : Reps K ι H l vs) (h : atI l i = some d) : ∃ v, atI vs i = some v ∧ Rep K ι H d v := by
  unfold atI at h ⊢
  rw [r.length]
  cases e : ixN l.length i with
  | none => rw [e] at h; cases h
  | some j =>
    rw [e] at h
    exact r.get h
theorem ix_use {K : PySem.W.Frag} {ι : Ad} {H : Hp} {S : Sto} {a b : D} {x y : V} {d : D} {Q : VK} (s : Sat K ι H S) (r1 : Rep K ι H a x) (r2 : Rep K ι H b y) (h : ixD a b S = some d) (q : ∀ v, Rep K ι H d v → Q v H) : rIxAll K x y H Q := by
  cases a with
  | str z =>
    cases b <;> first
      | (simp [ixD] at h; done)
      | skip
    rename_i i
    simp only [ixD] at h
    split at h
    · rw [Option.map_eq_some_iff] at h
      obtain ⟨c, hc, rfl⟩ := h
      exact .inl (.inr (.inr ⟨z, i, c, rep_str.mp r1, rep_int.mp r2, by assumption, hc, q _ (rep_str.mpr rfl)⟩))
    · cases h
  | tup l =>
    cases b <;> first
      | (simp [ixD] at h; done)
      | skip
    obtain ⟨p, vs, e, g, r⟩ := rep_tup.mp r1
    obtain ⟨v, hv, rv⟩ := atI_rep r (by simpa [ixD] using h)
    exact .inl (.inr (.inl ⟨p, vs, _, v, e, rep_int.mp r2, g.t, hv, q v rv⟩))
  | lst l =>
    cases b <;> first
      | (simp [ixD] at h; done)
      | skip
    obtain ⟨p, vs, e, g, _, r⟩ := rep_lst.mp r1
    obtain ⟨v, hv, rv⟩ := atI_rep r (by simpa [ixD] using h)
    exact .inl (.inl ⟨p, vs, _, v, e, rep_int.mp r2, SqL.of g, hv, q v rv⟩)
  | ref n =>
    simp only [ixD] at h
    cases e : S[n]? with
    | none => rw [e] at h; simp at h
    | some o =>
      rw [e] at h
      cases o with
      | lst l =>
        cases b <;> first
          | (simp at h; done)
          | skip
        obtain ⟨p, e1, ha⟩ := rep_ref.mp r1
        obtain ⟨vs, g1, g2⟩ := s.at_ n _ p e ha
        obtain ⟨v, hv, rv⟩ := atI_rep g2 (by simpa using h)
        exact .inl (.inl ⟨p, vs, _, v, e1, rep_int.mp r2, SqL.of g1, hv, q v rv⟩)
      | dic kvs =>
        have h' : ((kD b).bind fun k => lookK kvs k) = some d := by cases b <;> simpa using h
        rw [Option.bind_eq_some_iff] at h'
        obtain ⟨k, hk, hl⟩ := h'
        obtain ⟨p, ws, e1, _, g1, g2⟩ := dic_at s r1 e
        obtain ⟨l1, _⟩ := krep_look k g2
        obtain ⟨v, hv, rv⟩ := l1 d hl
        refine .inr ⟨p, v, e1, ?_, q v rv⟩
        rw [kd_rep r2 hk, ← hv]
        exact DGet.k g1
      | dead => simp at h
  | _ => simp [ixD] at h

/-! ### slices -/
theorem cut_rep {K : PySem.W.Frag} {ι : Ad} {H : Hp} {l : List D} {vs : List V} (r : Reps K ι H l vs) (lo hi : Option Int) : Reps K ι H (cutD l lo hi) (cutV vs lo hi) := by
  unfold cutD cutV
  rw [r.length]
  exact (r.drop _).take _
def rSlSll (K : PySem.W.Frag) : V → Option Int → Option Int → Hp → VK → Prop := fun x lo hi H Q => (rSlS K x lo hi H Q ∨ rSlL K x lo hi H Q) ∨ L2.rSlS x lo hi H Q
theorem sl_all {X : Cx} : SlR X (rSlSll X.K) := (sl_tupS.or sl_list).or sl_str
theorem cutD_whole {α : Type} {l : List α} {lo hi : Option Int} (h : HT.sIx l.length 0 lo = 0 ∧ HT.sIx l.length l.length hi = l.length) : cutD l lo hi = l := by
  unfold cutD
  rw [h.1, h.2]
  simp
theorem sl_use {K : PySem.W.Frag} {ι : Ad} {H : Hp} {S : Sto} {a : D} {x : V} {lo hi : Option Int} {d : D} {S' : Sto} {Q : VK} (s : Sat K ι H S) (r1 : Rep K ι H a x) (h : slD a lo hi S = some (d, S'))
    (q : ∀ ι' H' v, Ext K ι H ι' H' → Sat K ι' H' S' → Rep K ι' H' d v → Q v H') : rSlSll K x lo hi H Q := by
  have lists : ((litems S a).map fun l => (D.lst (cutD l lo hi), S)) = some (d, S') → rSlSll K x lo hi H Q := by
    intro h
    rw [Option.map_eq_some_iff] at h
    obtain ⟨l, h1, h2⟩ := h
    cases h2
    obtain ⟨p, vs, e, g, r⟩ := litems_at s r1 h1
    refine .inl <| .inr ⟨p, vs, e, SqL.of g, fun t ht => q ι _ _ (Ext.new ht) (s.new ht) (rep_lst.mpr ⟨t, _, rfl, upd_same, s.notIn ht, (cut_rep r lo hi).ext (Ext.new ht)⟩)⟩
  cases a with
  | tup l =>
    simp only [slD, Option.some.injEq, Prod.mk.injEq] at h
    obtain ⟨rfl, rfl⟩ := h
    obtain ⟨p, vs, e, g, r⟩ := rep_tup.mp r1
    refine .inl <| .inl ⟨p, vs, e, g.t, fun z => ?_, fun z => tup_at s (cut_rep r lo hi) q⟩
    rw [r.length] at z
    have := cutD_whole z
    rw [this] at q
    exact q ι H _ .refl s (rep_tup.mpr ⟨p, vs, rfl, g, r⟩)
  | str z =>
    simp only [slD] at h
    split at h
    · cases h
      exact .inr ⟨z, rep_str.mp r1, by assumption, q ι H _ .refl s (rep_str.mpr rfl)⟩
    · cases h
  | _ => exact lists (by simpa [slD] using h)
end Tt
end

section
/-! Built-in functions and methods. -/
namespace Tt
open PySem PySem.Spec PyProof.Rows L2

/-- a built-in's rule serves it over data -/
def BltOk (K : PySem.W.Frag) (r : List V → Hp → VK → Prop) (f : List D → Sto → Option (D × Sto)) : Prop :=
  ∀ ι H S ds vs d S' (Q : VK), Sat K ι H S → Reps K ι H ds vs → f ds S = some (d, S') →
    (∀ ι' H' v, Ext K ι H ι' H' → Sat K ι' H' S' → Rep K ι' H' d v → Q v H') → r vs H Q
theorem reps1 {K : PySem.W.Frag} {ι : Ad} {H : Hp} {d : D} {vs : List V} (r : Reps K ι H [d] vs) : ∃ v, vs = [v] ∧ Rep K ι H d v := by
  simp only [Reps] at r
  obtain ⟨v, ws, rfl, r1, rfl⟩ := r
  exact ⟨v, rfl, r1⟩
theorem reps2 {K : PySem.W.Frag} {ι : Ad} {H : Hp} {d e : D} {vs : List V} (r : Reps K ι H [d, e] vs) : ∃ v w, vs = [v, w] ∧ Rep K ι H d v ∧ Rep K ι H e w := by
  simp only [Reps] at r
  obtain ⟨v, ws, rfl, r1, w, us, rfl, r2, rfl⟩ := r
  exact ⟨v, w, rfl, r1, r2⟩
section
variable {K : PySem.W.Frag} {ι : Ad} {H : Hp} {S : Sto}
theorem ints_rep : ∀ {l : List D} {ns : List Int} {vs : List V}, intsD l = some ns → Reps K ι H l vs → vs = ns.map V.int
  | [], ns, vs, h, r => by
    simp only [intsD, Option.some.injEq] at h; subst h
    simp only [Reps] at r; subst r; rfl
  | d :: l, ns, vs, h, r => by
    cases d <;> first
      | (simp [intsD] at h; done)
      | skip
    simp only [intsD, Option.map_eq_some_iff] at h
    obtain ⟨m, h, rfl⟩ := h
    simp only [Reps] at r
    obtain ⟨v, ws, rfl, r1, r2⟩ := r
    rw [rep_int] at r1
    rw [r1, ints_rep h r2, List.map_cons]
theorem bools_rep : ∀ {l : List D} {ns : List Bool} {vs : List V}, bools l = some ns → Reps K ι H l vs → vs = ns.map V.bl
  | [], ns, vs, h, r => by
    simp only [bools, Option.some.injEq] at h; subst h
    simp only [Reps] at r; subst r; rfl
  | d :: l, ns, vs, h, r => by
    cases d <;> first
      | (simp [bools] at h; done)
      | skip
    simp only [bools, Option.map_eq_some_iff] at h
    obtain ⟨m, h, rfl⟩ := h
    simp only [Reps] at r
    obtain ⟨v, ws, rfl, r1, r2⟩ := r
    rw [rep_bl] at r1
    rw [r1, bools_rep h r2, List.map_cons]
theorem rep_ints : ∀ ns : List Int, Reps K ι H (ns.map D.int) (ns.map V.int)
  | [] => .nil
  | i :: r => .cons (rep_int.mpr rfl) (rep_ints r)
theorem keys_rep : ∀ {kvs : List (Key × D)} {ks : List Int} {ws : List (Key × V)}, keysI kvs = some ks → Krep K ι H kvs ws → ws.map (·.1) = ks.map Sum.inl
  | [], ks, ws, h, r => by
    simp only [keysI, Option.some.injEq] at h; subst h
    simp only [Krep] at r; subst r; rfl
  | (.inl i, d) :: kvs, ks, ws, h, r => by
    simp only [keysI, Option.map_eq_some_iff] at h
    obtain ⟨m, h, rfl⟩ := h
    simp only [Krep] at r
    obtain ⟨v, us, rfl, _, r2⟩ := r
    rw [List.map_cons, keys_rep h r2, List.map_cons]
  | (.inr i, d) :: kvs, ks, ws, h, r => by simp [keysI] at h
theorem Krep.length : ∀ {l : List (Key × D)} {vs : List (Key × V)}, Krep K ι H l vs → vs.length = l.length
  | [], vs, h => by simp only [Krep] at h; rw [h]; rfl
  | d :: r, vs, h => by
    simp only [Krep] at h
    obtain ⟨v, ws, e, h1, h2⟩ := h
    rw [e, List.length_cons, List.length_cons, Krep.length h2]
end
theorem insI_perm (x : Int) : ∀ l, (insI x l).Perm (x :: l)
  | [] => .refl _
  | y :: r => by
    unfold insI
    split
    · exact .refl _
    · exact ((insI_perm x r).cons y).trans (.swap x y r)
theorem sortI_perm : ∀ l, (sortI l).Perm l
  | [] => .refl _
  | x :: r => (insI_perm x _).trans ((sortI_perm r).cons x)
theorem insI_sorted (x : Int) : ∀ l : List Int, l.Pairwise (· ≤ ·) → (insI x l).Pairwise (· ≤ ·)
  | [], _ => by simp [insI]
  | y :: r, h => by
    unfold insI
    rw [List.pairwise_cons] at h
    split
    · rename_i hx
      rw [List.pairwise_cons]
      refine ⟨fun z hz => ?_, by rw [List.pairwise_cons]; exact h⟩
      rcases List.mem_cons.mp hz with e | e
      · subst e; exact hx
      · exact Int.le_trans hx (h.1 z e)
    · rename_i hx
      rw [List.pairwise_cons]
      refine ⟨fun z hz => ?_, insI_sorted x r h.2⟩
      rcases List.mem_cons.mp ((insI_perm x r).mem_iff.mp hz) with e | e
      · omega
      · exact h.1 z e
theorem sortI_sorted : ∀ l : List Int, (sortI l).Pairwise (· ≤ ·)
  | [] => .nil
  | x :: r => insI_sorted x _ (sortI_sorted r)
theorem sortI_eq {l m : List Int} (hp : m.Perm l) (hs : m.Pairwise (· ≤ ·)) : m = sortI l := PySem.W.ksm_same (hp.trans (sortI_perm l).symm) hs (sortI_sorted l)

/-! ### each built-in -/
theorem blt_len {X : Cx} {fz : Bool} : ∃ r, CallR X (.builtin "len") r ∧ BltOk X.K r (bltD fz .len) := by
  refine ⟨_, call_len.or call_lenD, ?_⟩
  intro ι H S ds vs d S' Q s r h q
  match ds, h with
  | [x], h =>
    obtain ⟨v, rfl, r1⟩ := reps1 r
    have seq : (items S x).map (fun l => (D.int l.length, S)) = some (d, S') → (∃ x n, [v] = [x] ∧ LenV X.K x H n ∧ Q (.int n) H) := by
      intro h
      rw [Option.map_eq_some_iff] at h
      obtain ⟨l, h1, h2⟩ := h
      cases h2
      obtain ⟨a, us, rfl, hs, ru⟩ := items_at s r1 h1
      refine ⟨_, us.length, rfl, hs.elim (fun z => .inl ⟨us, z, rfl⟩) (fun z => .inr ⟨us, z, rfl⟩), ?_⟩
      rw [ru.length]
      exact q ι H _ .refl s (rep_int.mpr rfl)
    cases x with
    | str z =>
      simp only [bltD] at h
      split at h
      · cases h
        rw [rep_str] at r1; subst r1
        exact .inl ⟨_, _, rfl, ⟨by assumption, rfl⟩, q ι H _ .refl s (rep_int.mpr rfl)⟩
      · cases h
    | ref n =>
      simp only [bltD] at h
      cases e : S[n]? with
      | none => rw [e] at h; cases h
      | some o =>
        rw [e] at h
        cases o with
        | lst l => exact .inl (seq (by simp only [items, e]; exact h))
        | dic kvs =>
          simp only [Option.some.injEq, Prod.mk.injEq] at h
          obtain ⟨rfl, rfl⟩ := h
          obtain ⟨a, ws, e1, _, g1, g2⟩ := dic_at s r1 e
          exact .inr ⟨a, ws, by rw [e1], g1, by rw [g2.length]; exact q ι H _ .refl s (rep_int.mpr rfl)⟩
        | dead => cases h
    | _ => exact .inl (seq (by simpa [bltD] using h))
  | [], h => simp [bltD] at h
  | _ :: _ :: _, h => simp [bltD] at h
theorem blt_abs {X : Cx} {fz : Bool} : ∃ r, CallR X (.builtin "abs") r ∧ BltOk X.K r (bltD fz .abs) := by
  refine ⟨_, call_abs, ?_⟩
  intro ι H S ds vs d S' Q s r h q
  match ds, h with
  | [.int i], h =>
    obtain ⟨v, rfl, r1⟩ := reps1 r
    rw [rep_int] at r1; subst r1
    simp only [bltD, Option.some.injEq, Prod.mk.injEq] at h
    obtain ⟨rfl, rfl⟩ := h
    exact ⟨i, rfl, q ι H _ .refl s (rep_int.mpr rfl)⟩
theorem blt_int {X : Cx} {fz : Bool} : ∃ r, CallR X (.type "int") r ∧ BltOk X.K r (bltD fz .int) := by
  refine ⟨_, call_int1, ?_⟩
  intro ι H S ds vs d S' Q s r h q
  match ds, h with
  | [.int i], h =>
    obtain ⟨v, rfl, r1⟩ := reps1 r
    rw [rep_int] at r1; subst r1
    simp only [bltD, Option.some.injEq, Prod.mk.injEq] at h
    obtain ⟨rfl, rfl⟩ := h
    exact .inl ⟨i, rfl, q ι H _ .refl s (rep_int.mpr rfl)⟩
  | [.bl i], h =>
    obtain ⟨v, rfl, r1⟩ := reps1 r
    rw [rep_bl] at r1; subst r1
    simp only [bltD, Option.some.injEq, Prod.mk.injEq] at h
    obtain ⟨rfl, rfl⟩ := h
    exact .inr ⟨i, rfl, q ι H _ .refl s (rep_int.mpr rfl)⟩
theorem blt_list {X : Cx} {fz : Bool} : ∃ r, CallR X (.type "list") r ∧ BltOk X.K r (bltD fz .list) := by
  refine ⟨_, call_list_of, ?_⟩
  intro ι H S ds vs d S' Q s r h q
  match ds, h with
  | [x], h =>
    obtain ⟨v, rfl, r1⟩ := reps1 r
    have h' : (items S x).bind (fun l => mkL fz l S) = some (d, S') := by cases x <;> simpa [bltD] using h
    rw [Option.bind_eq_some_iff] at h'
    obtain ⟨l, h1, h2⟩ := h'
    obtain ⟨a, us, rfl, hs, ru⟩ := items_at s r1 h1
    exact ⟨a, us, rfl, hs, (mkL_at s h2 ru q).2⟩
  | [], h => simp [bltD] at h
  | _ :: _ :: _, h => simp [bltD] at h
theorem blt_tuple {X : Cx} {fz : Bool} : ∃ r, CallR X (.type "tuple") r ∧ BltOk X.K r (bltD fz .tuple) := by
  refine ⟨_, call_tuple_ofS, ?_⟩
  intro ι H S ds vs d S' Q s r h q
  match ds, h with
  | [x], h =>
    obtain ⟨v, rfl, r1⟩ := reps1 r
    have h' : (items S x).map (fun l => (D.tup l, S)) = some (d, S') := by cases x <;> simpa [bltD] using h
    rw [Option.map_eq_some_iff] at h'
    obtain ⟨l, h1, h2⟩ := h'
    cases h2
    have lists : (∃ a us, v = .ref a ∧ H a = some (.lst us) ∧ Reps X.K ι H l us) → ∃ p ys, [v] = [.ref p] ∧ ((SqL X.K H p ys ∧ ∀ l ob, ob.dict = none → H l = none → Q (.ref l) (upd H l (.frz ob (.tup ys)))) ∨ (SqT X.K H p ys ∧ Q (.ref p) H)) := by
      rintro ⟨a, us, rfl, hs, ru⟩
      exact ⟨a, us, rfl, .inl ⟨SqL.of hs, tup_at s ru q⟩⟩
    cases x with
    | tup m =>
      simp only [items, Option.some.injEq] at h1
      subst h1
      obtain ⟨a, us, rfl, hs, ru⟩ := rep_tup.mp r1
      exact ⟨a, us, rfl, .inr ⟨hs.t, q ι H _ .refl s r1⟩⟩
    | fzl m =>
      simp only [items, Option.some.injEq] at h1
      subst h1
      obtain ⟨a, us, rfl, hs, ru⟩ := rep_fzl.mp r1
      exact ⟨a, us, rfl, .inl ⟨hs.l, tup_at s ru q⟩⟩
    | lst m => exact lists (litems_at s r1 h1)
    | ref n => exact lists (litems_at s r1 h1)
    | _ => simp [items] at h1
  | [], h => simp [bltD] at h
  | _ :: _ :: _, h => simp [bltD] at h
theorem blt_all {X : Cx} {fz : Bool} (hc : X.calm = true) : ∃ r, CallR X (.builtin "all") r ∧ BltOk X.K r (bltD fz .all) := by
  refine ⟨_, cr_all hc, ?_⟩
  intro ι H S ds vs d S' Q s r h q
  match ds, h with
  | [x], h =>
    obtain ⟨v, rfl, r1⟩ := reps1 r
    have h' : ((litems S x).bind fun l => (bools l).map fun bs => (D.bl (bs.all id), S)) = some (d, S') := by cases x <;> simpa [bltD] using h
    simp only [Option.bind_eq_some_iff, Option.map_eq_some_iff] at h'
    obtain ⟨l, h1, bs, h2, h3⟩ := h'
    cases h3
    obtain ⟨a, us, rfl, hs, ru⟩ := litems_at s r1 h1
    have e := bools_rep h2 ru
    subst e
    exact ⟨a, bs, rfl, SqL.of hs, q ι H _ .refl s (rep_bl.mpr rfl)⟩
  | [], h => simp [bltD] at h
  | _ :: _ :: _, h => simp [bltD] at h
theorem blt_any {X : Cx} {fz : Bool} (hc : X.calm = true) : ∃ r, CallR X (.builtin "any") r ∧ BltOk X.K r (bltD fz .any) := by
  refine ⟨_, cr_any hc, ?_⟩
  intro ι H S ds vs d S' Q s r h q
  match ds, h with
  | [x], h =>
    obtain ⟨v, rfl, r1⟩ := reps1 r
    have h' : ((litems S x).bind fun l => (bools l).map fun bs => (D.bl (bs.any id), S)) = some (d, S') := by cases x <;> simpa [bltD] using h
    simp only [Option.bind_eq_some_iff, Option.map_eq_some_iff] at h'
    obtain ⟨l, h1, bs, h2, h3⟩ := h'
    cases h3
    obtain ⟨a, us, rfl, hs, ru⟩ := litems_at s r1 h1
    have e := bools_rep h2 ru
    subst e
    exact ⟨a, bs, rfl, SqL.of hs, q ι H _ .refl s (rep_bl.mpr rfl)⟩
  | [], h => simp [bltD] at h
  | _ :: _ :: _, h => simp [bltD] at h
theorem blt_sum {X : Cx} {fz : Bool} (hc : X.calm = true) : ∃ r, CallR X (.builtin "sum") r ∧ BltOk X.K r (bltD fz .sum) := by
  refine ⟨_, cr_sum hc, ?_⟩
  intro ι H S ds vs d S' Q s r h q
  match ds, h with
  | [x], h =>
    obtain ⟨v, rfl, r1⟩ := reps1 r
    have h' : ((litems S x).bind fun l => (intsD l).map fun bs => (D.int bs.sum, S)) = some (d, S') := by cases x <;> simpa [bltD] using h
    simp only [Option.bind_eq_some_iff, Option.map_eq_some_iff] at h'
    obtain ⟨l, h1, bs, h2, h3⟩ := h'
    cases h3
    obtain ⟨a, us, rfl, hs, ru⟩ := litems_at s r1 h1
    have e := ints_rep h2 ru
    subst e
    exact ⟨a, bs, rfl, SqL.of hs, q ι H _ .refl s (rep_int.mpr rfl)⟩
  | [], h => simp [bltD] at h
  | _ :: _ :: _, h => simp [bltD] at h
theorem blt_sorted {X : Cx} {fz : Bool} (hc : X.calm = true) : ∃ r, CallR X (.builtin "sorted") r ∧ BltOk X.K r (bltD fz .sorted) := by
  refine ⟨_, cr_sorted.or (call_sortedDI hc), ?_⟩
  intro ι H S ds vs d S' Q s r h q
  have one : ∀ (x : D) (v : V), Rep X.K ι H x v → vs = [v] → ((litems S x).bind fun l => (intsD l).bind fun ks => if ks.length < 64 then mkL fz ((sortI ks).map .int) S else none) = some (d, S') → rSorted X.K vs H Q := by
    intro x v r1 e h
    simp only [Option.bind_eq_some_iff] at h
    obtain ⟨l, h1, ks, h2, h3⟩ := h
    split at h3
    · obtain ⟨a, us, rfl, hs, ru⟩ := litems_at s r1 h1
      have e' := ints_rep h2 ru
      subst e' e
      refine ⟨a, ks, rfl, SqL.of hs, by assumption, fun ns' p hp hs' hn => ?_⟩
      rw [sortI_eq hp hs']
      exact (mkL_at s h3 (rep_ints _) q).2 p hn
    · cases h3
  match ds, h with
  | [.ref n], h =>
    obtain ⟨v, rfl, r1⟩ := reps1 r
    simp only [bltD] at h
    cases e : S[n]? with
    | none => rw [e] at h; cases h
    | some o =>
      rw [e] at h
      cases o with
      | lst l => exact .inl (one (.ref n) v r1 rfl (by simp only [litems, e]; exact h))
      | dic kvs =>
        simp only [Option.bind_eq_some_iff] at h
        obtain ⟨ks, h2, h3⟩ := h
        split at h3
        · obtain ⟨a, ws, rfl, _, g1, g2⟩ := dic_at s r1 e
          refine .inr ⟨a, ws, ks, rfl, Rd.of g1, keys_rep h2 g2, by assumption, fun ns' p hp hs' hn => ?_⟩
          rw [sortI_eq hp hs']
          exact (mkL_at s h3 (rep_ints _) q).2 p hn
        · cases h3
      | dead => cases h
  | [.lst l], h =>
    obtain ⟨v, rfl, r1⟩ := reps1 r
    exact .inl (one (.lst l) v r1 rfl (by simp only [litems, Option.bind_some]; simpa [bltD] using h))
end Tt
end

section
/-! dict(..), isinstance, methods. -/
namespace Tt
open PySem PySem.Spec PyProof.Rows L2

/-! ### dict(pairs) -/
section
variable {X : Cx}
theorem merge_eq (kvs more : List (Key × V)) : L2.mergeK kvs more = more.foldl (fun acc kv => L2.putK acc kv.1 kv.2) kvs := rfl
/-- dict(t) of a tuple, known whole, of pairs -/
theorem call_dictT (hcalm : X.calm = true) : CallR X (.type "dict") (fun xs H Q => ∃ (a : Addr) (ps : List Addr) (kvs : List (Key × V)), xs = [.ref a] ∧ SqS X.K H a (ps.map V.ref) ∧ Paired (fun p kv => SqT X.K H p [kV kv.1, kv.2]) ps kvs ∧
    ∀ p, H p = none → Q (.ref p) (upd H p (.dK (L2.mergeK [] kvs)))) := by
  intro pins s σ H xs us Q I r q
  obtain ⟨a, ps, kvs, ex, hq, hp, q⟩ := q
  subst ex
  obtain ⟨u, eu, rx⟩ := vals1 r
  subst eu
  cases rx
  obtain ⟨its, rv, hseq, hz⟩ : ∃ its : List Value, Vals (ps.map V.ref) its ∧ PlainSeq "tuple" s.heap a its.toArray ∧ (ps.map V.ref).length ≤ sizeLine := by
    rcases hq with ⟨ob, h0, h⟩ | ⟨o, its, n, h1, h2, h0, h3, h4, h5⟩
    · obtain ⟨h1, hz, its, rv, o, h2, h3, n, h4⟩ := I.hok a _ h
      rw [h1] at h2; cases h2
      exact ⟨its, rv, ⟨ob, n, h1, h3, h0, h4⟩, hz⟩
    · refine ⟨its.toList, h5, ⟨o, n, I.kIn a o h1, h2, h0, by simpa using h3⟩, ?_⟩
      have e := h5.length
      simp only [Array.length_toList] at e
      omega
  have ei := refs_at rv
  subst ei
  rw [List.length_map] at hz
  obtain ⟨prs, rel, hl, hpr⟩ := pairs_of I hp
  -- the pairs as the library tells them
  have hk : ∀ j : Nat, j < ps.length → ∃ (b : Addr) (u : Value) (q : Key × Value), ps[j]? = some b ∧ prs[j]? = some q ∧ IsTup s.heap b #[u, q.2] ∧ keyIs q.1 u = true := fun j hj => by
    have hj' : j < prs.length := by omega
    obtain ⟨b, u, e1, e2, e3⟩ := hpr j prs[j] (List.getElem?_eq_getElem hj')
    exact ⟨b, u, prs[j], e1, List.getElem?_eq_getElem hj', e2, e3⟩
  let ks : Nat → Value := fun j => if h : j < ps.length then (hk j h).choose_spec.choose else .none
  let raw : List (Value × Value) := (List.range ps.length).map fun j => (ks j, (prs.getD j (.inl 0, .none)).2)
  have hraw : raw.length = ps.length := by simp [raw]
  have hj : ∀ (j : Nat) (k v : Value), raw[j]? = some (k, v) → ∃ b q, ps[j]? = some b ∧ prs[j]? = some q ∧ v = q.2 ∧ IsTup s.heap b #[k, v] ∧ keyIs q.1 k = true := by
    intro j k v e
    have hjl : j < ps.length := by
      have := (List.getElem?_eq_some_iff.mp e).1
      omega
    have hjp : j < prs.length := by omega
    simp only [raw, List.getElem?_map, List.getElem?_range hjl, Option.map_some, Option.some.injEq, Prod.mk.injEq] at e
    obtain ⟨e1, e2⟩ := e
    obtain ⟨q, hq1, hq2, hq3, hq4⟩ := (hk j hjl).choose_spec.choose_spec
    have e3 : ks j = (hk j hjl).choose_spec.choose := by simp only [ks, hjl, dif_pos]
    have e4 : (prs.getD j (.inl 0, .none)) = q := by rw [List.getD_eq_getElem?_getD, hq2]; rfl
    rw [e4] at e2
    subst e2
    rw [← e1, e3]
    exact ⟨_, q, hq1, hq2, rfl, hq3, hq4⟩
  refine call_dict_pairs (knd := mixKind X.prog X.w) (kvs := prs) (PairArg.tuple a (ps.map Value.ref).toArray (fun j => ps.getD j 0) raw) (I.ok.hd hcalm) ⟨hseq, ?_, fun j k v e => ?_⟩ ⟨by rw [hl, hraw], fun j k v e => ?_⟩ (by rw [hraw]; exact hz) fun h' tk hd' k => ?_
  · simp [hraw]
  · obtain ⟨b, q, e1, e2, e3, e4, e5⟩ := hj j k v e
    have e6 : ps.getD j 0 = b := by rw [List.getD_eq_getElem?_getD, e1]; rfl
    show (ps.map Value.ref).toArray[j]? = some (.ref (ps.getD j 0)) ∧ PairAt s.heap (ps.getD j 0) k v
    rw [e6]
    refine ⟨by simp [e1], ?_⟩
    obtain ⟨o, ho, hc, n, hd⟩ := e4
    exact .inl ⟨o, ho, hc, n, hd⟩
  · obtain ⟨b, q, e1, e2, e3, e4, e5⟩ := hj j k v e
    exact ⟨q.1, by rw [e2, e3], e5⟩
  · have hm : (s.heap.objs.size == sysModules) = false := beq_eq_false_iff_ne.mpr (Nat.ne_of_gt I.big)
    have hlen : (L2.mergeK [] kvs).length ≤ sizeLine := by
      refine Nat.le_trans (length_mergeK kvs []) ?_
      rw [List.length_nil, Nat.zero_add, rel.length, hl]
      exact hz
    exact ⟨.ref s.heap.objs.size, upd H s.heap.objs.size (.dK (L2.mergeK [] kvs)), I.laid (t' := tk) (fun b o e => k b o (by simp) e) (Nat.le_refl _) (show ObjOk X.prog X.w _ _ _ (.dK (L2.mergeK [] kvs)) from ⟨hlen, hm, merged [] prs, KV.merge rel .nil, hd'⟩), rfl, q _ (I.hok.fresh (Nat.le_refl _))⟩
end
section
variable {K : PySem.W.Frag} {ι : Ad} {H : Hp} {S : Sto}
theorem krep_any : ∀ {kvs : List (Key × D)} {ws : List (Key × V)} (k : Key), Krep K ι H kvs ws → (kvs.any fun kv => decide (kv.1 = k)) = (ws.any fun kv => decide (kv.1 = k))
  | [], ws, k, r => by simp only [Krep] at r; subst r; rfl
  | p :: kvs, ws, k, r => by
    simp only [Krep] at r
    obtain ⟨v, us, rfl, _, r2⟩ := r
    rw [List.any_cons, List.any_cons, krep_any k r2]
theorem krep_map : ∀ {kvs : List (Key × D)} {ws : List (Key × V)} (k : Key) {d : D} {v : V}, Krep K ι H kvs ws → Rep K ι H d v →
    Krep K ι H (kvs.map fun kv => if kv.1 = k then (kv.1, d) else kv) (ws.map fun kv => if kv.1 = k then (kv.1, v) else kv)
  | [], ws, k, d, v, r, rd => by simp only [Krep] at r; subst r; simp [Krep]
  | p :: kvs, ws, k, d, v, r, rd => by
    simp only [Krep] at r
    obtain ⟨w, us, rfl, r1, r2⟩ := r
    rw [List.map_cons, List.map_cons]
    by_cases e : p.1 = k
    · simp only [e, if_true, Krep]
      exact ⟨v, _, rfl, rd, krep_map k r2 rd⟩
    · simp only [e, if_false, Krep]
      exact ⟨w, _, rfl, r1, krep_map k r2 rd⟩
theorem krep_app : ∀ {kvs : List (Key × D)} {ws : List (Key × V)} (k : Key) {d : D} {v : V}, Krep K ι H kvs ws → Rep K ι H d v → Krep K ι H (kvs ++ [(k, d)]) (ws ++ [(k, v)])
  | [], ws, k, d, v, r, rd => by simp only [Krep] at r; subst r; simp only [Krep, List.nil_append]; exact ⟨v, [], rfl, rd, rfl⟩
  | p :: kvs, ws, k, d, v, r, rd => by
    simp only [Krep] at r
    obtain ⟨w, us, rfl, r1, r2⟩ := r
    rw [List.cons_append, List.cons_append]
    simp only [Krep]
    exact ⟨w, _, rfl, r1, krep_app k r2 rd⟩
theorem krep_put {kvs : List (Key × D)} {ws : List (Key × V)} (k : Key) {d : D} {v : V} (r : Krep K ι H kvs ws) (rd : Rep K ι H d v) : Krep K ι H (putK kvs k d) (L2.putK ws k v) := by
  unfold putK L2.putK
  rw [krep_any k r]
  split
  · exact krep_map k r rd
  · exact krep_app k r rd
theorem krep_merge : ∀ {more : List (Key × D)} {ms : List (Key × V)} {kvs : List (Key × D)} {ws : List (Key × V)}, Krep K ι H more ms → Krep K ι H kvs ws → Krep K ι H (mergeK kvs more) (L2.mergeK ws ms)
  | [], ms, kvs, ws, r, r0 => by simp only [Krep] at r; subst r; exact r0
  | p :: more, ms, kvs, ws, r, r0 => by
    simp only [Krep] at r
    obtain ⟨v, us, rfl, r1, r2⟩ := r
    show Krep K ι H (mergeK (putK kvs p.1 p.2) more) (L2.mergeK (L2.putK ws p.1 v) us)
    exact krep_merge r2 (krep_put p.1 r0 r1)
theorem kd_some {d : D} {k : Key} (h : kD d = some k) (v : V) (r : Rep K ι H d v) : v = kV k := kd_rep r h
theorem kpairs_rep : ∀ {l : List D} {kvs : List (Key × D)} {vs : List V}, kpairs l = some kvs → Reps K ι H l vs →
    ∃ (ps : List Addr) (ws : List (Key × V)), vs = ps.map V.ref ∧ Paired (fun p kv => SqT K H p [kV kv.1, kv.2]) ps ws ∧ Krep K ι H kvs ws
  | [], kvs, vs, h, r => by
    simp only [kpairs, Option.some.injEq] at h; subst h
    simp only [Reps] at r; subst r
    exact ⟨[], [], rfl, .nil, by simp [Krep]⟩
  | .tup [k, d] :: l, kvs, vs, h, r => by
    simp only [kpairs, Option.bind_eq_some_iff, Option.map_eq_some_iff] at h
    obtain ⟨k', hk, m, hm, rfl⟩ := h
    simp only [Reps] at r
    obtain ⟨v, us, rfl, r1, r2⟩ := r
    obtain ⟨a, ws, rfl, hs, rs⟩ := rep_tup.mp r1
    obtain ⟨x, y, rfl, rx, ry⟩ := reps2 rs
    obtain ⟨ps, ws', rfl, hp, hkr⟩ := kpairs_rep hm r2
    have := kd_rep rx hk
    subst this
    refine ⟨a :: ps, (k', y) :: ws', rfl, .cons hs.t hp, ?_⟩
    simp only [Krep]
    exact ⟨y, ws', rfl, ry, hkr⟩
  | .tup [] :: _, _, _, h, _ => by simp [kpairs] at h
  | .tup [_] :: _, _, _, h, _ => by simp [kpairs] at h
  | .tup (_ :: _ :: _ :: _) :: _, _, _, h, _ => by simp [kpairs] at h
  | .non :: _, _, _, h, _ => by simp [kpairs] at h
  | .bl _ :: _, _, _, h, _ => by simp [kpairs] at h
  | .int _ :: _, _, _, h, _ => by simp [kpairs] at h
  | .str _ :: _, _, _, h, _ => by simp [kpairs] at h
  | .lst _ :: _, _, _, h, _ => by simp [kpairs] at h
  | .ref _ :: _, _, _, h, _ => by simp [kpairs] at h
end
theorem blt_dict {X : Cx} {fz : Bool} (hc : X.calm = true) : ∃ r, CallR X (.type "dict") r ∧ BltOk X.K r (bltD fz .dict) := by
  refine ⟨_, (call_dictP hc).or (call_dictT hc), ?_⟩
  intro ι H S ds vs d S' Q s r h q
  match ds, h with
  | [x], h =>
    obtain ⟨v, rfl, r1⟩ := reps1 r
    have h' : ((items S x).bind fun l => (kpairs l).map fun kvs => (D.ref S.length, S ++ [.dic (mergeK [] kvs)])) = some (d, S') := by cases x <;> simpa [bltD] using h
    simp only [Option.bind_eq_some_iff, Option.map_eq_some_iff] at h'
    obtain ⟨l, h1, kvs, h2, h3⟩ := h'
    cases h3
    have done : ∀ {us : List V} {ws : List (Key × V)}, Krep X.K ι H kvs ws → ∀ p, H p = none → Q (.ref p) (upd H p (.dK (L2.mergeK [] ws))) := fun {us ws} hk p hp => by
      have hk' : Krep X.K (ι.push p) (upd H p (.dK (L2.mergeK [] ws))) (mergeK [] kvs) (L2.mergeK [] ws) := (krep_merge hk (by simp [Krep])).ext (Ext.push hp)
      refine q (ι.push p) _ _ (Ext.push hp) (s.push hp ⟨_, upd_same, hk'⟩) (rep_ref.mpr ⟨p, rfl, s.last p⟩)
    have lists : (∃ a us, v = .ref a ∧ H a = some (.lst us) ∧ Reps X.K ι H l us) → ∃ (a : Addr) (ps : List Addr) (kvs : List (Key × V)), [v] = [.ref a] ∧ SqL X.K H a (ps.map V.ref) ∧ Paired (fun p kv => SqT X.K H p [kV kv.1, kv.2]) ps kvs ∧
        ∀ p, H p = none → Q (.ref p) (upd H p (.dK (L2.mergeK [] kvs))) := by
      rintro ⟨a, us, rfl, hs, ru⟩
      obtain ⟨ps, ws, rfl, hp, hk⟩ := kpairs_rep h2 ru
      exact ⟨a, ps, ws, rfl, SqL.of hs, hp, done (us := []) hk⟩
    cases x with
    | tup m =>
      simp only [items, Option.some.injEq] at h1
      subst h1
      obtain ⟨a, us, rfl, hs, ru⟩ := rep_tup.mp r1
      obtain ⟨ps, ws, rfl, hp, hk⟩ := kpairs_rep h2 ru
      exact .inr ⟨a, ps, ws, rfl, hs, hp, done (us := []) hk⟩
    | fzl m =>
      simp only [items, Option.some.injEq] at h1
      subst h1
      obtain ⟨a, us, rfl, hs, ru⟩ := rep_fzl.mp r1
      obtain ⟨ps, ws, rfl, hp, hk⟩ := kpairs_rep h2 ru
      exact .inl ⟨a, ps, ws, rfl, hs.l, hp, done (us := []) hk⟩
    | lst m => exact .inl (lists (litems_at s r1 h1))
    | ref n => exact .inl (lists (litems_at s r1 h1))
    | _ => simp [items] at h1
  | [], h => simp [bltD] at h
  | _ :: _ :: _, h => simp [bltD] at h
/-- a built-in by its name -/
def bltN : Blt → Str
  | .len => "len" | .abs => "abs" | .int => "int" | .sorted => "sorted" | .list => "list" | .tuple => "tuple" | .dict => "dict" | .all => "all" | .any => "any" | .sum => "sum" | .str => "str" | .min => "min" | .max => "max"
theorem blt_ok {X : Cx} (hc : X.calm = true) {fz : Bool} (b : Blt) (hb : (b == .str || b == .min || b == .max) = false) :
    ∃ u r, bootBuiltins (bltN b) = some u ∧ (∃ id, u = .builtin id ∨ u = .type id) ∧ CallR X u r ∧ BltOk X.K r (bltD fz b) := by
  cases b with
  | len => obtain ⟨r, h1, h2⟩ := blt_len (X := X) (fz := fz); exact ⟨_, r, by decide +kernel, ⟨_, .inl rfl⟩, h1, h2⟩
  | abs => obtain ⟨r, h1, h2⟩ := blt_abs (X := X) (fz := fz); exact ⟨_, r, by decide +kernel, ⟨_, .inl rfl⟩, h1, h2⟩
  | int => obtain ⟨r, h1, h2⟩ := blt_int (X := X) (fz := fz); exact ⟨_, r, by decide +kernel, ⟨_, .inr rfl⟩, h1, h2⟩
  | sorted => obtain ⟨r, h1, h2⟩ := blt_sorted (X := X) (fz := fz) hc; exact ⟨_, r, by decide +kernel, ⟨_, .inl rfl⟩, h1, h2⟩
  | list => obtain ⟨r, h1, h2⟩ := blt_list (X := X) (fz := fz); exact ⟨_, r, by decide +kernel, ⟨_, .inr rfl⟩, h1, h2⟩
  | tuple => obtain ⟨r, h1, h2⟩ := blt_tuple (X := X) (fz := fz); exact ⟨_, r, by decide +kernel, ⟨_, .inr rfl⟩, h1, h2⟩
  | dict => obtain ⟨r, h1, h2⟩ := blt_dict (X := X) (fz := fz) hc; exact ⟨_, r, by decide +kernel, ⟨_, .inr rfl⟩, h1, h2⟩
  | all => obtain ⟨r, h1, h2⟩ := blt_all (X := X) (fz := fz) hc; exact ⟨_, r, by decide +kernel, ⟨_, .inl rfl⟩, h1, h2⟩
  | any => obtain ⟨r, h1, h2⟩ := blt_any (X := X) (fz := fz) hc; exact ⟨_, r, by decide +kernel, ⟨_, .inl rfl⟩, h1, h2⟩
  | sum => obtain ⟨r, h1, h2⟩ := blt_sum (X := X) (fz := fz) hc; exact ⟨_, r, by decide +kernel, ⟨_, .inl rfl⟩, h1, h2⟩
  | str => cases hb
  | min => cases hb
  | max => cases hb

/-! ### isinstance -/
def tyN : Ty → String
  | .int => "int" | .bool => "bool" | .str => "str" | .tuple => "tuple" | .list => "list" | .dict => "dict"
theorem isi_use {X : Cx} {ι : Ad} {H : Hp} {S : Sto} {a : D} {x : V} {t : Ty} {c : Bool} {Q : VK} (s : Sat X.K ι H S) (r : Rep X.K ι H a x) (h : isiD S t a = some c) (q : Q (.bl c) H) : rIsi X.K [x, .ty (tyN t)] H Q := by
  have fin : ∀ (n : String), TyX X.K H x (.type n) → kitB n (tyN t) = some c → rIsi X.K [x, .ty (tyN t)] H Q := fun n ty k => ⟨x, _, _, _, c, rfl, .ty _, ty, kit_ty k, q⟩
  cases a with
  | non =>
    simp only [isiD, Option.some.injEq] at h; subst h
    rw [rep_non] at r; subst r
    exact fin "NoneType" (.base .non) (by cases t <;> decide +kernel)
  | bl b =>
    simp only [isiD, Option.some.injEq] at h; subst h
    rw [rep_bl] at r; subst r
    exact fin "bool" (.base (.bl _)) (by cases t <;> decide +kernel)
  | int b =>
    simp only [isiD, Option.some.injEq] at h; subst h
    rw [rep_int] at r; subst r
    exact fin "int" (.base (.int _)) (by cases t <;> decide +kernel)
  | str b =>
    simp only [isiD, Option.some.injEq] at h; subst h
    rw [rep_str] at r; subst r
    exact fin "str" (.base (.str _)) (by cases t <;> decide +kernel)
  | tup l =>
    simp only [isiD, Option.some.injEq] at h; subst h
    obtain ⟨p, vs, rfl, hs, _⟩ := rep_tup.mp r
    refine fin "tuple" ?_ (by cases t <;> decide +kernel)
    rcases hs with ⟨ob, _, hs⟩ | ⟨o, its, n, h1, h2, _⟩
    · exact .fTuple hs
    · exact .kTuple h1 h2
  | lst l =>
    simp only [isiD, Option.some.injEq] at h; subst h
    obtain ⟨p, vs, rfl, hs, _⟩ := rep_lst.mp r
    exact fin "list" (.base (.lst hs)) (by cases t <;> decide +kernel)
  | fzl l => simp [isiD] at h
  | ref n =>
    simp only [isiD] at h
    cases e : S[n]? with
    | none => rw [e] at h; cases h
    | some o =>
      rw [e] at h
      cases o with
      | lst l =>
        simp only [Option.some.injEq] at h; subst h
        obtain ⟨p, rfl, ha⟩ := rep_ref.mp r
        obtain ⟨vs, g, _⟩ := s.at_ n _ p e ha
        exact fin "list" (.base (.lst g)) (by cases t <;> decide +kernel)
      | dic kvs =>
        simp only [Option.some.injEq] at h; subst h
        obtain ⟨p, ws, rfl, _, g, _⟩ := dic_at s r e
        exact fin "dict" (.base (.dK g)) (by cases t <;> decide +kernel)
      | dead => cases h
end Tt
end

section
/-! Methods. -/
namespace Tt
open PySem PySem.Spec PyProof.Rows L2

/-- a method's rule serves it over data -/
def MthOk (K : PySem.W.Frag) (T : String) (r : V → List V → Hp → VK → Prop) (f : D → List D → Sto → Option (D × Sto)) : Prop :=
  ∀ ι H S o ds x vs d S' (Q : VK), Sat K ι H S → Rep K ι H o x → Reps K ι H ds vs → f o ds S = some (d, S') →
    (∀ ι' H' v, Ext K ι H ι' H' → Sat K ι' H' S' → Rep K ι' H' d v → Q v H') → r x vs H Q
/-- a list of the store -/
theorem lst_at {K : PySem.W.Frag} {ι : Ad} {H : Hp} {S : Sto} (s : Sat K ι H S) {n : Nat} {v : V} {l : List D} (r : Rep K ι H (.ref n) v) (h : S[n]? = some (.lst l)) : ∃ a vs, v = .ref a ∧ ι.r[n]? = some a ∧ H a = some (.lst vs) ∧ Reps K ι H l vs := by
  obtain ⟨a, e, ha⟩ := rep_ref.mp r
  obtain ⟨vs, h1, h2⟩ := s.at_ n _ a h ha
  exact ⟨a, vs, e, ha, h1, h2⟩
theorem write_lst {K : PySem.W.Frag} {ι : Ad} {H : Hp} {S : Sto} (s : Sat K ι H S) {n : Nat} {a : Addr} {l : List D} {vs ws : List V} (ha : ι.r[n]? = some a) (hH : H a = some (.lst vs)) (r : Reps K ι H l ws) :
    Ext K ι H ι (upd H a (.lst ws)) ∧ Sat K ι (upd H a (.lst ws)) (S.set n (.lst l)) := by
  have hm : Mut (H a) := by rw [hH]; trivial
  have x : Ext K ι H ι (upd H a (.lst ws)) := Ext.write (List.mem_of_getElem? ha) hm
  exact ⟨x, s.write ha hm ⟨ws, upd_same, r.ext x⟩⟩
theorem mth_append {X : Cx} : MthOk X.K "list" rAppend (mthD .append) := by
  intro ι H S o ds x vs d S' Q s r rs h q
  match o, ds, h with
  | .ref n, [y], h =>
    obtain ⟨v, rfl, r1⟩ := reps1 rs
    simp only [mthD] at h
    cases e : S[n]? with
    | none => rw [e] at h; cases h
    | some ob =>
      rw [e] at h
      cases ob with
      | lst l =>
        simp only at h
        split at h
        · cases h
          obtain ⟨a, us, rfl, ha, g, ru⟩ := lst_at s r e
          obtain ⟨x', s'⟩ := write_lst s ha g (ru.append (.cons r1 .nil))
          exact ⟨a, us, v, rfl, rfl, g, by rw [ru.length]; assumption, q ι _ _ x' s' (rep_non.mpr rfl)⟩
        · cases h
      | _ => cases h
theorem mth_pop {X : Cx} : MthOk X.K "list" (fun x xs H Q => rPop x xs H Q ∨ rPopAt x xs H Q) (mthD .pop) := by
  intro ι H S o ds x vs d S' Q s r rs h q
  match o, ds, h with
  | .ref n, [], h =>
    simp only [Reps] at rs; subst rs
    simp only [mthD] at h
    cases e : S[n]? with
    | none => rw [e] at h; cases h
    | some ob =>
      rw [e] at h
      cases ob with
      | lst l =>
        simp only at h
        cases e2 : l[l.length - 1]? with
        | none => rw [e2] at h; cases h
        | some y =>
          rw [e2] at h
          cases h
          obtain ⟨a, us, rfl, ha, g, ru⟩ := lst_at s r e
          obtain ⟨w, hw, rw'⟩ := ru.get e2
          obtain ⟨x', s'⟩ := write_lst s ha g ru.dropLast
          exact .inl ⟨a, us, w, rfl, rfl, g, by rw [ru.length]; exact hw, q ι _ _ x' s' (rw'.ext x')⟩
      | _ => cases h
  | .ref n, [.int i], h =>
    obtain ⟨v, rfl, r1⟩ := reps1 rs
    rw [rep_int] at r1; subst r1
    simp only [mthD] at h
    cases e : S[n]? with
    | none => rw [e] at h; cases h
    | some ob =>
      rw [e] at h
      cases ob with
      | lst l =>
        simp only at h
        split at h
        · rename_i hi
          cases e2 : l[i.toNat]? with
          | none => rw [e2] at h; cases h
          | some y =>
            rw [e2] at h
            cases h
            obtain ⟨a, us, rfl, ha, g, ru⟩ := lst_at s r e
            obtain ⟨w, hw, rw'⟩ := ru.get e2
            obtain ⟨x', s'⟩ := write_lst s ha g (ru.eraseIdx i.toNat)
            have hl := (List.getElem?_eq_some_iff.mp hw).1
            exact .inr ⟨a, us, i, i.toNat, w, rfl, rfl, g, by omega, hi.2, seqIndex_of hi.1 (by omega), hw, q ι _ _ x' s' (rw'.ext x')⟩
        · cases h
      | _ => cases h
theorem mth_extend {X : Cx} : MthOk X.K "list" rExtend (mthD .extend) := by
  intro ι H S o ds x vs d S' Q s r rs h q
  match o, ds, h with
  | .ref n, [y], h =>
    obtain ⟨v, rfl, r1⟩ := reps1 rs
    simp only [mthD] at h
    cases e : S[n]? with
    | none => rw [e] at h; cases h
    | some ob =>
      rw [e] at h
      cases ob with
      | lst l =>
        simp only [Option.bind_eq_some_iff] at h
        obtain ⟨m, hm, h⟩ := h
        split at h
        · cases h
          obtain ⟨a, us, rfl, ha, g, ru⟩ := lst_at s r e
          obtain ⟨b, ws, rfl, gb, rw'⟩ := litems_at s r1 hm
          obtain ⟨x', s'⟩ := write_lst s ha g (ru.append rw')
          exact ⟨a, b, us, ws, rfl, rfl, g, gb, by rw [ru.length, rw'.length]; assumption, q ι _ _ x' s' (rep_non.mpr rfl)⟩
        · cases h
      | _ => cases h
theorem mth_endswith {X : Cx} : MthOk X.K "str" (fun x xs H Q => ∃ a b, x = .str a ∧ xs = [.str b] ∧ Q (.bl (Txt.endswith a b)) H) (mthD .endswith) := by
  intro ι H S o ds x vs d S' Q s r rs h q
  match o, ds, h with
  | .str a, [.str b], h =>
    obtain ⟨v, rfl, r1⟩ := reps1 rs
    rw [rep_str] at r1 r; subst r1 r
    simp only [mthD, Option.some.injEq, Prod.mk.injEq] at h
    obtain ⟨rfl, rfl⟩ := h
    exact ⟨a, b, rfl, rfl, q ι H _ .refl s (rep_bl.mpr rfl)⟩
/-- xs.count(x) of flat things -/
def rCntF (K : PySem.W.Frag) : V → List V → Hp → VK → Prop := fun x xs H Q => ∃ (p : Addr) (ys : List V) (k : V), x = .ref p ∧ xs = [k] ∧ SqL K H p ys ∧ flatV k = true ∧ ys.all flatV = true ∧ Q (.int ((ys.countP fun y => eqV y k : Nat))) H
theorem cnt_eqU {x : V} : ∀ {xs : List V} {us : List Value}, Vals xs us → xs.all flatV = true → us.countP (eqU x) = xs.countP fun y => eqV y x
  | _, _, .nil, _ => rfl
  | y :: xs, u :: us, .cons r t, f => by
    rw [List.all_cons, Bool.and_eq_true] at f
    rw [List.countP_cons, List.countP_cons, eqU_of r f.1, cnt_eqU t f.2]
theorem mt_countF {X : Cx} : MtR X "list.count" (rCntF X.K) := by
  intro pins s σ H x xs v us Q I rx rxs h
  obtain ⟨p, ys, k, rfl, rfl, hs, fk, fy, q⟩ := h
  cases rx
  obtain ⟨u, rfl, ru⟩ := rxs.one
  obtain ⟨its, rv, ⟨⟨cls, dd, data, sl⟩, n, ho, hc, hdn, hd⟩, hlen⟩ := I.list hs
  simp only at hc hd
  subst hc hd
  refine call_meets PySem.F.slot_list_count ⟨_, ho, rfl⟩ PySem.F.entry_list_count (PySem.F.args_list_count_2 _ _)
    (SeqAt.list_countAt p its.toArray n dd sl u (eqU k)) ⟨ho, fun y hy => mem_eqAt ru fk rv fy y (by simpa using hy), ?_⟩
  have ec : its.toArray.toList.countP (eqU k) = ys.countP fun y => eqV y k := cnt_eqU rv fy
  refine ⟨.int ((ys.countP fun y => eqV y k : Nat)), H, I.tok _, ⟨s.toks, ?_⟩, q⟩
  show Value.int ((its.toArray.toList.countP (eqU k) : Nat) : Int) s.toks = _
  rw [ec]
theorem mth_count {X : Cx} : MthOk X.K "list" (rCntF X.K) (mthD .count) := by
  intro ι H S o ds x vs d S' Q s r rs h q
  match o, ds, h with
  | o, [y], h =>
    obtain ⟨v, rfl, r1⟩ := reps1 rs
    have h' : ((litems S o).bind fun l => if (flatD y && l.all flatD) = true then some (D.int (((l.map toV).countP fun z => eqV z (toV y) : Nat)), S) else none) = some (d, S') := by cases o <;> simpa [mthD] using h
    rw [Option.bind_eq_some_iff] at h'
    obtain ⟨l, h1, h2⟩ := h'
    split at h2
    · rename_i f
      rw [Bool.and_eq_true] at f
      cases h2
      obtain ⟨a, us, rfl, g, ru⟩ := litems_at s r h1
      obtain ⟨e1, f1⟩ := flat_rep f.1 r1
      obtain ⟨e2, f2⟩ := flat_reps f.2 ru
      exact ⟨a, us, v, rfl, rfl, SqL.of g, f1, f2, by rw [e1, e2]; exact q ι H _ .refl s (rep_int.mpr rfl)⟩
    · cases h2
  | o, [], h => cases o <;> simp [mthD] at h
  | o, _ :: _ :: _, h => cases o <;> simp [mthD] at h
def mthN : Mth → Str
  | .append => "append" | .pop => "pop" | .extend => "extend" | .endswith => "endswith" | .count => "count"
def mthT : Mth → String
  | .endswith => "str" | _ => "list"
structure MthAt (X : Cx) (m : Mth) : Prop where
  ex : ∃ id r, PlainAttrs (mthT m) ∧ Slot (mthT m) (mthN m) id ∧ typeOf (.builtin id) = pure (.type "method_descriptor") ∧ MtR X id r ∧ MthOk X.K (mthT m) r (mthD m)
theorem mth_ok {X : Cx} (m : Mth) : MthAt X m := by
  cases m with
  | append => exact ⟨_, _, PySem.F.plainAttrs_list, PySem.F.slot_list_append, PySem.F.type_list_append, mt_append, mth_append⟩
  | pop => exact ⟨_, _, PySem.F.plainAttrs_list, PySem.F.slot_list_pop, PySem.F.type_list_pop, MtR.or mt_pop mt_popAt, mth_pop⟩
  | extend => exact ⟨_, _, PySem.F.plainAttrs_list, PySem.F.slot_list_extend, PySem.F.type_list_extend, mt_extend, mth_extend⟩
  | endswith => exact ⟨_, _, PySem.F.plainAttrs_str, PySem.F.slot_str_endswith, PySem.F.type_str_endswith, mt_endswith, mth_endswith⟩
  | count => exact ⟨_, _, PySem.F.plainAttrs_list, PySem.F.slot_list_count, PySem.F.type_list_count, mt_countF, mth_count⟩
/-- the receiver is of the method's type -/
theorem mth_ty {K : PySem.W.Frag} {ι : Ad} {H : Hp} {S : Sto} {m : Mth} {o : D} {x : V} (s : Sat K ι H S) (r : Rep K ι H o x) (h : mthChk m o S = true) : tyV K (mthT m) x H := by
  have lists : (litems S o).isSome = true → mthT m = "list" → tyV K (mthT m) x H := by
    intro hl e
    obtain ⟨l, hl⟩ := Option.isSome_iff_exists.mp hl
    rw [e]
    obtain ⟨a, vs, rfl, g, _⟩ := litems_at s r hl
    exact .inl ⟨rfl, vs, SqL.of g⟩
  cases m with
  | endswith =>
    cases o <;> first
      | (simp [mthChk] at h; done)
      | (rw [rep_str] at r; subst r; rfl)
  | append => exact lists (by cases o <;> simpa [mthChk] using h) rfl
  | pop => exact lists (by cases o <;> simpa [mthChk] using h) rfl
  | extend => exact lists (by cases o <;> simpa [mthChk] using h) rfl
  | count => exact lists (by cases o <;> simpa [mthChk] using h) rfl
end Tt
end

section
/-! Each form by its parts. -/
namespace Tt
open PySem PySem.Spec PyProof.Rows L2

section
variable {X : Cx} {K : PySem.W.Frag} {e a b c : Expr} {pos : Pos} {m ma mb mc : En → Sto → Option (D × Sto)}
/-- from an evaluation to what is behind it -/
theorem sE_mk {σ : L2.St} {H : Hp} {Q : VK} {ι : Ad} {env : En} {S : Sto} {d : D} {S' : Sto} (s : Sat K ι H S) (e : Eat K ι H env σ) (h : m env S = some (d, S'))
    (q : ∀ ι' H' v, Ext K ι H ι' H' → Sat K ι' H' S' → Rep K ι' H' d v → Q v H') : sE K m σ H Q := ⟨ι, env, S, d, S', s, e, h, q⟩
theorem n_var {i : Nat} {x : Str} (hN : X.N[i]? = some x) (hv : Vis X.env.scope x) (hd : (x == ("__debug__" : Str)) = false) (hcd : (x == ("__classdict__" : Str)) = false) :
    PE X (.Name x pos) (sE X.K fun env S => match env[i]? with | some (some x) => some (x, S) | _ => none) := by
  refine PE.imp (pe_var hN hv hd hcd) ?_
  rintro σ H Q ⟨ι, env, S, d, S', s, e, h, q⟩
  dsimp only at h
  cases h1 : env[i]? with
  | none => rw [h1] at h; cases h
  | some o =>
    rw [h1] at h
    cases o with
    | none => cases h
    | some y =>
      cases h
      obtain ⟨v, h2, r⟩ := e.at_ i d h1
      exact ⟨v, h2, q ι H v .refl s r⟩
theorem n_const {d : D} {v : V} (h : PE X e (tC v)) (r : ∀ ι H, Rep X.K ι H d v) : PE X e (sE X.K fun _ S => some (d, S)) := by
  refine PE.imp h ?_
  rintro σ H Q ⟨ι, env, S, d', S', s, e, h, q⟩
  cases h
  exact q ι H v .refl s (r ι H)
theorem n_bin {op : Operator} {r : R2} {f : D → D → Sto → Option (D × Sto)} (ho : OpR X (binaryOp op) r) (hd : OpD X.K r f) (ha : PE X a (sE X.K ma)) (hb : PE X b (sE X.K mb)) :
    PE X (.BinOp a op b pos) (sE X.K fun env S => (ma env S).bind fun p => (mb env p.2).bind fun q => f p.1 q.1 q.2) :=
  PE.imp (pe_op ho ha hb) fun _ _ _ h => op_use hd h
theorem n_neg (ha : PE X a (sE X.K ma)) : PE X (.UnaryOp .USub a pos) (sE X.K fun env S => (ma env S).bind fun p => match p.1 with | .int i => some (.int (-i), p.2) | _ => none) := by
  refine PE.imp (pe_un un_neg ha) ?_
  rintro σ H Q ⟨ι, env, S, d, S', s, e, h, q⟩
  rw [Option.bind_eq_some_iff] at h
  obtain ⟨⟨x, S1⟩, h1, h2⟩ := h
  cases x <;> first
    | (simp at h2; done)
    | skip
  cases h2
  refine sE_mk s e h1 fun ι1 H1 v x1 s1 r1 => ?_
  rw [rep_int] at r1; subst r1
  exact ⟨_, rfl, q ι1 H1 _ x1 s1 (rep_int.mpr rfl)⟩
/-- a comparison -/
theorem cmp_use {op : Cop} {r : R2} (o : CmpOk K r op) {σ : L2.St} {H : Hp} {Q : VK}
    (h : sT K (fun env S => (ma env S).bind fun p => (mb env p.2).bind fun q => (cmpD op p.1 q.1 q.2).map fun r => (r, q.2)) σ H (fun k H' => Q (.bl k) H')) : tOp r (sE K ma) (sE K mb) σ H Q := by
  obtain ⟨ι, env, S, d, S', hs, he, hm, q⟩ := h
  simp only [Option.bind_eq_some_iff, Option.map_eq_some_iff] at hm
  obtain ⟨⟨a, S1⟩, h1, ⟨b, S2⟩, h2, c, h3, h4⟩ := hm
  cases h4
  refine sE_mk hs he h1 fun ι1 H1 x x1 s1 r1 => ?_
  refine sE_mk s1 (he.ext x1) h2 fun ι2 H2 y x2 s2 r2 => ?_
  exact o ι2 H2 _ a b x y _ _ s2 (r1.ext x2) r2 h3 (q ι2 H2 (x1.trans x2) s2)
/-- a test's evaluation as a value's -/
theorem sE_of_sT {t : En → Sto → Option (Bool × Sto)} {σ : L2.St} {H : Hp} {Q : VK} (h : sE K (fun env S => (t env S).map fun p => (.bl p.1, p.2)) σ H Q) : sT K t σ H fun k H' => Q (.bl k) H' := by
  obtain ⟨ι, env, S, d, S', s, e, h, q⟩ := h
  rw [Option.map_eq_some_iff] at h
  obtain ⟨⟨c, S1⟩, h1, h2⟩ := h
  cases h2
  exact ⟨ι, env, S, c, _, s, e, h1, fun ι' H' x' s' => q ι' H' _ x' s' (rep_bl.mpr rfl)⟩
theorem sT_imp {t : En → Sto → Option (Bool × Sto)} {σ : L2.St} {H : Hp} {Q Q' : Bool → Hp → Prop} (h : sT K t σ H Q) (w : ∀ k H', Q k H' → Q' k H') : sT K t σ H Q' := by
  obtain ⟨ι, env, S, d, S', s, e, h, q⟩ := h
  exact ⟨ι, env, S, d, S', s, e, h, fun ι' H' x' s' => w _ _ (q ι' H' x' s')⟩
theorem n_cmp {op : Cop} (hu : X.A.units + 64 < cLine) (ha : PE X a (sE X.K ma)) (hb : PE X b (sE X.K mb)) (hm : behindInMarks (copOf op) b = false) :
    PE X (.Compare a [copOf op] [b] pos) (sE X.K fun env S => ((ma env S).bind fun p => (mb env p.2).bind fun q => (cmpD op p.1 q.1 q.2).map fun r => (r, q.2)).map fun p => (.bl p.1, p.2)) := by
  obtain ⟨r, ho, hd⟩ := cmp_all hu op
  exact PE.imp (pe_cmpR ho ha hb hm) fun σ H Q h => cmp_use hd (sE_of_sT h)
theorem t_cmp {op : Cop} (hu : X.A.units + 64 < cLine) (ha : PE X a (sE X.K ma)) (hb : PE X b (sE X.K mb)) (hm : behindInMarks (copOf op) b = false) :
    PT X (.Compare a [copOf op] [b] pos) (sT X.K fun env S => (ma env S).bind fun p => (mb env p.2).bind fun q => (cmpD op p.1 q.1 q.2).map fun r => (r, q.2)) := by
  obtain ⟨r, ho, hd⟩ := cmp_all hu op
  exact PT.imp (pt_cmpR ho ha hb hm) fun σ H Q h => cmp_use hd (sT_imp h fun k H' q => ⟨k, rfl, q⟩)
theorem chain_use {op op' : Cop} {r r' : R2} (o : CmpOk K r op) (o' : CmpOk K r' op') {σ : L2.St} {H : Hp} {Q : VK}
    (h : sT K (fun env S => (ma env S).bind fun p => (mb env p.2).bind fun q => (cmpD op p.1 q.1 q.2).bind fun r =>
      if r = true then (mc env q.2).bind fun u => (cmpD op' q.1 u.1 u.2).map fun r' => (r', u.2) else some (false, q.2)) σ H (fun k H' => Q (.bl k) H')) : tChain r r' (sE K ma) (sE K mb) (sE K mc) σ H Q := by
  obtain ⟨ι, env, S, d, S', hs, he, hm, q⟩ := h
  simp only [Option.bind_eq_some_iff] at hm
  obtain ⟨⟨a, S1⟩, h1, ⟨b, S2⟩, h2, c, h3, h4⟩ := hm
  refine sE_mk hs he h1 fun ι1 H1 x x1 s1 r1 => ?_
  refine sE_mk s1 (he.ext x1) h2 fun ι2 H2 y x2 s2 r2 => ?_
  refine o ι2 H2 S2 a b x y c _ s2 (r1.ext x2) r2 h3 ⟨c, rfl, ?_⟩
  cases c with
  | false =>
    rw [if_neg Bool.false_ne_true] at h4 ⊢
    cases h4
    exact q ι2 H2 (x1.trans x2) s2
  | true =>
    rw [if_pos rfl] at h4 ⊢
    simp only [Option.bind_eq_some_iff, Option.map_eq_some_iff] at h4
    obtain ⟨⟨u, S3⟩, h5, c', h6, h7⟩ := h4
    cases h7
    refine sE_mk s2 ((he.ext x1).ext x2) h5 fun ι3 H3 z x3 s3 r3 => ?_
    exact o' ι3 H3 _ b u y z _ _ s3 (r2.ext x3) r3 h6 (q ι3 H3 ((x1.trans x2).trans x3) s3)
theorem n_chain {op op' : Cop} (hu : X.A.units + 64 < cLine) (ha : PE X a (sE X.K ma)) (hb : PE X b (sE X.K mb)) (hc : PE X c (sE X.K mc)) (hm : behindInMarks (copOf op') c = false) :
    PE X (.Compare a [copOf op, copOf op'] [b, c] pos) (sE X.K fun env S => ((ma env S).bind fun p => (mb env p.2).bind fun q => (cmpD op p.1 q.1 q.2).bind fun r =>
      if r = true then (mc env q.2).bind fun u => (cmpD op' q.1 u.1 u.2).map fun r' => (r', u.2) else some (false, q.2)).map fun p => (.bl p.1, p.2)) := by
  obtain ⟨r, ho, hd⟩ := cmp_all hu op
  obtain ⟨r', ho', hd'⟩ := cmp_all hu op'
  exact PE.imp (pe_chain ho ho' ha hb hc hm) fun σ H Q h => chain_use hd hd' (sE_of_sT h)
theorem t_chain {op op' : Cop} (hu : X.A.units + 64 < cLine) (ha : PE X a (sE X.K ma)) (hb : PE X b (sE X.K mb)) (hc : PE X c (sE X.K mc)) (hm : behindInMarks (copOf op') c = false) :
    PT X (.Compare a [copOf op, copOf op'] [b, c] pos) (sT X.K fun env S => (ma env S).bind fun p => (mb env p.2).bind fun q => (cmpD op p.1 q.1 q.2).bind fun r =>
      if r = true then (mc env q.2).bind fun u => (cmpD op' q.1 u.1 u.2).map fun r' => (r', u.2) else some (false, q.2)) := by
  obtain ⟨r, ho, hd⟩ := cmp_all hu op
  obtain ⟨r', ho', hd'⟩ := cmp_all hu op'
  exact PT.imp (pt_chain ho ho' ha hb hc hm) fun σ H Q h => chain_use hd hd' (sT_imp h fun k H' q => ⟨k, rfl, q⟩)
end
end Tt
end

section
/-! Displays, and, or, subscripts, calls. -/
namespace Tt
open PySem PySem.Spec PyProof.Rows L2

/-! ### no star -/
def ns : Expr → Bool
  | .Starred .. => false
  | _ => true
theorem ns_cons {e : Expr} (h : ns e = true) (r : List Expr) (env : Env) : starEach (e :: r) env = (false, eval e env) :: starEach r env := by
  cases e <;> first | rfl | (simp [ns] at h)
theorem ns_any (pos : Pos) (env : Env) : ∀ es : List Expr, es.all ns = true → (backTo pos (starEach es env)).any (·.1) = false
  | [], _ => rfl
  | e :: es, h => by
    rw [List.all_cons, Bool.and_eq_true] at h
    rw [ns_cons h.1]
    exact ns_any pos env es h.2
theorem ns_all (pos : Pos) (env : Env) : ∀ es : List Expr, es.all ns = true → (backTo pos (starEach es env)).all (fun x => !x.1) = true
  | [], _ => rfl
  | e :: es, h => by
    rw [List.all_cons, Bool.and_eq_true] at h
    rw [ns_cons h.1]
    exact ns_all pos env es h.2
/-- a receiver that is no call -/
def okBase : Expr → Bool
  | .Call .. => false
  | _ => true
theorem base_ok {o : Expr} (h : okBase o = true) (name : Str) (env : Env) : attributeBase o name env (eval o env) = eval o env := by
  cases o <;> first | rfl | (simp [okBase] at h)

section
variable {X : Cx} {K : PySem.W.Frag} {e a b c : Expr} {es : List Expr} {pos p2 : Pos} {m ma mb mc : En → Sto → Option (D × Sto)} {ml : En → Sto → Option (List D × Sto)} {mt mu : En → Sto → Option (Bool × Sto)}
/-! ### lists of expressions -/
theorem a_nil : PA X [] (sA X.K fun _ S => some ([], S)) := by
  refine PA.imp pa_nil ?_
  rintro σ H Q ⟨ι, env, S, d, S', s, e, h, q⟩
  cases h
  exact q ι H [] .refl s .nil
theorem a_cons (ha : PE X e (sE X.K m)) (hr : PA X es (sA X.K ml)) (hs : ns e = true) :
    PA X (e :: es) (sA X.K fun env S => (m env S).bind fun p => (ml env p.2).bind fun q => some (p.1 :: q.1, q.2)) := by
  refine PA.imp (pa_cons ha hr (ns_cons hs _ _)) ?_
  rintro σ H Q ⟨ι, env, S, d, S', s, he, h, q⟩
  simp only [Option.bind_eq_some_iff] at h
  obtain ⟨⟨x, S1⟩, h1, ⟨xs, S2⟩, h2, h3⟩ := h
  cases h3
  refine sE_mk s he h1 fun ι1 H1 v x1 s1 r1 => ?_
  refine ⟨ι1, env, _, _, _, s1, he.ext x1, h2, fun ι2 H2 vs x2 s2 r2 => ?_⟩
  exact q ι2 H2 _ (x1.trans x2) s2 (.cons (r1.ext x2) r2)
/-- behind a list of arguments -/
theorem sA_use {f : List D → Sto → Option (D × Sto)} {R : List V → Hp → VK → Prop} (hf : BltOk K R f) {σ : L2.St} {H : Hp} {Q : VK} (h : sE K (fun env S => (ml env S).bind fun p => f p.1 p.2) σ H Q) : sA K ml σ H fun vs H1 => R vs H1 Q := by
  obtain ⟨ι, env, S, d, S', s, he, h, q⟩ := h
  rw [Option.bind_eq_some_iff] at h
  obtain ⟨⟨xs, S1⟩, h1, h2⟩ := h
  refine ⟨ι, env, S, xs, S1, s, he, h1, fun ι1 H1 vs x1 s1 r1 => ?_⟩
  exact hf ι1 H1 S1 xs vs d S' Q s1 r1 h2 fun ι' H' v x' s' r' => q ι' H' v (x1.trans x') s' r'
theorem n_tup {k : Nat} (h : PA X es (sA X.K ml)) : PE X (.Tuple es k pos) (sE X.K fun env S => (ml env S).bind fun p => if p.1.length ≤ sizeLine then some (.tup p.1, p.2) else none) := by
  refine PE.imp (pe_tupS h) fun σ H Q h => sA_use (K := X.K) (ml := ml) (f := fun l S => if l.length ≤ sizeLine then some (.tup l, S) else none) (R := fun xs H1 Q => xs.length ≤ sizeLine ∧ ∀ (p : Addr) (ob : Obj), ob.dict = none → H1 p = none → Q (.ref p) (upd H1 p (.frz ob (.tup xs)))) ?_ h
  intro ι H S ds vs d S' Q s r h q
  dsimp only at h
  split at h
  · cases h
    exact ⟨by rw [r.length]; assumption, tup_at s r q⟩
  · cases h
theorem n_lst {fz : Bool} (h : PA X es (sA X.K ml)) : PE X (.List es pos) (sE X.K fun env S => (ml env S).bind fun p => mkL fz p.1 p.2) := by
  refine PE.imp (pe_lst h) fun σ H Q h => sA_use (f := fun l S => mkL fz l S) (R := fun xs H1 Q => xs.length ≤ sizeLine ∧ ∀ p, H1 p = none → Q (.ref p) (upd H1 p (.lst xs))) ?_ h
  intro ι H S ds vs d S' Q s r h q
  exact mkL_at s h r q
/-! ### truth -/
theorem n_not (ha : PE X a (sE X.K ma)) : PE X (.UnaryOp .Not a pos) (sE X.K fun env S => (ma env S).bind fun p => match p.1 with | .bl b => some (.bl (!b), p.2) | _ => none) := by
  refine PE.imp (pe_not ha) ?_
  rintro σ H Q ⟨ι, env, S, d, S', s, e, h, q⟩
  rw [Option.bind_eq_some_iff] at h
  obtain ⟨⟨x, S1⟩, h1, h2⟩ := h
  cases x <;> first
    | (simp at h2; done)
    | skip
  cases h2
  refine sE_mk s e h1 fun ι1 H1 v x1 s1 r1 => ?_
  rw [rep_bl] at r1; subst r1
  exact ⟨_, rfl, q ι1 H1 _ x1 s1 (rep_bl.mpr rfl)⟩
theorem n_and {rest : List Expr} (ha : PE X a (sE X.K ma)) (hb : PE X (.BoolOp .And (b :: rest) pos) (sE X.K mb)) : PE X (.BoolOp .And (a :: b :: rest) pos) (sE X.K fun env S => (ma env S).bind fun p => match p.1 with
      | .bl true => mb env p.2
      | .bl false => some (.bl false, p.2)
      | _ => none) := by
  refine PE.imp (pe_and ha hb) ?_
  rintro σ H Q ⟨ι, env, S, d, S', s, e, h, q⟩
  rw [Option.bind_eq_some_iff] at h
  obtain ⟨⟨x, S1⟩, h1, h2⟩ := h
  cases x <;> first
    | (simp at h2; done)
    | skip
  rename_i k
  refine sE_mk s e h1 fun ι1 H1 v x1 s1 r1 => ?_
  rw [rep_bl] at r1; subst r1
  refine ⟨k, rfl, ?_⟩
  cases k with
  | true =>
    rw [if_pos rfl]
    exact sE_mk s1 (e.ext x1) h2 fun ι2 H2 v x2 s2 r2 => q ι2 H2 v (x1.trans x2) s2 r2
  | false =>
    rw [if_neg Bool.false_ne_true]
    cases h2
    exact q ι1 H1 _ x1 s1 (rep_bl.mpr rfl)
theorem n_or {rest : List Expr} (ha : PE X a (sE X.K ma)) (hb : PE X (.BoolOp .Or (b :: rest) pos) (sE X.K mb)) : PE X (.BoolOp .Or (a :: b :: rest) pos) (sE X.K fun env S => (ma env S).bind fun p => match p.1 with
      | .bl true => some (.bl true, p.2)
      | .bl false => mb env p.2
      | _ => none) := by
  refine PE.imp (pe_or ha hb) ?_
  rintro σ H Q ⟨ι, env, S, d, S', s, e, h, q⟩
  rw [Option.bind_eq_some_iff] at h
  obtain ⟨⟨x, S1⟩, h1, h2⟩ := h
  cases x <;> first
    | (simp at h2; done)
    | skip
  rename_i k
  refine sE_mk s e h1 fun ι1 H1 v x1 s1 r1 => ?_
  rw [rep_bl] at r1; subst r1
  refine ⟨k, rfl, ?_⟩
  cases k with
  | false =>
    rw [if_neg Bool.false_ne_true]
    exact sE_mk s1 (e.ext x1) h2 fun ι2 H2 v x2 s2 r2 => q ι2 H2 v (x1.trans x2) s2 r2
  | true =>
    rw [if_pos rfl]
    cases h2
    exact q ι1 H1 _ x1 s1 (rep_bl.mpr rfl)
/-- from a test's evaluation to what is behind it -/
theorem sT_mk {σ : L2.St} {H : Hp} {Q : Bool → Hp → Prop} {ι : Ad} {env : En} {S : Sto} {d : Bool} {S' : Sto} (s : Sat K ι H S) (e : Eat K ι H env σ) (h : mt env S = some (d, S'))
    (q : ∀ ι' H', Ext K ι H ι' H' → Sat K ι' H' S' → Q d H') : sT K mt σ H Q := ⟨ι, env, S, d, S', s, e, h, q⟩
theorem n_ite (hc : PT X c (sT X.K mt)) (ha : PE X a (sE X.K ma)) (hb : PE X b (sE X.K mb)) : PE X (.IfExp c a b pos) (sE X.K fun env S => (mt env S).bind fun p => if p.1 = true then ma env p.2 else mb env p.2) := by
  refine PE.imp (pe_ifExp hc ha hb) ?_
  rintro σ H Q ⟨ι, env, S, d, S', s, e, h, q⟩
  rw [Option.bind_eq_some_iff] at h
  obtain ⟨⟨x, S1⟩, h1, h2⟩ := h
  refine sT_mk s e h1 fun ι1 H1 x1 s1 => ?_
  dsimp only at h2
  cases x with
  | true =>
    rw [if_pos rfl] at h2 ⊢
    exact sE_mk s1 (e.ext x1) h2 fun ι2 H2 v x2 s2 r2 => q ι2 H2 v (x1.trans x2) s2 r2
  | false =>
    rw [if_neg Bool.false_ne_true] at h2 ⊢
    exact sE_mk s1 (e.ext x1) h2 fun ι2 H2 v x2 s2 r2 => q ι2 H2 v (x1.trans x2) s2 r2
theorem tru_at {ι : Ad} {H : Hp} {S : Sto} {d : D} {v : V} {k : Bool} (s : Sat K ι H S) (r : Rep K ι H d v) (h : truth S d = some k) : TruV K v H k := by
  have emp : ∀ {l : List D} {vs : List V}, Reps K ι H l vs → (!l.isEmpty) = !vs.isEmpty := by
    intro l vs r
    have := r.length
    cases l <;> cases vs <;> simp_all
  cases d with
  | non =>
    simp only [truth, Option.some.injEq] at h; subst h
    rw [rep_non] at r; subst r; rfl
  | bl b =>
    simp only [truth, Option.some.injEq] at h; subst h
    rw [rep_bl] at r; subst r; rfl
  | int i =>
    simp only [truth, Option.some.injEq] at h; subst h
    rw [rep_int] at r; subst r; rfl
  | str x =>
    simp only [truth] at h
    split at h
    · cases h
      rw [rep_str] at r; subst r
      exact ⟨by assumption, rfl⟩
    · cases h
  | tup l =>
    simp only [truth, Option.some.injEq] at h; subst h
    obtain ⟨a, vs, rfl, g, ru⟩ := rep_tup.mp r
    exact .inr (.inl ⟨vs, g.t, emp ru⟩)
  | lst l =>
    simp only [truth, Option.some.injEq] at h; subst h
    obtain ⟨a, vs, rfl, g, _, ru⟩ := rep_lst.mp r
    exact .inl ⟨vs, SqL.of g, emp ru⟩
  | fzl l => simp [truth] at h
  | ref n =>
    simp only [truth] at h
    cases e : S[n]? with
    | none => rw [e] at h; cases h
    | some o =>
      rw [e] at h
      cases o with
      | lst l =>
        simp only [Option.some.injEq] at h; subst h
        obtain ⟨a, us, rfl, ha, g, ru⟩ := lst_at s r e
        exact .inl ⟨us, SqL.of g, emp ru⟩
      | dic kvs =>
        simp only [Option.some.injEq] at h; subst h
        obtain ⟨a, ws, rfl, _, g, ru⟩ := dic_at s r e
        refine .inr (.inr ⟨ws, g, ?_⟩)
        have := ru.length
        cases kvs <;> cases ws <;> simp_all
      | dead => cases h
theorem t_val (ha : PE X a (sE X.K ma)) (he : ∀ whole, isTrue a X.env whole = (do let v ← whole; standAt a.pos; holding [v] (truthy v))) : PT X a (sT X.K fun env S => (ma env S).bind fun p => (truth p.2 p.1).map fun b => (b, p.2)) := by
  refine PT.imp (pt_truth ha he) ?_
  rintro σ H Q ⟨ι, env, S, d, S', s, e, h, q⟩
  simp only [Option.bind_eq_some_iff, Option.map_eq_some_iff] at h
  obtain ⟨⟨x, S1⟩, h1, k, h2, h3⟩ := h
  cases h3
  refine sE_mk s e h1 fun ι1 H1 v x1 s1 r1 => ?_
  exact ⟨_, tru_at s1 r1 h2, q ι1 H1 x1 s1⟩
theorem t_not (ha : PT X a (sT X.K mt)) : PT X (.UnaryOp .Not a pos) (sT X.K fun env S => (mt env S).map fun p => (!p.1, p.2)) := by
  refine PT.imp (pt_not ha) ?_
  rintro σ H Q ⟨ι, env, S, d, S', s, e, h, q⟩
  rw [Option.map_eq_some_iff] at h
  obtain ⟨⟨x, S1⟩, h1, h2⟩ := h
  cases h2
  exact sT_mk s e h1 fun ι1 H1 x1 s1 => q ι1 H1 x1 s1
theorem w_and {rest : List Expr} (ha : PT X a (sT X.K mt)) (hb : PW X (.BoolOp .And (b :: rest) pos) (sT X.K mu)) : PW X (.BoolOp .And (a :: b :: rest) pos) (sT X.K fun env S => (mt env S).bind fun p => if p.1 = true then mu env p.2 else some (false, p.2)) := by
  refine PW.imp (pw_and ha hb) ?_
  rintro σ H Q ⟨ι, env, S, d, S', s, e, h, q⟩
  rw [Option.bind_eq_some_iff] at h
  obtain ⟨⟨x, S1⟩, h1, h2⟩ := h
  refine sT_mk s e h1 fun ι1 H1 x1 s1 => ?_
  dsimp only at h2
  cases x with
  | true =>
    rw [if_pos rfl] at h2 ⊢
    exact sT_mk s1 (e.ext x1) h2 fun ι2 H2 x2 s2 => q ι2 H2 (x1.trans x2) s2
  | false =>
    rw [if_neg Bool.false_ne_true] at h2 ⊢
    cases h2
    exact q ι1 H1 x1 s1
theorem w_or {rest : List Expr} (ha : PT X a (sT X.K mt)) (hb : PW X (.BoolOp .Or (b :: rest) pos) (sT X.K mu)) : PW X (.BoolOp .Or (a :: b :: rest) pos) (sT X.K fun env S => (mt env S).bind fun p => if p.1 = true then some (true, p.2) else mu env p.2) := by
  refine PW.imp (pw_or ha hb) ?_
  rintro σ H Q ⟨ι, env, S, d, S', s, e, h, q⟩
  rw [Option.bind_eq_some_iff] at h
  obtain ⟨⟨x, S1⟩, h1, h2⟩ := h
  refine sT_mk s e h1 fun ι1 H1 x1 s1 => ?_
  dsimp only at h2
  cases x with
  | false =>
    rw [if_neg Bool.false_ne_true] at h2 ⊢
    exact sT_mk s1 (e.ext x1) h2 fun ι2 H2 x2 s2 => q ι2 H2 (x1.trans x2) s2
  | true =>
    rw [if_pos rfl] at h2 ⊢
    cases h2
    exact q ι1 H1 x1 s1
/-! ### subscripts -/
theorem n_ix (hu : X.A.units + 1 < cLine) (ha : PE X a (sE X.K ma)) (hb : PE X b (sE X.K mb)) (hs : PlainIx b) : PE X (.Subscript a b pos) (sE X.K fun env S => (ma env S).bind fun p => (mb env p.2).bind fun q => (ixD p.1 q.1 q.2).map fun r => (r, q.2)) := by
  refine PE.imp (pe_ix (ix_all hu) ha hb hs) fun σ H Q h => op_use (f := fun a b S => (ixD a b S).map fun r => (r, S)) ?_ h
  intro ι H S a b x y d S' Q s r1 r2 h q
  rw [Option.map_eq_some_iff] at h
  obtain ⟨u, h1, h2⟩ := h
  cases h2
  exact ix_use s r1 r2 h1 fun v r => q ι H v .refl s r
def sO (K : PySem.W.Frag) (m : En → Sto → Option (Option Int × Sto)) : TO := fun σ H Q => ∃ ι env S d S', Sat K ι H S ∧ Eat K ι H env σ ∧ m env S = some (d, S') ∧
  ∀ ι' H', Ext K ι H ι' H' → Sat K ι' H' S' → Q d H'
theorem PO.imp {o : Option Expr} {t t' : TO} (h : PO X o t) (w : ∀ σ H Q, t' σ H Q → t σ H Q) : PO X o t' := ⟨fun pins s σ H Q I q => h.run pins s σ H Q I (w σ H Q q)⟩
theorem o_none : PO X none (sO X.K fun _ S => some (none, S)) := by
  refine PO.imp po_none ?_
  rintro σ H Q ⟨ι, env, S, d, S', s, e, h, q⟩
  cases h
  exact q ι H .refl s
theorem o_some (ha : PE X a (sE X.K ma)) : PO X (some a) (sO X.K fun env S => (ma env S).bind fun p => match p.1 with | .int i => some (some i, p.2) | _ => none) := by
  refine PO.imp (po_some ha) ?_
  rintro σ H Q ⟨ι, env, S, d, S', s, e, h, q⟩
  rw [Option.bind_eq_some_iff] at h
  obtain ⟨⟨x, S1⟩, h1, h2⟩ := h
  cases x <;> first
    | (simp at h2; done)
    | skip
  cases h2
  refine sE_mk s e h1 fun ι1 H1 v x1 s1 r1 => ?_
  rw [rep_int] at r1; subst r1
  exact ⟨_, rfl, q ι1 H1 x1 s1⟩
theorem n_slice {lo hi : Option Expr} {mo mh : En → Sto → Option (Option Int × Sto)} (ha : PE X a (sE X.K ma)) (hl : PO X lo (sO X.K mo)) (hh : PO X hi (sO X.K mh)) :
    PE X (.Subscript a (.Slice lo hi none p2) pos) (sE X.K fun env S => (ma env S).bind fun p => (mo env p.2).bind fun q => (mh env q.2).bind fun r => slD p.1 q.1 r.1 r.2) := by
  refine PE.imp (pe_slice sl_all ha hl hh) ?_
  rintro σ H Q ⟨ι, env, S, d, S', s, e, h, q⟩
  simp only [Option.bind_eq_some_iff] at h
  obtain ⟨⟨x, S1⟩, h1, ⟨o1, S2⟩, h2, ⟨o2, S3⟩, h3, h4⟩ := h
  refine sE_mk s e h1 fun ι1 H1 v x1 s1 r1 => ?_
  refine ⟨ι1, env, _, _, _, s1, e.ext x1, h2, fun ι2 H2 x2 s2 => ?_⟩
  refine ⟨ι2, env, _, _, _, s2, (e.ext x1).ext x2, h3, fun ι3 H3 x3 s3 => ?_⟩
  exact sl_use s3 ((r1.ext x2).ext x3) h4 fun ι' H' v x' s' r' => q ι' H' v (((x1.trans x2).trans x3).trans x') s' r'
/-! ### calls -/
theorem n_isi {x : Str} {t : Ty} {p p3 : Pos} (hg : Gl X "isinstance") (hm : X.mg "isinstance" = none) (ha : PE X a (sE X.K ma)) (ht : PE X b (tC (.ty (tyN t)))) (hs : ns a = true) (hs2 : ns b = true) :
    PE X (.Call (.Name "isinstance" p) [a, b] [] pos) (sE X.K fun env S => (ma env S).bind fun p => (isiD p.2 t p.1).map fun r => (.bl r, p.2)) := by
  refine PE.imp (pe_callB call_isi hg hm (by decide +kernel) (pa_cons ha (pa_cons ht pa_nil (ns_cons hs2 _ _)) (ns_cons hs _ _)) (by decide) (by decide) (ns_cons hs _ _) (ns_any _ _ _ (by rw [List.all_cons, hs2]; rfl))) ?_
  rintro σ H Q ⟨ι, env, S, d, S', s, e, h, q⟩
  simp only [Option.bind_eq_some_iff, Option.map_eq_some_iff] at h
  obtain ⟨⟨x, S1⟩, h1, k, h2, h3⟩ := h
  cases h3
  refine sE_mk s e h1 fun ι1 H1 v x1 s1 r1 => ?_
  exact isi_use s1 r1 h2 (q ι1 H1 _ x1 s1 (rep_bl.mpr rfl))
theorem n_blt {b : Blt} {fz : Bool} {p : Pos} (hcalm : X.calm = true) (hb : (b == .str || b == .min || b == .max) = false) (hg : Gl X (bltN b)) (hm : X.mg (bltN b) = none) (hns : (e :: es).all ns = true) (h : PA X (e :: es) (sA X.K ml)) :
    PE X (.Call (.Name (bltN b) p) (e :: es) [] pos) (sE X.K fun env S => (ml env S).bind fun p => bltD fz b p.1 p.2) := by
  obtain ⟨u, r, hv, ⟨id, hid⟩, hc, ho⟩ := blt_ok (X := X) hcalm (fz := fz) b hb
  have h1 : bltN b ≠ "__name__" := by cases b <;> decide
  have h2 : (bltN b == ("__debug__" : Str)) = false := by cases b <;> decide
  rw [List.all_cons, Bool.and_eq_true] at hns
  have h3 := ns_cons hns.1 es X.env
  have h4 := ns_any pos X.env es hns.2
  rcases hid with rfl | rfl
  · exact PE.imp (pe_callB hc hg hm hv h h1 h2 h3 h4) fun σ H Q h => sA_use ho h
  · exact PE.imp (pe_callTy hc hg hm hv h h1 h2 h3 h4) fun σ H Q h => sA_use ho h
theorem n_meth {mt : Mth} {apos : Pos} (hb : okBase a = true) (hl : (apos.endLine == pos.line) = true) (hns : ns e = true) (ho : PE X a (sE X.K ma)) (h : PA X [e] (sA X.K ml)) : PE X (.Call (.Attribute a (mthN mt) apos) [e] [] pos) (sE X.K fun env S => (ma env S).bind fun p => if mthChk mt p.1 p.2 = true then (ml env p.2).bind fun q => mthD mt p.1 q.1 q.2 else none) := by
  obtain ⟨id, r, pa, sl, ty, hm, ok⟩ := (mth_ok (X := X) mt).ex
  have h0 : [e].all ns = true := by rw [List.all_cons, hns]; rfl
  refine PE.imp (pe_bm pa sl ty hm ho h (base_ok hb _ _) (by rw [ns_all pos X.env [e] h0]; rfl) hl (ns_cons hns _ _) rfl) ?_
  rintro σ H Q ⟨ι, env, S, d, S', s, he, h, q⟩
  simp only [Option.bind_eq_some_iff] at h
  obtain ⟨⟨x, S1⟩, h1, h2⟩ := h
  split at h2
  · rename_i hchk
    simp only [Option.bind_eq_some_iff] at h2
    obtain ⟨⟨xs, S2⟩, h3, h4⟩ := h2
    refine sE_mk s he h1 fun ι1 H1 v x1 s1 r1 => ⟨mth_ty s1 r1 hchk, ?_⟩
    refine ⟨ι1, env, _, _, _, s1, he.ext x1, h3, fun ι2 H2 vs x2 s2 r2 => ?_⟩
    exact ok ι2 H2 S2 x xs v vs d S' Q s2 (r1.ext x2) r2 h4 fun ι' H' v x' s' r' => q ι' H' v ((x1.trans x2).trans x') s' r'
  · cases h2
theorem n_meth0 {mt : Mth} {apos : Pos} (hb : okBase a = true) (hl : (apos.endLine == pos.line) = true) (ho : PE X a (sE X.K ma)) : PE X (.Call (.Attribute a (mthN mt) apos) [] [] pos) (sE X.K fun env S => (ma env S).bind fun p => if mthChk mt p.1 p.2 = true then (some (([] : List D), p.2)).bind fun q => mthD mt p.1 q.1 q.2 else none) := by
  obtain ⟨id, r, pa, sl, ty, hm, ok⟩ := (mth_ok (X := X) mt).ex
  refine PE.imp (pe_bm0 pa sl ty hm ho (base_ok hb _ _) hl) ?_
  rintro σ H Q ⟨ι, env, S, d, S', s, he, h, q⟩
  simp only [Option.bind_eq_some_iff] at h
  obtain ⟨⟨x, S1⟩, h1, h2⟩ := h
  split at h2
  · rename_i hchk
    simp only [Option.bind_some] at h2
    refine sE_mk s he h1 fun ι1 H1 v x1 s1 r1 => ⟨mth_ty s1 r1 hchk, ?_⟩
    exact ok ι1 H1 S1 x [] v [] d S' Q s1 r1 .nil h2 fun ι' H' v x' s' r' => q ι' H' v (x1.trans x') s' r'
  · cases h2
end
end Tt
end

section
/-! Calls of defs, targets, sources, loops. -/
namespace Tt
open PySem PySem.Spec PyProof.Rows L2

/-! ### calls of defs -/
/-- what a def promises: its evaluation -/
def spC (K : PySem.W.Frag) (cal : Cal) (j : Nat) : Sp := fun vs H Q _ => ∃ ι S ds d S', Sat K ι H S ∧ Reps K ι H ds vs ∧ cal j ds S = some (d, S') ∧
  ∀ ι' H' v, Ext K ι H ι' H' → Sat K ι' H' S' → Rep K ι' H' d v → Q v H'
structure FnAt (X : Cx) (k : Nat) (cal : Cal) (j : Nat) (x : Str) : Prop where
  ex : ∃ f fd ps, X.mg x = some (.ref f) ∧ PySem.W.keepIn X.K (.ref f) = true ∧ Binds X.K fd ps [] ∧ FnOk X.prog X.w X.K X.mg X.base CX0 k f fd ps (spC X.K cal j)
section
variable {X : Cx} {K : PySem.W.Frag} {e : Expr} {es : List Expr} {pos : Pos} {ml : En → Sto → Option (List D × Sto)}
theorem n_call {k : Nat} {cal : Cal} {j : Nat} {x : Str} {p : Pos} (F : FnAt X k cal j x) (hr : Room k X.A) (hg : Gl X x) (hns : (e :: es).all ns = true) (hdb : (x == ("__debug__" : Str)) = false) (h : PA X (e :: es) (sA X.K ml)) :
    PE X (.Call (.Name x p) (e :: es) [] pos) (sE X.K fun env S => (ml env S).bind fun p => cal j p.1 p.2) := by
  obtain ⟨f, fd, ps, hm, hk, hb, G⟩ := F.ex
  rw [List.all_cons, Bool.and_eq_true] at hns
  refine PE.imp (pe_call G hr hg hm hk hb .nil pass0 h hdb (ns_cons hns.1 es X.env) (ns_any pos X.env es hns.2)) fun σ H Q h => ?_
  have := sA_use (K := X.K) (ml := ml) (f := cal j) (R := fun vs H1 Q => spC X.K cal j (vs ++ []) H1 Q E0) (fun ι H S ds vs d S' Q s r h q => ⟨ι, S, ds, d, S', s, by rw [List.append_nil]; exact r, h, q⟩) h
  exact this
theorem n_call0 {k : Nat} {cal : Cal} {j : Nat} {x : Str} {p : Pos} (F : FnAt X k cal j x) (hr : Room k X.A) (hg : Gl X x) (hdb : (x == ("__debug__" : Str)) = false) :
    PE X (.Call (.Name x p) [] [] pos) (sE X.K fun env S => (some (([] : List D), S)).bind fun p => cal j p.1 p.2) := by
  obtain ⟨f, fd, ps, hm, hk, hb, G⟩ := F.ex
  refine PE.imp (pe_call0 G hr hg hm hk hb .nil pass0 hdb) fun σ H Q h => ?_
  obtain ⟨ι, env, S, d, S', s, he, h, q⟩ := h
  exact ⟨ι, S, [], d, S', s, .nil, h, q⟩
end

/-! ### targets -/
/-- a tuple that may not be known whole -/
def RepW (K : PySem.W.Frag) (ι : Ad) (H : Hp) : D → V → Prop
  | .tup l, v => ∃ a vs, v = .ref a ∧ SqT K H a vs ∧ Reps K ι H l vs
  | d, v => Rep K ι H d v
def RepT (K : PySem.W.Frag) (tg : Tg) (ι : Ad) (H : Hp) (d : D) (v : V) : Prop :=
  match tg with
  | .one _ => Rep K ι H d v
  | .many _ => RepW K ι H d v
theorem Rep.w {K : PySem.W.Frag} {ι : Ad} {H : Hp} {d : D} {v : V} (r : Rep K ι H d v) : RepW K ι H d v := by
  cases d with
  | tup l => obtain ⟨a, vs, e, g, ru⟩ := rep_tup.mp r; exact ⟨a, vs, e, g.t, ru⟩
  | _ => exact r
theorem Rep.tg {K : PySem.W.Frag} {ι : Ad} {H : Hp} {d : D} {v : V} {tg : Tg} (r : Rep K ι H d v) : RepT K tg ι H d v := by
  cases tg with
  | one i => exact r
  | many is => exact r.w
def tgIx : Tg → List Nat
  | .one i => [i]
  | .many is => is
def setS : List Nat → List V → L2.St → L2.St
  | i :: is, v :: vs, σ => setS is vs (σ.set i (some v))
  | _, _, σ => σ
theorem Eat.set {K : PySem.W.Frag} {ι : Ad} {H : Hp} {env : En} {σ : L2.St} {d : D} {v : V} (e : Eat K ι H env σ) (r : Rep K ι H d v) (i : Nat) : Eat K ι H (env.set i (some d)) (σ.set i (some v)) := by
  refine ⟨by rw [List.length_set, List.length_set, e.len], fun j d' h => ?_⟩
  by_cases hj : i = j
  · subst hj
    have hl : i < env.length := by
      have := (List.getElem?_eq_some_iff.mp h).1
      rwa [List.length_set] at this
    rw [List.getElem?_set_self hl] at h
    cases h
    exact ⟨v, by rw [List.getElem?_set_self (by rw [e.len]; exact hl)], r⟩
  · rw [List.getElem?_set_ne hj] at h
    obtain ⟨w, h1, h2⟩ := e.at_ j d' h
    exact ⟨w, by rw [List.getElem?_set_ne hj]; exact h1, h2⟩
theorem setAll_at {K : PySem.W.Frag} {ι : Ad} {H : Hp} : ∀ {is : List Nat} {ds : List D} {vs : List V} {env env1 : En} {σ : L2.St}, Eat K ι H env σ → Reps K ι H ds vs → setAll is ds env = some env1 → is.length = vs.length ∧ Eat K ι H env1 (setS is vs σ)
  | [], [], vs, env, env1, σ, e, r, h => by
    simp only [setAll, Option.some.injEq] at h; subst h
    simp only [Reps] at r; subst r
    exact ⟨rfl, e⟩
  | i :: is, d :: ds, vs, env, env1, σ, e, r, h => by
    simp only [setAll] at h
    simp only [Reps] at r
    obtain ⟨v, ws, rfl, r1, r2⟩ := r
    obtain ⟨h1, h2⟩ := setAll_at (e.set r1 i) r2 h
    exact ⟨by simp [h1], h2⟩
  | [], _ :: _, _, _, _, _, _, _, h => by simp [setAll] at h
  | _ :: _, [], _, _, _, _, _, _, h => by simp [setAll] at h
theorem wipe_set {σ : L2.St} {i : Nat} {v : V} : ∀ {own : List Nat}, i ∈ own → wipe (σ.set i (some v)) own = wipe σ own
  | o :: own, h => by
    show (wipe (σ.set i (some v)) own).set o none = (wipe σ own).set o none
    by_cases hi : i ∈ own
    · rw [wipe_set hi]
    · have ho : o = i := by
        rcases List.mem_cons.mp h with e | e
        · exact e.symm
        · exact absurd e hi
      subst ho
      have : ∀ (l : List Nat), o ∉ l → wipe (σ.set o (some v)) l = (wipe σ l).set o (some v) := by
        intro l
        induction l with
        | nil => intro _; rfl
        | cons a r ih =>
          intro hn
          show (wipe (σ.set o (some v)) r).set a none = ((wipe σ r).set a none).set o (some v)
          rw [ih (fun z => hn (List.mem_cons_of_mem _ z)), List.set_comm _ _ (fun e => hn (by rw [e]; exact List.mem_cons_self))]
      rw [this own hi, List.set_set]
theorem wipe_setS {own : List Nat} : ∀ {is : List Nat} {vs : List V} {σ : L2.St}, (∀ i ∈ is, i ∈ own) → wipe (setS is vs σ) own = wipe σ own
  | [], vs, σ, _ => by cases vs <;> rfl
  | i :: is, [], σ, _ => rfl
  | i :: is, v :: vs, σ, h => by
    show wipe (setS is vs (σ.set i (some v))) own = _
    rw [wipe_setS (fun j hj => h j (List.mem_cons_of_mem _ hj)), wipe_set (h i List.mem_cons_self)]
theorem Eat.wipe {K : PySem.W.Frag} {ι : Ad} {H : Hp} {env : En} {σ : L2.St} (e : Eat K ι H env σ) : ∀ own : List Nat, Eat K ι H (wipeD env own) (L2.wipe σ own)
  | [] => e
  | o :: own => by
    have ih := Eat.wipe e own
    refine ⟨by show ((L2.wipe σ own).set o none).length = ((wipeD env own).set o none).length; rw [List.length_set, List.length_set, ih.len], fun j d h => ?_⟩
    have h' : ((wipeD env own).set o none)[j]? = some (some d) := h
    show ∃ v, ((L2.wipe σ own).set o none)[j]? = some (some v) ∧ _
    by_cases hj : o = j
    · subst hj
      by_cases hl : o < (wipeD env own).length
      · rw [List.getElem?_set_self hl] at h'; cases h'
      · rw [List.getElem?_eq_none (by rw [List.length_set]; omega)] at h'; cases h'
    · rw [List.getElem?_set_ne hj] at h' ⊢
      exact ih.at_ j d h'
/-- what a target asks -/
def sG (K : PySem.W.Frag) (tg : Tg) : TG := fun v σ H Q => ∃ ι env d env1, Eat K ι H env σ ∧ RepT K tg ι H d v ∧ bindT tg d env = some env1 ∧
  ∀ σ1, Eat K ι H env1 σ1 → (∀ own, (∀ i ∈ tgIx tg, i ∈ own) → wipe σ1 own = wipe σ own) → Q σ1 H
section
variable {X : Cx} {K : PySem.W.Frag} {pos : Pos}
theorem PG.imp {e : Expr} {t t' : TG} (h : PG X e t) (w : ∀ v σ H Q, t' v σ H Q → t v σ H Q) : PG X e t' := ⟨fun pins s σ H v u Q I r q => h.run pins s σ H v u Q I r (w v σ H Q q)⟩
theorem g_one {i : Nat} {x : Str} (hN : X.N.Nodup) (hi : X.N[i]? = some x) (hx : Loc X.env.scope x) (hf : X.fn x = true ∨ X.env.scope.names.lookup x = some .local) : PG X (.Name x pos) (sG X.K (.one i)) := by
  refine PG.imp (pg_name hN hi hx hf) ?_
  rintro v σ H Q ⟨ι, env, d, env1, e, r, h, q⟩
  simp only [bindT, Option.some.injEq] at h
  subst h
  refine q _ (e.set r i) fun own ho => wipe_set (ho i (by simp [tgIx]))
/-- names of a tuple -/
def gSet (is : List Nat) : TGs := fun vs σ H Q => is.length = vs.length ∧ Q (setS is vs σ) H
structure NameOk (X : Cx) (i : Nat) (x : Str) : Prop where
  hi : X.N[i]? = some x
  hx : Loc X.env.scope x
  hf : X.fn x = true ∨ X.env.scope.names.lookup x = some .local
theorem gs_all (hN : X.N.Nodup) : ∀ {is : List Nat} {xs : List (Str × Pos)}, Paired (fun i (x : Str × Pos) => NameOk X i x.1) is xs → PGs X (xs.map fun x => .Name x.1 x.2) (gSet is)
  | _, _, .nil => ⟨fun pins s σ H vs us Q I r h => by
      obtain ⟨h1, h2⟩ := h
      cases vs with
      | nil => exact (pgs_nil (X := X)).run pins s σ H [] us Q I r ⟨rfl, h2⟩
      | cons v vs => simp at h1⟩
  | _, _, .cons (a := i) (b := x) (l₁ := is) (l₂ := xs) ok t => by
    have ih := gs_all hN t
    have h1 : PG X (.Name x.1 x.2) (gName i) := pg_name hN ok.hi ok.hx ok.hf
    have h2 := pgs_cons h1 ih
    refine ⟨fun pins s σ H vs us Q I r h => ?_⟩
    obtain ⟨g1, g2⟩ := h
    cases vs with
    | nil => simp at g1
    | cons v vs => exact h2.run pins s σ H (v :: vs) us Q I r ⟨v, vs, rfl, by simpa using g1, g2⟩
theorem g_many (hc : X.calm = true) (hN : X.N.Nodup) {is : List Nat} {xs : List (Str × Pos)} {k : Nat} (h : Paired (fun i (x : Str × Pos) => NameOk X i x.1) is xs) : PG X (.Tuple (xs.map fun x => .Name x.1 x.2) k pos) (sG X.K (.many is)) := by
  have hlen : ∀ l : List (Str × Pos), (assignEach (l.map fun x => Expr.Name x.1 x.2) X.env).length = l.length := by
    intro l; induction l with
    | nil => rfl
    | cons a r ih => simp [assignEach, ih]
  have hst : ∀ l : List (Str × Pos), (assignEach (l.map fun x => Expr.Name x.1 x.2) X.env).findIdx? (·.1) = none := by
    intro l; induction l with
    | nil => rfl
    | cons a r ih => simp [assignEach, List.findIdx?_cons, ih]
  refine PG.imp (pg_tup (n := xs.length) hc (gs_all hN h) (hlen xs) (hst xs)) ?_
  rintro v σ H Q ⟨ι, env, d, env1, e, r, hb, q⟩
  cases d with
  | tup l =>
    simp only [bindT] at hb
    obtain ⟨a, vs, rfl, g, ru⟩ := r
    obtain ⟨h1, h2⟩ := setAll_at e ru hb
    have h3 := h.length
    exact ⟨a, vs, rfl, g, by omega, h1, q _ h2 fun own ho => wipe_setS ho⟩
  | _ => simp [bindT] at hb
end
end Tt
end

section
/-! Sources, loops, comprehensions. -/
namespace Tt
open PySem PySem.Spec PyProof.Rows L2

/-! ### sources -/
/-- an iterator gives what the source tells -/
def Serves (K : PySem.W.Frag) (tg : Tg) (J : It) (src : Src) (ι : Ad) (H : Hp) : Prop :=
  ∀ ι' H' S', ExtW K ι H ι' H' → Sat K ι' H' S' → ∀ l, src.rd S' = some l → l.length = src.n →
    (∀ (i : Nat) x, l[i]? = some x → J.go i H' ∧ ∀ v H2, J.yld i H' v H2 → ∃ ι2, Ext K ι' H' ι2 H2 ∧ Sat K ι2 H2 S' ∧ RepT K tg ι2 H2 x v) ∧ J.stop l.length H'
def sI (K : PySem.W.Frag) (tg : Tg) (m : En → Sto → Option (Src × Sto)) : TI := fun σ H R => ∃ ι env S src S', Sat K ι H S ∧ Eat K ι H env σ ∧ m env S = some (src, S') ∧
  ∀ ι' H' J, Ext K ι H ι' H' → Sat K ι' H' S' → Serves K tg J src ι' H' → R J H'
section
variable {X : Cx} {K : PySem.W.Frag} {e a b : Expr} {tgx : Expr} {pos : Pos} {m ma mb : En → Sto → Option (D × Sto)}
theorem PI.imp {it : Expr} {t t' : TI} (h : PI X tgx it t) (w : ∀ σ H R, t' σ H R → t σ H R) : PI X tgx it t' := ⟨fun pins s σ H R I q => h.run pins s σ H R I (w σ H R q)⟩
/-- a list or a tuple -/
def iSeq (K : PySem.W.Frag) (tl : TE) : TI := fun σ H R => tl σ H fun x H1 => (∃ a, x = .ref a ∧ (((∃ xs, SqL K H1 a xs) ∧ R (Itl K a) H1) ∨ ((∃ xs, SqT K H1 a xs) ∧ R (Itt K a) H1))) ∨ ∃ z, x = .str z ∧ R (Its z) H1
theorem pi_seq {tl : TE} (hl : PE X e tl) : PI X tgx e (iSeq X.K tl) := by
  refine ⟨fun pins s σ H R I h => ?_⟩
  refine thn (hl.run pins s σ H _ I h) fun v s1 ⟨x, H1, I1, r1, q1⟩ => ?_
  rcases q1 with ⟨a, e, q⟩ | ⟨z, e, q⟩
  case inr =>
    subst e
    obtain ⟨t, rfl⟩ := r1
    cases ha : z.cps.all (· < 128)
    · exact wpAny_pyIter_wide ha (pi_one (tk := s1.toks) I1 _ (turn_str _ z t "str_iterator" (.inr rfl)) ⟨_, Heap.get?_push_size _ rfl, rfl, rfl⟩ q)
    · exact wpAny_pyIter_ascii ha (pi_one (tk := s1.toks) I1 _ (turn_str _ z t "str_ascii_iterator" (.inl rfl)) ⟨_, Heap.get?_push_size _ rfl, rfl, rfl⟩ q)
  subst e
  cases r1
  rcases q with ⟨⟨xs, hq⟩, q⟩ | ⟨⟨xs, hq⟩, q⟩
  · obtain ⟨its, rv, p, hz⟩ := I1.list hq
    refine wpAny_pyIter_list p.isList ?_
    refine ⟨s1.heap.objs.size, [s1.heap.objs.size], _, _, H1, rfl, I1.kept (t' := s1.toks) fun b o e => Heap.get?_push_of_some _ e, turn_list a _, ⟨_, Heap.get?_push_size _ rfl, rfl, rfl⟩, fun b hb => ?_, q⟩
    have e : b = s1.heap.objs.size := by simpa using hb
    subst e
    exact I1.fpOk (Nat.le_refl _) (I1.hok.fresh (Nat.le_refl _))
  · obtain ⟨its, rv, p, hz⟩ := I1.tuple hq
    refine wpAny_pyIter_tuple (show s1.heap.IsTuple a its.toArray from p) ?_
    refine ⟨s1.heap.objs.size, [s1.heap.objs.size], _, _, H1, rfl, I1.kept (t' := s1.toks) fun b o e => Heap.get?_push_of_some _ e, turn_tuple a _, ⟨_, Heap.get?_push_size _ rfl, rfl, rfl⟩, fun b hb => ?_, q⟩
    have e : b = s1.heap.objs.size := by simpa using hb
    subst e
    exact I1.fpOk (Nat.le_refl _) (I1.hok.fresh (Nat.le_refl _))
theorem seq_inj {K : PySem.W.Frag} {H : Hp} {a : Addr} {vs : List V} (h : H a = some (.lst vs)) : SqL K H a vs := SqL.of h
theorem i_seq {tg : Tg} (he : PE X e (sE X.K m)) : PI X tgx e (sI X.K tg fun env S => (m env S).bind fun p => (srcOf p.2 p.1).map fun s => (s, p.2)) := by
  refine PI.imp (pi_seq he) ?_
  rintro σ H R ⟨ι, env, S, src, S', s, en, h, q⟩
  simp only [Option.bind_eq_some_iff, Option.map_eq_some_iff] at h
  obtain ⟨⟨d, S1⟩, h1, src', h2, h3⟩ := h
  cases h3
  refine sE_mk s en h1 fun ι1 H1 v x1 s1 r1 => ?_
  by_cases hstr : ∃ z, d = .str z
  · obtain ⟨z, rfl⟩ := hstr
    simp only [srcOf, Option.some.injEq] at h2
    subst h2
    refine .inr ⟨z, rep_str.mp r1, q ι1 H1 _ x1 s1 fun ι2 H2 S2 x2 s2 l2 h4 h5 => ?_⟩
    have h4 : some (chars z) = some l2 := h4
    cases h4
    refine ⟨fun i y hy => ?_, by show z.cps.size ≤ _; simp [chars]⟩
    simp only [chars, List.getElem?_map, Option.map_eq_some_iff] at hy
    obtain ⟨c, hc, rfl⟩ := hy
    have hc' : z.cps[i]? = some c := by simpa using hc
    refine ⟨(Array.getElem?_eq_some_iff.mp hc').1, fun v H3 hv => ?_⟩
    obtain ⟨e3, c', hc2, e4⟩ := hv
    subst e3 e4
    rw [hc'] at hc2; cases hc2
    exact ⟨ι2, .refl, s2, (rep_str.mpr rfl : Rep X.K ι2 H3 (.str ⟨#[c]⟩) _).tg⟩
  refine .inl ?_
  have h6 : (items S1 d).map (fun l => (⟨fun S' => items S' d, l.length⟩ : Src)) = some src := by
    cases d <;> first | exact h2 | exact absurd ⟨_, rfl⟩ hstr
  clear h2
  rw [Option.map_eq_some_iff] at h6
  obtain ⟨l, h2, h3⟩ := h6
  subst h3
  have lists : (∃ a vs, v = .ref a ∧ H1 a = some (.lst vs) ∧ Reps X.K ι1 H1 l vs) → (∀ S', items S' d = litems S' d) → ∃ a, v = .ref a ∧ (((∃ xs, SqL X.K H1 a xs) ∧ R (Itl X.K a) H1) ∨ ((∃ xs, SqT X.K H1 a xs) ∧ R (Itt X.K a) H1)) := by
    rintro ⟨a, vs, rfl, g, _⟩ hd
    refine ⟨a, rfl, .inl ⟨⟨vs, SqL.of g⟩, q ι1 H1 _ x1 s1 fun ι2 H2 S2 x2 s2 l2 h4 h5 => ?_⟩⟩
    have h4 : items S2 d = some l2 := h4
    rw [hd] at h4
    obtain ⟨a2, ws, e2, g2, ru⟩ := litems_at s2 (r1.extW x2) h4
    cases e2
    refine ⟨fun i y hy => ?_, ⟨ws, SqL.of g2, by rw [ru.length]; exact Nat.le_refl _⟩⟩
    obtain ⟨w, hw, rw'⟩ := ru.get hy
    refine ⟨⟨ws, w, SqL.of g2, hw⟩, fun v H3 hy3 => ?_⟩
    obtain ⟨e3, hv⟩ := hy3
    subst e3
    have := hv ws (SqL.of g2)
    rw [hw] at this; cases this
    exact ⟨ι2, .refl, s2, rw'.tg⟩
  cases d with
  | tup t =>
    simp only [items, Option.some.injEq] at h2
    subst h2
    obtain ⟨a, vs, rfl, g, _⟩ := rep_tup.mp r1
    refine ⟨a, rfl, .inr ⟨⟨vs, g.t⟩, q ι1 H1 _ x1 s1 fun ι2 H2 S2 x2 s2 l2 h4 h5 => ?_⟩⟩
    have h4 : some t = some l2 := h4
    cases h4
    obtain ⟨a2, ws, e2, g2, ru⟩ := rep_tup.mp (r1.extW x2)
    cases e2
    refine ⟨fun i y hy => ?_, ⟨ws, g2.t, by rw [ru.length]; exact Nat.le_refl _⟩⟩
    obtain ⟨w, hw, rw'⟩ := ru.get hy
    refine ⟨⟨ws, w, g2.t, hw⟩, fun v H3 hy3 => ?_⟩
    obtain ⟨e3, hv⟩ := hy3
    subst e3
    have := hv ws g2.t
    rw [hw] at this; cases this
    exact ⟨ι2, .refl, s2, rw'.tg⟩
  | fzl t =>
    simp only [items, Option.some.injEq] at h2
    subst h2
    obtain ⟨a, vs, rfl, g, _⟩ := rep_fzl.mp r1
    refine ⟨a, rfl, .inl ⟨⟨vs, g.l⟩, q ι1 H1 _ x1 s1 fun ι2 H2 S2 x2 s2 l2 h4 h5 => ?_⟩⟩
    have h4 : some t = some l2 := h4
    cases h4
    obtain ⟨a2, ws, e2, g2, ru⟩ := rep_fzl.mp (r1.extW x2)
    cases e2
    refine ⟨fun i y hy => ?_, ⟨ws, g2.l, by rw [ru.length]; exact Nat.le_refl _⟩⟩
    obtain ⟨w, hw, rw'⟩ := ru.get hy
    refine ⟨⟨ws, w, g2.l, hw⟩, fun v H3 hy3 => ?_⟩
    obtain ⟨e3, hv⟩ := hy3
    subst e3
    have := hv ws g2.l
    rw [hw] at this; cases this
    exact ⟨ι2, .refl, s2, rw'.tg⟩
  | lst t => exact lists (litems_at s1 r1 h2) fun _ => rfl
  | ref n => exact lists (litems_at s1 r1 h2) fun _ => rfl
  | _ => simp [items] at h2
theorem serves_rng {tg : Tg} {lo : Int} {n : Nat} {ι : Ad} {H : Hp} : Serves K tg (Itr lo n) ⟨fun _ => some (rngL lo n), n⟩ ι H := by
  intro ι2 H2 S2 x2 s2 l h1 h2
  have h1 : some (rngL lo n) = some l := h1
  cases h1
  have hl : (rngL lo n).length = n := by simp [rngL]
  refine ⟨fun i y hy => ?_, by show n ≤ (rngL lo n).length; omega⟩
  have hi : i < n := by rw [← hl]; exact (List.getElem?_eq_some_iff.mp hy).1
  refine ⟨hi, fun v H3 hv => ?_⟩
  obtain ⟨e1, e2⟩ := hv
  subst e1 e2
  refine ⟨ι2, .refl, s2, Rep.tg ?_⟩
  simp only [rngL, List.getElem?_map, List.getElem?_range hi, Option.map_some, Option.some.injEq] at hy
  subst hy
  exact rep_int.mpr rfl
theorem i_rng {tg : Tg} {p : Pos} (hg : Gl X "range") (hm : X.mg "range" = none) (hns : ns a = true) (ha : PE X a (sE X.K ma)) :
    PI X tgx (.Call (.Name "range" p) [a] [] pos) (sI X.K tg fun env S => (ma env S).bind fun p => match p.1 with
      | .int j => if -(2 ^ 62) ≤ j ∧ j < 2 ^ 62 then some (⟨fun _ => some (rngL 0 j.toNat), j.toNat⟩, p.2) else none
      | _ => none) := by
  refine PI.imp (pi_range1 hg hm (pa_cons ha pa_nil (ns_cons hns _ _)) (ns_cons hns _ _)) ?_
  rintro σ H R ⟨ι, env, S, src, S', s, en, h, q⟩
  rw [Option.bind_eq_some_iff] at h
  obtain ⟨⟨d, S1⟩, h1, h2⟩ := h
  cases d <;> first
    | (simp at h2; done)
    | skip
  rename_i j
  dsimp only at h2
  split at h2
  · rename_i hj
    cases h2
    refine sE_mk s en h1 fun ι1 H1 v x1 s1 r1 => ?_
    rw [rep_int] at r1; subst r1
    exact ⟨j, rfl, hj.1, hj.2, q ι1 H1 _ x1 s1 serves_rng⟩
  · cases h2
theorem i_rng2 {tg : Tg} {p : Pos} (hg : Gl X "range") (hm : X.mg "range" = none) (hns : ns a = true) (hns2 : ns b = true) (ha : PE X a (sE X.K ma)) (hb : PE X b (sE X.K mb)) :
    PI X tgx (.Call (.Name "range" p) [a, b] [] pos) (sI X.K tg fun env S => (ma env S).bind fun p => (mb env p.2).bind fun q => match p.1, q.1 with
      | .int i, .int j => if -(2 ^ 62) ≤ i ∧ i < 2 ^ 62 ∧ -(2 ^ 62) ≤ j ∧ j < 2 ^ 62 then some (⟨fun _ => some (rngL i (j - i).toNat), (j - i).toNat⟩, q.2) else none
      | _, _ => none) := by
  refine PI.imp (pi_range2 hg hm (pa_cons ha (pa_cons hb pa_nil (ns_cons hns2 _ _)) (ns_cons hns _ _)) (by rw [ns_cons hns, ns_cons hns2]; rfl) (ns_cons hns2 _ _)) ?_
  rintro σ H R ⟨ι, env, S, src, S', s, en, h, q⟩
  simp only [Option.bind_eq_some_iff] at h
  obtain ⟨⟨d, S1⟩, h1, ⟨d2, S2⟩, h2, h3⟩ := h
  cases d <;> first
    | (simp at h3; done)
    | skip
  cases d2 <;> first
    | (simp at h3; done)
    | skip
  rename_i i j
  dsimp only at h3
  split at h3
  · rename_i hj
    cases h3
    refine sE_mk s en h1 fun ι1 H1 v x1 s1 r1 => ?_
    rw [rep_int] at r1; subst r1
    refine sE_mk s1 (en.ext x1) h2 fun ι2 H2 v x2 s2 r2 => ?_
    rw [rep_int] at r2; subst r2
    exact ⟨i, j, rfl, hj, q ι2 H2 _ (x1.trans x2) s2 serves_rng⟩
  · cases h3
end

/-! ### comprehensions -/

theorem wipe_get {σ : L2.St} {own : List Nat} {i : Nat} (h : i ∈ own) : (wipe σ own).set i none = wipe σ own := by
  induction own with
  | nil => cases h
  | cons a r ih =>
    show ((wipe σ r).set a none).set i none = (wipe σ r).set a none
    by_cases e : a = i
    · subst e; rw [List.set_set]
    · rw [List.set_comm _ _ e, ih ((List.mem_cons.mp h).resolve_left fun z => e z.symm)]
theorem wipe_wipe {σ : L2.St} {own : List Nat} : ∀ l : List Nat, (∀ i ∈ l, i ∈ own) → wipe (wipe σ own) l = wipe σ own
  | [], _ => rfl
  | a :: r, h => by
    show (wipe (wipe σ own) r).set a none = _
    rw [wipe_wipe r fun i hi => h i (List.mem_cons_of_mem _ hi), wipe_get (h a List.mem_cons_self)]
theorem Sat.lstAt {K : PySem.W.Frag} {ι : Ad} {H : Hp} {S : Sto} (s : Sat K ι H S) {p : Addr} (hp : H p = none) : p ∉ ι.h := fun z => s.there p (.inr z) hp
section
variable {K : PySem.W.Frag} {tg : Tg} {own : List Nat} {mi : En → Sto → Option (Src × Sto)} {mt : En → Sto → Option (Bool × Sto)} {me mk mv : En → Sto → Option (D × Sto)} {fz : Bool} {σ : L2.St} {H : Hp} {Q : VK}
theorem lc_use (hown : ∀ i ∈ tgIx tg, i ∈ own)
    (h : sE K (fun env S => (mi env S).bind fun s => (loopC s.1 tg (wipeD env own) (fun env1 S1 => (mt env1 S1).bind fun c => if c.1 = true then (me env1 c.2).map fun r => (some r.1, r.2) else some (none, c.2)) s.1.n 0 [] s.2).bind fun r => mkL fz r.1 r.2) σ H Q) :
    tLc (sI K tg mi) (sG K tg) (sT K mt) (sE K me) own σ H Q := by
  obtain ⟨ι, env, S, d, S', s, e, h, q⟩ := h
  simp only [Option.bind_eq_some_iff] at h
  obtain ⟨⟨src, S1⟩, h1, ⟨ds, S2⟩, h2, h3⟩ := h
  dsimp only at h2 h3
  refine ⟨ι, env, S, src, S1, s, e, h1, fun ι1 H1 J x1 s1 sv P hP => ?_⟩
  have e1 := e.ext x1
  have hPh : P ∉ ι1.h := s1.lstAt hP
  generalize hb : (fun (env1 : En) (S1 : Sto) => (mt env1 S1).bind fun c => if c.1 = true then (me env1 c.2).map fun r => (some r.1, r.2) else some (none, c.2)) = body at h2
  refine ⟨fun i m H => ∃ ι2 S3 acc vs, Ext K ι1 H1 ι2 H ∧ Sat K (ι2.hide P) H S3 ∧ H P = some (.lst vs) ∧ Reps K (ι2.hide P) H acc vs ∧ loopC src tg (wipeD env own) body m i acc S3 = some (ds, S2) ∧ i + m = src.n, ?_, ?_⟩
  · exact ⟨src.n, ι1, S1, [], [], Ext.new hP, s1.hide hP, upd_same, .nil, h2, by omega⟩
  · rintro i m H5 ⟨ι2, S3, acc, vs, x2, s2, hP5, ra, hl, hn⟩
    have xw : ExtW K ι1 H1 (ι2.hide P) H5 := ExtW.hide x2 hP
    have hPr : P ∉ ι2.r := s2.apart P List.mem_cons_self
    have hP2 : P ∉ ι2.h := by rw [x2.hid]; exact hPh
    cases m with
    | zero =>
      refine .inl ?_
      simp only [loopC, Option.bind_eq_some_iff] at hl
      obtain ⟨l, hl1, hl2⟩ := hl
      split at hl2
      · rename_i hln
        cases hl2
        have hi : i = l.length := by omega
        refine ⟨by rw [hi]; exact (sv _ _ _ xw s2 l hl1 hln).2, ?_⟩
        have hsz : vs.length ≤ sizeLine := by
          unfold mkL at h3
          split at h3
          · rw [ra.length]; assumption
          · cases h3
        unfold mkL at h3
        split at h3
        · split at h3
          · cases h3
            refine q ι2 H5 _ (x1.trans x2) s2.show (rep_lst.mpr ⟨P, vs, rfl, hP5, ⟨hPr, hP2⟩, ra.shown (fun _ _ h => h) fun a h1 h2 => ⟨h1, fun z => h2 (List.mem_cons_of_mem _ z)⟩⟩)
          · cases h3
            obtain ⟨p1, p2⟩ := push_shown (ι := ι2) hP2
            exact q (ι2.push P) H5 _ (x1.trans (x2.pushed hP)) (s2.pushed hP2 ⟨vs, hP5, ra.shown p1 p2⟩) (rep_ref.mpr ⟨P, rfl, s2.show.last P⟩)
        · cases h3
      · cases hl2
    | succ m =>
      refine .inr ?_
      simp only [loopC, Option.bind_eq_some_iff] at hl
      obtain ⟨l, hl1, hl2⟩ := hl
      split at hl2
      · rename_i hln
        simp only [Option.bind_eq_some_iff] at hl2
        obtain ⟨x, hx, env1, hbt, r, hr, hl3⟩ := hl2
        obtain ⟨go, yl⟩ := (sv _ _ _ xw s2 l hl1 hln).1 i x hx
        refine ⟨go, _, fun H' nx => ⟨m, Nat.lt_succ_self m, nx⟩, fun v H6 hy => ?_⟩
        obtain ⟨ι3, x3, s3, r3⟩ := yl v H6 hy
        have hP6 : H6 P = some (.lst vs) := x3.lst P vs hPr hP5
        have ra6 := ra.ext x3
        refine ⟨ι3, wipeD env own, x, env1, ((e1.extW xw).wipe own).ext x3, r3, hbt, fun σ1 e6 hw => ⟨(hw own hown).trans (wipe_wipe own fun _ h => h), ?_⟩⟩
        subst hb
        simp only [Option.bind_eq_some_iff] at hr
        obtain ⟨⟨b, S4⟩, hr1, hr2⟩ := hr
        refine ⟨ι3, env1, S3, b, S4, s3, e6, hr1, fun ι4 H7 x4 s4 => ?_⟩
        have x34 := x3.trans x4
        cases b with
        | false =>
          simp only [Bool.false_eq_true, if_false, Option.some.injEq] at hr2
          subst hr2
          refine iteF ?_
          obtain ⟨κ, rfl⟩ := x34.hidden
          exact ⟨κ, S4, acc, vs, x2.trans x34.unhide, s4, x34.lst P vs hPr hP5, ra.ext x34, hl3, by omega⟩
        | true =>
          simp only [if_true, Option.map_eq_some_iff] at hr2
          obtain ⟨⟨y, S5⟩, hr3, hr4⟩ := hr2
          subst hr4
          refine iteT ?_
          refine ⟨ι4, env1, S4, y, S5, s4, e6.ext x4, hr3, fun ι5 H8 w x5 s5 r5 => ?_⟩
          have x35 := x34.trans x5
          obtain ⟨κ, rfl⟩ := x35.hidden
          have hP8 := x35.lst P vs hPr hP5
          have hnf : ∀ ob u, H8 P ≠ some (.frz ob u) := fun ob u z => by rw [hP8] at z; cases z
          dsimp only at hl3
          split at hl3
          · rename_i hz
            refine ⟨vs, hP8, by rw [ra.length]; exact hz, ?_⟩
            exact ⟨κ, S5, acc ++ [y], vs ++ [w], (x2.trans x35.unhide).side hP, s5.side hnf, upd_same, (Reps.append (ra.ext x35) (.cons r5 .nil)).side hnf, hl3, by omega⟩
          · cases hl3
      · cases hl2
theorem dc_use (hown : ∀ i ∈ tgIx tg, i ∈ own)
    (h : sE K (fun env S => (mi env S).bind fun s => (loopD s.1 tg (wipeD env own) (fun env1 S1 => (mt env1 S1).bind fun c => if c.1 = true then (mk env1 c.2).bind fun rk => (mv env1 rk.2).map fun r => (some (rk.1, r.1), r.2) else some (none, c.2)) s.1.n 0 [] s.2).bind fun r =>
        some (.ref r.2.length, r.2 ++ [.dic r.1])) σ H Q) :
    tDc (sI K tg mi) (sG K tg) (sT K mt) (sE K mk) (sE K mv) own σ H Q := by
  obtain ⟨ι, env, S, d, S', s, e, h, q⟩ := h
  simp only [Option.bind_eq_some_iff] at h
  obtain ⟨⟨src, S1⟩, h1, ⟨ds, S2⟩, h2, h3⟩ := h
  dsimp only at h2 h3
  cases h3
  refine ⟨ι, env, S, src, S1, s, e, h1, fun ι1 H1 J x1 s1 sv P hP => ?_⟩
  have e1 := e.ext x1
  have hPh : P ∉ ι1.h := s1.lstAt hP
  generalize hb : (fun (env1 : En) (S1 : Sto) => (mt env1 S1).bind fun c => if c.1 = true then (mk env1 c.2).bind fun rk => (mv env1 rk.2).map fun r => (some (rk.1, r.1), r.2) else some (none, c.2)) = body at h2
  refine ⟨fun i m H => ∃ ι2 S3 acc vs, Ext K ι1 H1 ι2 H ∧ Sat K (ι2.hide P) H S3 ∧ H P = some (.dK vs) ∧ Krep K (ι2.hide P) H acc vs ∧ loopD src tg (wipeD env own) body m i acc S3 = some (ds, S2) ∧ i + m = src.n, ?_, ?_⟩
  · exact ⟨src.n, ι1, S1, [], [], Ext.new hP, s1.hide hP, upd_same, by simp [Krep], h2, by omega⟩
  · rintro i m H5 ⟨ι2, S3, acc, vs, x2, s2, hP5, ra, hl, hn⟩
    have xw : ExtW K ι1 H1 (ι2.hide P) H5 := ExtW.hide x2 hP
    have hPr : P ∉ ι2.r := s2.apart P List.mem_cons_self
    have hP2 : P ∉ ι2.h := by rw [x2.hid]; exact hPh
    cases m with
    | zero =>
      refine .inl ?_
      simp only [loopD, Option.bind_eq_some_iff] at hl
      obtain ⟨l, hl1, hl2⟩ := hl
      split at hl2
      · rename_i hln
        cases hl2
        have hi : i = l.length := by omega
        refine ⟨by rw [hi]; exact (sv _ _ _ xw s2 l hl1 hln).2, ?_⟩
        obtain ⟨p1, p2⟩ := push_shown (ι := ι2) hP2
        exact q (ι2.push P) H5 _ (x1.trans (x2.pushed hP)) (s2.pushed hP2 ⟨vs, hP5, ra.shown p1 p2⟩) (rep_ref.mpr ⟨P, rfl, s2.show.last P⟩)
      · cases hl2
    | succ m =>
      refine .inr ?_
      simp only [loopD, Option.bind_eq_some_iff] at hl
      obtain ⟨l, hl1, hl2⟩ := hl
      split at hl2
      · rename_i hln
        simp only [Option.bind_eq_some_iff] at hl2
        obtain ⟨x, hx, env1, hbt, r, hr, hl3⟩ := hl2
        obtain ⟨go, yl⟩ := (sv _ _ _ xw s2 l hl1 hln).1 i x hx
        refine ⟨go, _, fun H' nx => ⟨m, Nat.lt_succ_self m, nx⟩, fun v H6 hy => ?_⟩
        obtain ⟨ι3, x3, s3, r3⟩ := yl v H6 hy
        refine ⟨ι3, wipeD env own, x, env1, ((e1.extW xw).wipe own).ext x3, r3, hbt, fun σ1 e6 hw => ⟨(hw own hown).trans (wipe_wipe own fun _ h => h), ?_⟩⟩
        subst hb
        simp only [Option.bind_eq_some_iff] at hr
        obtain ⟨⟨b, S4⟩, hr1, hr2⟩ := hr
        refine ⟨ι3, env1, S3, b, S4, s3, e6, hr1, fun ι4 H7 x4 s4 => ?_⟩
        have x34 := x3.trans x4
        cases b with
        | false =>
          simp only [Bool.false_eq_true, if_false, Option.some.injEq] at hr2
          subst hr2
          refine iteF ?_
          obtain ⟨κ, rfl⟩ := x34.hidden
          exact ⟨κ, S4, acc, vs, x2.trans x34.unhide, s4, x34.dk P vs hPr hP5, ra.ext x34, hl3, by omega⟩
        | true =>
          simp only [if_true, Option.bind_eq_some_iff, Option.map_eq_some_iff] at hr2
          obtain ⟨⟨yk, S5⟩, hr3, ⟨y, S6⟩, hr4, hr5⟩ := hr2
          subst hr5
          refine iteT ?_
          refine ⟨ι4, env1, S4, yk, S5, s4, e6.ext x4, hr3, fun ι5 H8 wk x5 s5 r5 => ?_⟩
          refine ⟨ι5, env1, S5, y, S6, s5, (e6.ext x4).ext x5, hr4, fun ι6 H9 w x6 s6 r6 => ?_⟩
          have x36 := (x34.trans x5).trans x6
          obtain ⟨κ, rfl⟩ := x36.hidden
          have hP8 := x36.dk P vs hPr hP5
          have hnf : ∀ ob u, H9 P ≠ some (.frz ob u) := fun ob u z => by rw [hP8] at z; cases z
          dsimp only at hl3
          simp only [Option.bind_eq_some_iff] at hl3
          obtain ⟨k, hk, hl3⟩ := hl3
          split at hl3
          · rename_i hz
            refine ⟨vs, k, kd_some hk wk r5, hP8, by rw [ra.length]; exact hz, ?_⟩
            exact ⟨κ, S6, putK acc k y, L2.putK vs k w, (x2.trans x36.unhide).side hP, s6.side hnf, upd_same, (krep_put k (ra.ext x36) r6).side hnf, hl3, by omega⟩
          · cases hl3
      · cases hl2
end
end Tt
end

section
/-! Statements. -/
namespace Tt
open PySem PySem.Spec PyProof.Rows L2

/-- what a statement's end asks -/
def EndOk (K : PySem.W.Frag) (ι : Ad) (H : Hp) (D : Ends) : Fl × En × Sto → Prop
  | (.nx, env, S) => ∀ ι' H' σ', Ext K ι H ι' H' → Sat K ι' H' S → Eat K ι' H' env σ' → D.nx σ' H'
  | (.rt d, _, S) => ∀ ι' H' v, Ext K ι H ι' H' → Sat K ι' H' S → Rep K ι' H' d v → D.rt v H'
  | (.bk, env, S) => ∀ ι' H' σ', Ext K ι H ι' H' → Sat K ι' H' S → Eat K ι' H' env σ' → D.bk σ' H'
  | (.ct, env, S) => ∀ ι' H' σ', Ext K ι H ι' H' → Sat K ι' H' S → Eat K ι' H' env σ' → D.ct σ' H'
theorem EndOk.ext {K : PySem.W.Frag} {ι ι1 : Ad} {H H1 : Hp} {D : Ends} {r : Fl × En × Sto} (h : EndOk K ι H D r) (x : Ext K ι H ι1 H1) : EndOk K ι1 H1 D r := by
  obtain ⟨f, env, S⟩ := r
  cases f with
  | nx => exact fun ι' H' σ' x' s e => h ι' H' σ' (x.trans x') s e
  | rt d => exact fun ι' H' v x' s e => h ι' H' v (x.trans x') s e
  | bk => exact fun ι' H' σ' x' s e => h ι' H' σ' (x.trans x') s e
  | ct => exact fun ι' H' σ' x' s e => h ι' H' σ' (x.trans x') s e
def sS (K : PySem.W.Frag) (m : En → Sto → Option (Fl × En × Sto)) : TS := fun D σ H => ∃ ι env S r, Sat K ι H S ∧ Eat K ι H env σ ∧ m env S = some r ∧ EndOk K ι H D r
theorem sS_mk {K : PySem.W.Frag} {m : En → Sto → Option (Fl × En × Sto)} {D : Ends} {σ : L2.St} {H : Hp} {ι : Ad} {env : En} {S : Sto} {r : Fl × En × Sto} (s : Sat K ι H S) (e : Eat K ι H env σ) (h : m env S = some r) (q : EndOk K ι H D r) : sS K m D σ H :=
  ⟨ι, env, S, r, s, e, h, q⟩
/-- no comprehension -/
def nc : Expr → Bool
  | .ListComp .. => false | .SetComp .. => false | .DictComp .. => false
  | _ => true
theorem sw_false {e : Expr} (h : nc e = true) (t : Option Expr) (l : Nat) (env : Env) : swapsWith e t l env = pure false := by
  cases e <;> first | rfl | (simp [nc] at h)
def nset : Expr → Bool
  | .Set .. => false
  | _ => true
theorem fsi {e : Expr} (h : nset e = true) (env : Env) (x : Value) : foldedSetIterable e env x = pure x := by
  cases e <;> first | rfl | (simp [nset] at h)

section
variable {X : Cx} {K : PySem.W.Frag} {e a b c : Expr} {st : Stmt} {rest : List Stmt} {pos p2 : Pos} {m ma mb mc : En → Sto → Option (D × Sto)} {mt : En → Sto → Option (Bool × Sto)} {ms mr : En → Sto → Option (Fl × En × Sto)}
theorem s_nil : PSs X [] (sS X.K fun env S => some (.nx, env, S)) := by
  refine PSs.imp pss_nil ?_
  rintro D σ H ⟨ι, env, S, r, s, e, h, q⟩
  cases h
  exact q ι H σ .refl s e
theorem s_cons (h1 : PS X st (sS X.K ms)) (h2 : PSs X rest (sS X.K mr)) : PSs X (st :: rest) (sS X.K fun env S => (ms env S).bind fun r => match r with
    | (.nx, e2, S2) => mr e2 S2
    | r => some r) := by
  refine PSs.imp (pss_cons h1 h2) ?_
  rintro D σ H ⟨ι, env, S, r, s, e, h, q⟩
  rw [Option.bind_eq_some_iff] at h
  obtain ⟨⟨f, env1, S1⟩, g1, g2⟩ := h
  refine sS_mk s e g1 ?_
  cases f with
  | nx => exact fun ι' H' σ' x' s' e' => sS_mk s' e' g2 (q.ext x')
  | rt d => cases g2; exact q
  | bk => cases g2; exact q
  | ct => cases g2; exact q
theorem s_set {i : Nat} {x : Str} (hN : X.N.Nodup) (ok : NameOk X i x) (hc : nc e = true) (he : PE X e (sE X.K m)) : PS X (.Assign [.Name x p2] e pos) (sS X.K fun env S => (m env S).map fun p => (.nx, env.set i (some p.1), p.2)) := by
  refine PS.imp (ps_set hN ok.hi ok.hx he (sw_false hc _ _ _) ok.hf) ?_
  rintro D σ H ⟨ι, env, S, r, s, e, h, q⟩
  rw [Option.map_eq_some_iff] at h
  obtain ⟨⟨d, S1⟩, g1, g2⟩ := h
  subst g2
  exact sE_mk s e g1 fun ι1 H1 v x1 s1 r1 => q ι1 H1 _ x1 s1 ((e.ext x1).set r1 i)
theorem s_unpack {tg : Expr} {is : List Nat} (hg : PG X tg (sG X.K (.many is))) (hc : nc e = true) (hsw : swappedStores [tg] e X.env = pure none) (h1 : (assignEach [tg] X.env).map (·.2) = [assign tg X.env]) (he : PE X e (sE X.K m)) :
    PS X (.Assign [tg] e pos) (sS X.K fun env S => (m env S).bind fun p => match p.1 with
      | .tup ds => (setAll is ds env).map fun env1 => (.nx, env1, p.2)
      | _ => none) := by
  refine PS.imp (ps_asg he hg (sw_false hc _ _ _) hsw h1) ?_
  rintro D σ H ⟨ι, env, S, r, s, e, h, q⟩
  rw [Option.bind_eq_some_iff] at h
  obtain ⟨⟨d, S1⟩, g1, g2⟩ := h
  cases d <;> first
    | (simp at g2; done)
    | skip
  rename_i ds
  simp only [Option.map_eq_some_iff] at g2
  obtain ⟨env1, g2, g3⟩ := g2
  subst g3
  refine sE_mk s e g1 fun ι1 H1 v x1 s1 r1 => ?_
  exact ⟨ι1, env, .tup ds, env1, e.ext x1, r1.w, g2, fun σ1 e1 _ => q ι1 H1 σ1 x1 s1 e1⟩
theorem s_expr (hc : nc e = true) (he : PE X e (sE X.K m)) : PS X (.Expr e pos) (sS X.K fun env S => (m env S).map fun p => (.nx, env, p.2)) := by
  refine PS.imp (ps_expr he (sw_false hc _ _ _)) ?_
  rintro D σ H ⟨ι, env, S, r, s, e, h, q⟩
  rw [Option.map_eq_some_iff] at h
  obtain ⟨⟨d, S1⟩, g1, g2⟩ := h
  subst g2
  exact sE_mk s e g1 fun ι1 H1 v x1 s1 r1 => q ι1 H1 _ x1 s1 (e.ext x1)
theorem s_ret (he : PE X e (sE X.K m)) : PS X (.Return (some e) pos) (sS X.K fun env S => (m env S).map fun p => (.rt p.1, env, p.2)) := by
  refine PS.imp (ps_ret he) ?_
  rintro D σ H ⟨ι, env, S, r, s, e, h, q⟩
  rw [Option.map_eq_some_iff] at h
  obtain ⟨⟨d, S1⟩, g1, g2⟩ := h
  subst g2
  exact sE_mk s e g1 fun ι1 H1 v x1 s1 r1 => q ι1 H1 _ x1 s1 r1
theorem s_retN : PS X (.Return none pos) (sS X.K fun env S => some (.rt .non, env, S)) := by
  refine PS.imp ps_retN ?_
  rintro D σ H ⟨ι, env, S, r, s, e, h, q⟩
  cases h
  exact q ι H _ .refl s (rep_non.mpr rfl)
theorem s_pass : PS X (.Pass pos) (sS X.K fun env S => some (.nx, env, S)) := by
  refine PS.imp ps_pass ?_
  rintro D σ H ⟨ι, env, S, r, s, e, h, q⟩
  cases h
  exact q ι H _ .refl s e
theorem s_doc {x j} : PS X (.Expr (.Constant (.str x) j p2) pos) (sS X.K fun env S => some (.nx, env, S)) := by
  refine PS.imp ps_doc ?_
  rintro D σ H ⟨ι, env, S, r, s, e, h, q⟩
  cases h
  exact q ι H _ .refl s e
theorem s_brk : PS X (.Break pos) (sS X.K fun env S => some (.bk, env, S)) := by
  refine PS.imp ps_break ?_
  rintro D σ H ⟨ι, env, S, r, s, e, h, q⟩
  cases h
  exact q ι H _ .refl s e
theorem s_cont : PS X (.Continue pos) (sS X.K fun env S => some (.ct, env, S)) := by
  refine PS.imp ps_continue ?_
  rintro D σ H ⟨ι, env, S, r, s, e, h, q⟩
  cases h
  exact q ι H _ .refl s e
theorem s_never : PS X st (sS X.K fun _ _ => none) := by
  refine PS.imp ps_never ?_
  rintro D σ H ⟨ι, env, S, r, s, e, h, q⟩
  cases h
theorem s_if {as bs : List Stmt} (hc : PT X c (sT X.K mt)) (ha : PSs X as (sS X.K ms)) (hb : PSs X bs (sS X.K mr)) : PS X (.If c as bs pos) (sS X.K fun env S => (mt env S).bind fun p => if p.1 = true then ms env p.2 else mr env p.2) := by
  refine PS.imp (ps_if hc ha hb) ?_
  rintro D σ H ⟨ι, env, S, r, s, e, h, q⟩
  rw [Option.bind_eq_some_iff] at h
  obtain ⟨⟨k, S1⟩, g1, g2⟩ := h
  refine sT_mk s e g1 fun ι1 H1 x1 s1 => ?_
  cases k with
  | true => exact iteT (sS_mk s1 (e.ext x1) g2 (q.ext x1))
  | false => exact iteF (sS_mk s1 (e.ext x1) g2 (q.ext x1))
theorem s_while {body : List Stmt} {n : Nat} (hp : PassesOwn (model X.prog X.w) X.A X.env X.xe) (hc : PT X c (sT X.K mt)) (hb : PSs X body (sS X.K ms)) : PS X (.While c body [] pos) (sS X.K fun env S => whL mt ms n env S) := by
  refine PS.imp (ps_while hp hc hb) ?_
  rintro D σ H ⟨ι, env, S, r, s, e, h, q⟩
  refine ⟨fun m σ H => ∃ ι1 env S, Sat X.K ι1 H S ∧ Eat X.K ι1 H env σ ∧ whL mt ms m env S = some r ∧ EndOk X.K ι1 H D r, ⟨n, ι, env, S, s, e, h, q⟩, ?_⟩
  rintro m σ1 H1 ⟨ι1, env1, S1, s1, e1, h1, q1⟩
  cases m with
  | zero => cases h1
  | succ m =>
    simp only [whL, Option.bind_eq_some_iff] at h1
    obtain ⟨⟨k, S2⟩, g1, g2⟩ := h1
    refine sT_mk s1 e1 g1 fun ι2 H2 x2 s2 => ?_
    cases k with
    | false =>
      refine iteF ?_
      simp only [Bool.false_eq_true, if_false, Option.some.injEq] at g2
      subst g2
      exact q1 ι2 H2 σ1 x2 s2 (e1.ext x2)
    | true =>
      refine iteT ?_
      simp only [if_true, Option.bind_eq_some_iff] at g2
      obtain ⟨⟨f, env2, S3⟩, g3, g4⟩ := g2
      refine ⟨_, fun σ' H' n => ⟨m, Nat.lt_succ_self m, n⟩, sS_mk s2 (e1.ext x2) g3 ?_⟩
      cases f with
      | nx => exact fun ι' H' σ' x' s' e' => ⟨ι', env2, S3, s', e', g4, (q1.ext x2).ext x'⟩
      | ct => exact fun ι' H' σ' x' s' e' => ⟨ι', env2, S3, s', e', g4, (q1.ext x2).ext x'⟩
      | bk => cases g4; exact fun ι' H' σ' x' s' e' => q1 ι' H' σ' (x2.trans x') s' e'
      | rt d => cases g4; exact fun ι' H' v x' s' r' => q1 ι' H' v (x2.trans x') s' r'
theorem s_for {tgx iter : Expr} {tg : Tg} {mi : En → Sto → Option (Src × Sto)} {body : List Stmt} (hp : PassesOwn (model X.prog X.w) X.A X.env X.xe) (hc : X.calm = true) (hi : PI X tgx iter (sI X.K tg mi)) (hg : PG X tgx (sG X.K tg)) (hb : PSs X body (sS X.K ms)) (hs : nset iter = true) :
    PS X (.For tgx iter body [] pos) (sS X.K fun env S => (mi env S).bind fun s => loopL s.1 tg ms s.1.n 0 env s.2) := by
  refine PS.imp (ps_for hp hc hi hg hb (fsi hs _)) ?_
  rintro D σ H ⟨ι, env, S, r, s, e, h, q⟩
  rw [Option.bind_eq_some_iff] at h
  obtain ⟨⟨src, S1⟩, h1, h2⟩ := h
  refine ⟨ι, env, S, src, S1, s, e, h1, fun ι1 H1 J x1 s1 sv => ?_⟩
  dsimp only at h2
  refine ⟨fun i m σ H => ∃ ι2 env2 S2, Ext X.K ι1 H1 ι2 H ∧ Sat X.K ι2 H S2 ∧ Eat X.K ι2 H env2 σ ∧ loopL src tg ms m i env2 S2 = some r ∧ i + m = src.n, ⟨src.n, ι1, env, S1, .refl, s1, e.ext x1, h2, by omega⟩, ?_⟩
  rintro i m σ2 H2 ⟨ι2, env2, S2, x2, s2, e2, hl, hn⟩
  have q2 := (q.ext x1).ext x2
  cases m with
  | zero =>
    refine .inl ?_
    simp only [loopL, Option.bind_eq_some_iff] at hl
    obtain ⟨l, hl1, hl2⟩ := hl
    split at hl2
    · rename_i hln
      cases hl2
      have hi : i = l.length := by omega
      exact ⟨by rw [hi]; exact (sv _ _ _ x2.w s2 l hl1 hln).2, q2 ι2 H2 σ2 .refl s2 e2⟩
    · cases hl2
  | succ m =>
    refine .inr ?_
    simp only [loopL, Option.bind_eq_some_iff] at hl
    obtain ⟨l, hl1, hl2⟩ := hl
    split at hl2
    · rename_i hln
      simp only [Option.bind_eq_some_iff] at hl2
      obtain ⟨x, hx, env3, hbt, ⟨f, env4, S4⟩, hr, hl3⟩ := hl2
      obtain ⟨go, yl⟩ := (sv _ _ _ x2.w s2 l hl1 hln).1 i x hx
      refine ⟨go, _, fun σ' H' nx => ⟨m, Nat.lt_succ_self m, nx⟩, fun v H3 hy => ?_⟩
      obtain ⟨ι3, x3, s3, r3⟩ := yl v H3 hy
      refine ⟨ι3, env2, x, env3, e2.ext x3, r3, hbt, fun σ3 e3 _ => ?_⟩
      refine sS_mk s3 e3 hr ?_
      cases f with
      | nx => exact fun ι' H' σ' x' s' e' => ⟨ι', env4, S4, (x2.trans x3).trans x', s', e', hl3, by omega⟩
      | ct => exact fun ι' H' σ' x' s' e' => ⟨ι', env4, S4, (x2.trans x3).trans x', s', e', hl3, by omega⟩
      | bk => cases hl3; exact fun ι' H' σ' x' s' e' => q2 ι' H' σ' (x3.trans x') s' e'
      | rt d => cases hl3; exact fun ι' H' v x' s' r' => q2 ι' H' v (x3.trans x') s' r'
    · cases hl2
/-- name op= e -/
theorem s_aug {i : Nat} {x : Str} {op : Bop} {o : Operator} (hop : (op = .add ∧ o = .Add) ∨ (op = .sub ∧ o = .Sub)) (hN : X.N.Nodup) (ok : NameOk X i x) (he : PE X e (sE X.K m)) : PS X (.AugAssign (.Name x p2) o e pos) (sS X.K fun env S => match env[i]? with
      | some (some x) => (m env S).bind fun p => (augD op x p.1).map fun y => (.nx, env.set i (some y), p.2)
      | _ => none) := by
  have key : ∀ (g : Int → Int → Int) (ip : PIp X o (ipI g)), (∀ a b, augD op (.int a) (.int b) = some (.int (g a b))) → (∀ a b y, augD op a b = some y → ∃ j k, a = .int j ∧ b = .int k) → PS X (.AugAssign (.Name x p2) o e pos) (sS X.K fun env S => match env[i]? with
      | some (some x) => (m env S).bind fun p => (augD op x p.1).map fun y => (.nx, env.set i (some y), p.2)
      | _ => none) := by
    intro g ip h0 h1
    refine PS.imp (ps_aug hN ok.hi ok.hx he ip ok.hf) ?_
    rintro D σ H ⟨ι, env, S, r, s, e, h, q⟩
    dsimp only at h
    split at h
    · rename_i x hx
      simp only [Option.bind_eq_some_iff, Option.map_eq_some_iff] at h
      obtain ⟨⟨d, S1⟩, g1, y, g2, g3⟩ := h
      subst g3
      obtain ⟨j, k, hj, hk⟩ := h1 _ _ _ g2
      dsimp only at hk
      subst hj hk
      rw [h0] at g2; cases g2
      obtain ⟨v, h1, h2⟩ := e.at_ i _ hx
      rw [rep_int] at h2; subst h2
      refine ⟨_, h1, sE_mk s e g1 fun ι1 H1 v x1 s1 r1 => ?_⟩
      rw [rep_int] at r1; subst r1
      exact ⟨j, k, rfl, rfl, q ι1 H1 _ x1 s1 ((e.ext x1).set (rep_int.mpr rfl) i)⟩
    · cases h
  rcases hop with ⟨rfl, rfl⟩ | ⟨rfl, rfl⟩
  · exact key _ ip_add (fun _ _ => rfl) fun a b y h => by cases a <;> first | (simp [augD] at h; done) | (cases b <;> first | (simp [augD] at h; done) | exact ⟨_, _, rfl, rfl⟩)
  · exact key _ ip_sub (fun _ _ => rfl) fun a b y h => by cases a <;> first | (simp [augD] at h; done) | (cases b <;> first | (simp [augD] at h; done) | exact ⟨_, _, rfl, rfl⟩)
/-- o[i] = v -/
def rSetAll (K : PySem.W.Frag) : TSet := fun o i v H Q => rSetL o i v H Q ∨ rSetD o i v H Q
theorem set_all (hu : X.A.units + 1 < cLine) : PSet X (rSetAll X.K) := by
  intro pins s σ H o i v ov iv u Q I r1 r2 r3 h
  rcases h with h | h
  · exact set_list pins s σ H o i v ov iv u Q I r1 r2 r3 h
  · exact set_dict hu pins s σ H o i v ov iv u Q I r1 r2 r3 h
theorem setIx_at {ι : Ad} {H : Hp} {S S' : Sto} {o i v : D} {x y w : V} {Q : Hp → Prop} (s : Sat K ι H S) (r1 : Rep K ι H o x) (r2 : Rep K ι H i y) (r3 : Rep K ι H v w) (h : setIxD o i v S = some S')
    (q : ∀ H', Ext K ι H ι H' → Sat K ι H' S' → Q H') : rSetAll K x y w H Q := by
  cases o <;> first
    | (simp [setIxD] at h; done)
    | skip
  rename_i n
  simp only [setIxD] at h
  cases g : S[n]? with
  | none => rw [g] at h; cases h
  | some ob =>
    rw [g] at h
    cases ob with
    | lst l =>
      cases i <;> first
        | (simp at h; done)
        | skip
      rename_i k
      simp only [Option.map_eq_some_iff] at h
      obtain ⟨j, h1, h2⟩ := h
      subst h2
      rw [rep_int] at r2; subst r2
      obtain ⟨a, us, rfl, ha, g2, ru⟩ := lst_at s r1 g
      obtain ⟨x', s'⟩ := write_lst s ha g2 (ru.set j r3)
      exact .inl ⟨a, us, k, j, rfl, rfl, g2, by rw [ru.length]; exact h1, q _ x' s'⟩
    | dic kvs =>
      simp only [Option.bind_eq_some_iff] at h
      obtain ⟨k, h1, h2⟩ := h
      split at h2
      · cases h2
        obtain ⟨a, ws, rfl, ha, g2, ru⟩ := dic_at s r1 g
        have hm : Mut (H a) := by rw [g2]; trivial
        have x' : Ext K ι H ι (upd H a (.dK (L2.putK ws k w))) := Ext.write (List.mem_of_getElem? ha) hm
        have := kd_some h1 y r2
        subst this
        exact .inr ⟨a, _, rfl, DPut.k g2 (by rw [ru.length]; assumption), q _ x' (s.write ha hm ⟨_, upd_same, (krep_put k ru r3).ext x'⟩)⟩
      · cases h2
    | dead => cases h
theorem s_setIx {tpos : Pos} (hu : X.A.units + 1 < cLine) (hc : nc a = true) (hv : PE X a (sE X.K ma)) (ho : PE X b (sE X.K mb)) (hi : PE X c (sE X.K mc))
    (ha : ∀ v, assign (.Subscript b c tpos) X.env v = (do
      let ov ← holding [v] (eval b X.env)
      let iv ← holding [v, ov] (eval c X.env)
      standAt tpos
      holding [v, ov, iv] (setItem ov iv v)
      release [v, ov, iv] [])) (h1 : (assignEach [.Subscript b c tpos] X.env).map (·.2) = [assign (.Subscript b c tpos) X.env]) (hsw : swappedStores [.Subscript b c tpos] a X.env = pure none) :
    PS X (.Assign [.Subscript b c tpos] a pos) (sS X.K fun env S => (ma env S).bind fun p => (mb env p.2).bind fun q => (mc env q.2).bind fun r => (setIxD q.1 r.1 p.1 r.2).map fun S' => (.nx, env, S')) := by
  refine PS.imp (ps_asg hv (pg_sub ho hi (set_all hu) ha) (sw_false hc (some (.Subscript b c tpos)) pos.line X.env) hsw h1) ?_
  rintro D σ H ⟨ι, env, S, r, s, e, h, q⟩
  simp only [Option.bind_eq_some_iff, Option.map_eq_some_iff] at h
  obtain ⟨⟨dv, S1⟩, g1, ⟨dob, S2⟩, g2, ⟨di, S3⟩, g3, S4, g4, g5⟩ := h
  subst g5
  refine sE_mk s e g1 fun ι1 H1 v x1 s1 r1 => ?_
  refine sE_mk s1 (e.ext x1) g2 fun ι2 H2 x x2 s2 r2 => ?_
  refine sE_mk s2 ((e.ext x1).ext x2) g3 fun ι3 H3 y x3 s3 r3 => ?_
  refine setIx_at s3 (r2.ext x3) r3 ((r1.ext x2).ext x3) g4 fun H' x' s' => ?_
  have xx := ((x1.trans x2).trans x3).trans x'
  exact q ι3 H' σ xx s' (e.ext xx)
end
end Tt
end

section
/-! The text of a def against its evaluation's tree: a test, and what it tells. -/
namespace Tt
open PySem PySem.Spec PyProof.Rows L2

structure SC where
  N : List Str
  sc : Scope
  fn : Option Scope
structure Pr where
  fns : List (Str × Nat)
  gls : List (Str × D)
  bls : List Str
structure CxOk (pr : Pr) (k : Nat) (cal : Cal) (c : SC) (X : Cx) : Prop where
  N : X.N = c.N
  sc : X.env.scope = c.sc
  fn : ∀ y, X.fn y = (match c.fn with | none => true | some s => s.names.lookup y == some .cell)
  calm : X.calm = true
  nd : X.N.Nodup
  room : Room k X.A
  fns : ∀ x j, pr.fns.lookup x = some j → FnAt X k cal j x
  gls : ∀ x d, pr.gls.lookup x = some d → ∃ u v, X.mg x = some u ∧ RelV v u ∧ ∀ ι H, Rep X.K ι H d v
  bls : ∀ x, x ∈ pr.bls → X.mg x = none
abbrev SC.blk (c : SC) (scope : Scope) : SC := ⟨c.N, relS scope c.sc, some scope⟩
theorem CxOk.blk {pr : Pr} {k : Nat} {cal : Cal} {c : SC} {X : Cx} (ok : CxOk pr k cal c X) (scope : Scope) (s : Shared) (H : Hp) (C : Addr) (cl : List (Str × Addr)) (fp : List Addr) :
    CxOk pr k cal (c.blk scope) (X.blk s H scope (compEnvC scope cl C X.env) fp) :=
  ⟨ok.N, by show relS scope X.env.scope = _; rw [ok.sc], fun _ => rfl, ok.calm, ok.nd, ok.room, fun x j h => ⟨(ok.fns x j h).ex⟩, ok.gls, ok.bls⟩

/-! ### names -/
def glB (c : SC) (y : Str) : Bool := decide (c.sc.names.lookup y = some .globalImplicit) && !(y == ("__debug__" : Str))
def visB (c : SC) (y : Str) : Bool := match c.sc.names.lookup y with
  | some .local => true | some .cell => true | some .free => true | _ => false
def nameB (c : SC) (i : Nat) (y : Str) : Bool := decide (c.N[i]? = some y) && (match c.sc.names.lookup y with
  | some .local => true
  | some .cell => (match c.fn with | none => true | some s => s.names.lookup y == some .cell)
  | _ => false)
section
variable {pr : Pr} {k : Nat} {cal : Cal} {c : SC} {X : Cx}
theorem gl_ok (ok : CxOk pr k cal c X) {y : Str} (h : glB c y = true) : Gl X y ∧ (y == ("__debug__" : Str)) = false := by
  simp only [glB, Bool.and_eq_true, decide_eq_true_eq, Bool.not_eq_true'] at h
  exact ⟨by show X.env.scope.names.lookup y = _; rw [ok.sc]; exact h.1, h.2⟩
theorem vis_ok (ok : CxOk pr k cal c X) {y : Str} (h : visB c y = true) : Vis X.env.scope y := by
  unfold visB at h
  unfold Vis
  rw [ok.sc]
  split at h <;> simp_all
theorem name_ok (ok : CxOk pr k cal c X) {i : Nat} {y : Str} (h : nameB c i y = true) : NameOk X i y := by
  unfold nameB at h
  simp only [Bool.and_eq_true, decide_eq_true_eq] at h
  obtain ⟨h1, h2⟩ := h
  refine ⟨by rw [ok.N]; exact h1, ?_, ?_⟩
  · unfold L2.Loc
    rw [ok.sc]
    split at h2 <;> simp_all
  · rw [ok.sc, ok.fn]
    split at h2 <;> simp_all
end

/-! ### the tests -/
def tyS : Ty → Str
  | .int => "int" | .bool => "bool" | .str => "str" | .tuple => "tuple" | .list => "list" | .dict => "dict"
theorem tyS_boot (t : Ty) : bootBuiltins (tyS t) = some (.type (tyN t)) := by cases t <;> decide +kernel
def mVar (c : SC) (i : Nat) : Expr → Bool
  | .Name y _ => decide (c.N[i]? = some y) && visB c y && !(y == ("__debug__" : Str)) && !(y == ("__classdict__" : Str))
  | _ => false
def mCst (v : D) : Expr → Bool
  | .Constant k _ _ => (match v, k with
    | .non, .none => true
    | .bl a, .bool b => a == b
    | .int a, .int b => a == b
    | .str a, .str b => decide (a = b)
    | _, _ => false)
  | _ => false
mutual
def eqB : D → D → Bool
  | .non, .non => true
  | .bl a, .bl b => a == b
  | .int a, .int b => a == b
  | .str a, .str b => decide (a = b)
  | .tup a, .tup b => eqBs a b
  | _, _ => false
def eqBs : List D → List D → Bool
  | [], [] => true
  | a :: r, b :: s => eqB a b && eqBs r s
  | _, _ => false
end
def mGlob (pr : Pr) (c : SC) (y : Str) (v : D) : Expr → Bool
  | .Name z _ => decide (y = z) && glB c y && (match pr.gls.lookup y with | some w => eqB w v | none => false)
  | _ => false
def mEs (f : E → Expr → Bool) : List E → List Expr → Bool
  | [], [] => true
  | e :: es, x :: xs => f e x && ns x && mEs f es xs
  | _, _ => false
def bopOf : Bop → Operator
  | .add => .Add | .sub => .Sub | .mul => .Mult | .fdiv => .FloorDiv | .mod => .Mod
def tailOp (op : BoolOp) (b : Expr) (rest : List Expr) (pos : Pos) : Expr := match rest with
  | [] => b
  | r :: rs => .BoolOp op (b :: r :: rs) pos
def pix : Expr → Bool
  | .Slice .. => false
  | _ => true
def bltOk (b : Blt) : Bool := !(b == .str || b == .min || b == .max)
def blB (pr : Pr) (c : SC) (y : Str) : Bool := decide (y ∈ pr.bls) && glB c y
def optB (f : E → Expr → Bool) : Option E → Option Expr → Bool
  | none, none => true
  | some e, some x => f e x
  | _, _ => false
def mSr (pr : Pr) (c : SC) (f : E → Expr → Bool) : Sr → Expr → Bool
  | .seq e, x => f e x && nset x
  | .rng a, x => (match x with
    | .Call (.Name y _) [a'] [] _ => decide (y = ("range" : Str)) && blB pr c y && ns a' && f a a'
    | _ => false)
  | .rng2 a b, x => (match x with
    | .Call (.Name y _) [a', b'] [] _ => decide (y = ("range" : Str)) && blB pr c y && ns a' && ns b' && f a a' && f b b'
    | _ => false)
  | _, _ => false
def mNs (c : SC) : List Nat → List Expr → Bool
  | [], [] => true
  | i :: is, x :: xs => (match x with | .Name y _ => nameB c i y | _ => false) && mNs c is xs
  | _, _ => false
def mTg (c : SC) : Tg → Expr → Bool
  | .one i, x => (match x with | .Name y _ => nameB c i y | _ => false)
  | .many is, x => (match x with | .Tuple xs _ _ => mNs c is xs | _ => false)
def ownP (c : SC) (own : List Nat) : List (Str × Nat) := own.filterMap fun i => (c.N[i]?).map fun y => (y, i)
def ownB (c : SC) (own : List Nat) (scope : Scope) (tg : Tg) : Bool :=
  decide ((ownP c own).map (·.2) = own) && blkC c.N c.sc scope (ownP c own) && (tgIx tg).all fun i => decide (i ∈ own)
def plainT : Expr → Bool
  | .UnaryOp .Not _ _ => false
  | .BoolOp .. => false
  | .IfExp .. => false
  | .Compare .. => false
  | _ => true
def isSet : Expr → Bool
  | .Set .. => true
  | _ => false
def mTs (f : T → Expr → Bool) : List T → List Expr → Bool
  | [], [] => true
  | [t], [x] => f t x
  | _, _ => false
mutual
def mE (pr : Pr) : Nat → SC → E → Expr → Bool
  | 0, _, _, _ => false
  | d + 1, c, e, x =>
    match e with
    | .var i => mVar c i x
    | .cst v => mCst v x
    | .glob y v => mGlob pr c y v x
    | .tup es => (match x with | .Tuple xs _ _ => mEs (mE pr d c) es xs | _ => false)
    | .lst _ es => (match x with | .List xs _ => mEs (mE pr d c) es xs | _ => false)
    | .and a b => (match x with | .BoolOp .And (a' :: b' :: rest) pos => mE pr d c a a' && mE pr d c b (tailOp .And b' rest pos) | _ => false)
    | .or a b => (match x with | .BoolOp .Or (a' :: b' :: rest) pos => mE pr d c a a' && mE pr d c b (tailOp .Or b' rest pos) | _ => false)
    | .not a => (match x with | .UnaryOp .Not a' _ => mE pr d c a a' | _ => false)
    | .ite t a b => (match x with | .IfExp t' a' b' _ => mT pr d c t t' && mE pr d c a a' && mE pr d c b b' | _ => false)
    | .bin op a b => (match x with | .BinOp a' o b' _ => decide (o = bopOf op) && mE pr d c a a' && mE pr d c b b' | _ => false)
    | .neg a => (match x with | .UnaryOp .USub a' _ => mE pr d c a a' | _ => false)
    | .cmp op a b => (match x with | .Compare a' [o] [b'] _ => decide (o = copOf op) && !isSet b' && mE pr d c a a' && mE pr d c b b' | _ => false)
    | .chain op op' a b f => (match x with | .Compare a' [o, o'] [b', f'] _ => decide (o = copOf op) && decide (o' = copOf op') && !isSet f' && mE pr d c a a' && mE pr d c b b' && mE pr d c f f' | _ => false)
    | .ix a b => (match x with | .Subscript a' b' _ => pix b' && mE pr d c a a' && mE pr d c b b' | _ => false)
    | .slice a lo hi => (match x with | .Subscript a' (.Slice lo' hi' none _) _ => mE pr d c a a' && optB (mE pr d c) lo lo' && optB (mE pr d c) hi hi' | _ => false)
    | .call f es => (match x with | .Call (.Name y _) xs [] _ => decide (pr.fns.lookup y = some f) && glB c y && mEs (mE pr d c) es xs | _ => false)
    | .isi a t => (match x with | .Call (.Name y _) [a', .Name z _] [] _ => decide (y = ("isinstance" : Str)) && blB pr c y && decide (z = tyS t) && blB pr c z && ns a' && mE pr d c a a' | _ => false)
    | .blt _ b es => (match x with | .Call (.Name y _) (x' :: xs) [] _ => bltOk b && decide (y = bltN b) && blB pr c y && mEs (mE pr d c) es (x' :: xs) | _ => false)
    | .meth m o es => (match x with
      | .Call (.Attribute o' nm apos) [] [] pos => (match es with | [] => true | _ => false) && decide (nm = mthN m) && okBase o' && (apos.endLine == pos.line) && mE pr d c o o'
      | .Call (.Attribute o' nm apos) [x'] [] pos => decide (nm = mthN m) && okBase o' && (apos.endLine == pos.line) && mE pr d c o o' && mEs (mE pr d c) es [x']
      | _ => false)
    | .comp _ own tg src ifs elt => (match x with
      | .ListComp elt' [⟨tg', src', ifs', 0⟩] scope _ => ownB c own scope tg && nset src' && mSr pr c (mE pr d c) src src' && mTg (c.blk scope) tg tg' && mTs (mT pr d (c.blk scope)) ifs ifs' && mE pr d (c.blk scope) elt elt'
      | _ => false)
    | .dcomp own tg src ifs kx vx => (match x with
      | .DictComp kx' vx' [⟨tg', src', ifs', 0⟩] scope _ => ownB c own scope tg && nset src' && mSr pr c (mE pr d c) src src' && mTg (c.blk scope) tg tg' && mTs (mT pr d (c.blk scope)) ifs ifs' && mE pr d (c.blk scope) kx kx' && mE pr d (c.blk scope) vx vx'
      | _ => false)
def mT (pr : Pr) : Nat → SC → T → Expr → Bool
  | 0, _, _, _ => false
  | d + 1, c, t, x =>
    match t with
    | .val e => plainT x && mE pr d c e x
    | .cmp op a b => (match x with | .Compare a' [o] [b'] _ => decide (o = copOf op) && !isSet b' && mE pr d c a a' && mE pr d c b b' | _ => false)
    | .chain op op' a b f => (match x with | .Compare a' [o, o'] [b', f'] _ => decide (o = copOf op) && decide (o' = copOf op') && !isSet f' && mE pr d c a a' && mE pr d c b b' && mE pr d c f f' | _ => false)
    | .not a => (match x with | .UnaryOp .Not a' _ => mT pr d c a a' | _ => false)
    | .and a b => (match x with | .BoolOp .And (a' :: b' :: rest) pos => mT pr d c a a' && mT pr d c b (tailOp .And b' rest pos) | _ => false)
    | .or a b => (match x with | .BoolOp .Or (a' :: b' :: rest) pos => mT pr d c a a' && mT pr d c b (tailOp .Or b' rest pos) | _ => false)
end

/-! ### what they tell -/
section
variable {pr : Pr} {k : Nat} {cal : Cal} {c : SC} {X : Cx} {x : Expr} {d : Nat}
theorem ok_var (ok : CxOk pr k cal c X) {i : Nat} (h : mVar c i x = true) : PE X x (sE X.K (ev cal (d + 1) (.var i))) := by
  cases x <;> first
    | (simp [mVar] at h; done)
    | skip
  simp only [mVar, Bool.and_eq_true, decide_eq_true_eq, Bool.not_eq_true'] at h
  exact n_var (by rw [ok.N]; exact h.1.1.1) (vis_ok ok h.1.1.2) h.1.2 h.2
theorem ok_cst {v : D} (h : mCst v x = true) : PE X x (sE X.K (ev cal (d + 1) (.cst v))) := by
  cases x <;> first
    | (simp [mCst] at h; done)
    | skip
  rename_i q j pos
  cases v <;> cases q <;> first
    | (simp [mCst] at h; done)
    | exact n_const pe_non fun _ _ => rep_non.mpr rfl
    | (simp only [mCst, beq_iff_eq] at h; subst h; exact n_const pe_bl fun _ _ => rep_bl.mpr rfl)
    | (simp only [mCst, beq_iff_eq] at h; subst h; exact n_const pe_int fun _ _ => rep_int.mpr rfl)
    | (simp only [mCst, decide_eq_true_eq] at h; subst h; exact n_const pe_str fun _ _ => rep_str.mpr rfl)
mutual
theorem eqB_ok : ∀ {a b : D}, eqB a b = true → a = b
  | .non, .non, _ => rfl
  | .bl a, .bl b, h => by simp only [eqB, beq_iff_eq] at h; rw [h]
  | .int a, .int b, h => by simp only [eqB, beq_iff_eq] at h; rw [h]
  | .str a, .str b, h => by simp only [eqB, decide_eq_true_eq] at h; rw [h]
  | .tup a, .tup b, h => by simp only [eqB] at h; rw [eqBs_ok h]
  | .non, .bl _, h | .non, .int _, h | .non, .str _, h | .non, .tup _, h | .non, .fzl _, h | .non, .lst _, h | .non, .ref _, h => by simp [eqB] at h
  | .bl _, .non, h | .bl _, .int _, h | .bl _, .str _, h | .bl _, .tup _, h | .bl _, .fzl _, h | .bl _, .lst _, h | .bl _, .ref _, h => by simp [eqB] at h
  | .int _, .non, h | .int _, .bl _, h | .int _, .str _, h | .int _, .tup _, h | .int _, .fzl _, h | .int _, .lst _, h | .int _, .ref _, h => by simp [eqB] at h
  | .str _, .non, h | .str _, .bl _, h | .str _, .int _, h | .str _, .tup _, h | .str _, .fzl _, h | .str _, .lst _, h | .str _, .ref _, h => by simp [eqB] at h
  | .tup _, .non, h | .tup _, .bl _, h | .tup _, .int _, h | .tup _, .str _, h | .tup _, .fzl _, h | .tup _, .lst _, h | .tup _, .ref _, h => by simp [eqB] at h
  | .lst _, _, h => by simp [eqB] at h
  | .fzl _, _, h => by simp [eqB] at h
  | .ref _, _, h => by simp [eqB] at h
theorem eqBs_ok : ∀ {a b : List D}, eqBs a b = true → a = b
  | [], [], _ => rfl
  | a :: r, b :: s, h => by
    simp only [eqBs, Bool.and_eq_true] at h
    rw [eqB_ok h.1, eqBs_ok h.2]
  | [], _ :: _, h => by simp [eqBs] at h
  | _ :: _, [], h => by simp [eqBs] at h
end
theorem ok_glob (ok : CxOk pr k cal c X) {y : Str} {v : D} (h : mGlob pr c y v x = true) : PE X x (sE X.K (ev cal (d + 1) (.glob y v))) := by
  cases x <;> first
    | (simp [mGlob] at h; done)
    | skip
  simp only [mGlob, Bool.and_eq_true, decide_eq_true_eq] at h
  obtain ⟨⟨h1, h2⟩, h3⟩ := h
  subst h1
  obtain ⟨g1, g2⟩ := gl_ok ok h2
  split at h3
  · rename_i w hw
    have := eqB_ok h3
    subst this
    obtain ⟨u, v, e1, r, rr⟩ := ok.gls y w hw
    exact n_const (pe_glob g1 e1 r g2) rr
  · cases h3
theorem es_ok {f : E → Expr → Bool} {g : E → En → Sto → Option (D × Sto)} (IH : ∀ e x, f e x = true → PE X x (sE X.K (g e))) : ∀ {es : List E} {xs : List Expr}, mEs f es xs = true → PA X xs (sA X.K (evs g es)) ∧ xs.all ns = true
  | [], [], _ => ⟨a_nil, rfl⟩
  | e :: es, x :: xs, h => by
    simp only [mEs, Bool.and_eq_true] at h
    obtain ⟨h1, h2⟩ := es_ok IH h.2
    exact ⟨a_cons (IH e x h.1.1) h1 h.1.2, by rw [List.all_cons, h.1.2, h2]; rfl⟩
  | [], _ :: _, h => by simp [mEs] at h
  | _ :: _, [], h => by simp [mEs] at h
theorem tail_ok {op : BoolOp} {b : Expr} {rest : List Expr} {pos : Pos} {t : TE} (h : PE X (tailOp op b rest pos) t) : PE X (.BoolOp op (b :: rest) pos) t := by
  cases rest with
  | nil => exact pe_one h
  | cons r rs => exact h
theorem bl_ok (ok : CxOk pr k cal c X) {y : Str} (h : blB pr c y = true) : Gl X y ∧ X.mg y = none := by
  simp only [blB, Bool.and_eq_true, decide_eq_true_eq] at h
  exact ⟨(gl_ok ok h.2).1, ok.bls y h.1⟩
theorem sr_ok (ok : CxOk pr k cal c X) {f : E → Expr → Bool} {g : E → En → Sto → Option (D × Sto)} (IH : ∀ e x, f e x = true → PE X x (sE X.K (g e))) {s : Sr} {tgx : Expr} {tg : Tg} (h : mSr pr c f s x = true) : PI X tgx x (sI X.K tg (evSr g s)) := by
  cases s with
  | seq e =>
    simp only [mSr, Bool.and_eq_true] at h
    exact i_seq (IH e x h.1)
  | rng a =>
    simp only [mSr] at h
    split at h
    · simp only [Bool.and_eq_true, decide_eq_true_eq] at h
      obtain ⟨⟨⟨h1, h2⟩, h3⟩, h4⟩ := h
      subst h1
      obtain ⟨g1, g2⟩ := bl_ok ok h2
      exact i_rng g1 g2 h3 (IH _ _ h4)
    · cases h
  | rng2 a b =>
    simp only [mSr] at h
    split at h
    · simp only [Bool.and_eq_true, decide_eq_true_eq] at h
      obtain ⟨⟨⟨⟨⟨h1, h2⟩, h3⟩, h3'⟩, h4⟩, h5⟩ := h
      subst h1
      obtain ⟨g1, g2⟩ := bl_ok ok h2
      exact i_rng2 g1 g2 h3 h3' (IH _ _ h4) (IH _ _ h5)
    · cases h
  | _ => simp [mSr] at h
theorem ns_ok (ok : CxOk pr k cal c X) : ∀ {is : List Nat} {xs : List Expr}, mNs c is xs = true → ∃ ys : List (Str × Pos), xs = ys.map (fun y => .Name y.1 y.2) ∧ Paired (fun i (y : Str × Pos) => NameOk X i y.1) is ys
  | [], [], _ => ⟨[], rfl, .nil⟩
  | i :: is, x :: xs, h => by
    simp only [mNs, Bool.and_eq_true] at h
    obtain ⟨h1, h2⟩ := h
    obtain ⟨ys, e, p⟩ := ns_ok ok h2
    split at h1
    · rename_i y pos
      exact ⟨(y, pos) :: ys, by rw [e]; rfl, .cons (name_ok ok h1) p⟩
    · cases h1
  | [], _ :: _, h => by simp [mNs] at h
  | _ :: _, [], h => by simp [mNs] at h
theorem tg_ok (ok : CxOk pr k cal c X) {tg : Tg} (h : mTg c tg x = true) : PG X x (sG X.K tg) := by
  cases tg with
  | one i =>
    simp only [mTg] at h
    split at h
    · have := name_ok ok h
      exact g_one ok.nd this.hi this.hx this.hf
    · cases h
  | many is =>
    simp only [mTg] at h
    split at h
    · obtain ⟨ys, e, p⟩ := ns_ok ok h
      subst e
      exact g_many ok.calm ok.nd p
    · cases h
theorem plain_ok (h : plainT x = true) (env : Env) (whole : Sem Value) : isTrue x env whole = (do let v ← whole; standAt x.pos; holding [v] (truthy v)) := by
  cases x <;> first
    | rfl
    | (simp [plainT] at h; done)
    | skip
  rename_i op a pos
  cases op <;> first | rfl | (simp [plainT] at h)
theorem pix_ok (h : pix x = true) : PlainIx x := by
  intro o i
  cases x <;> first | rfl | (simp [pix] at h)
theorem set_ok {op : CmpOp} (h : (!isSet x) = true) : behindInMarks op x = false := by
  cases x <;> first | rfl | (simp [isSet] at h)
end

/-! ### all together -/
theorem tests_ok {X : Cx} {f : T → Expr → Bool} {g : T → En → Sto → Option (Bool × Sto)} (IH : ∀ t x, f t x = true → PT X x (sT X.K (g t))) : ∀ {ts : List T} {xs : List Expr}, mTs f ts xs = true → PTs X xs (sT X.K (evTs g ts))
  | [], [], _ => ⟨fun pins s σ H Q I ⟨ι, env, S, d, S', s1, e, h, q⟩ => by
      cases h
      exact pts_nil.run pins s σ H Q I (q ι H .refl s1)⟩
  | [t], [x], h => by
    simp only [mTs] at h
    refine ⟨fun pins s σ H Q I hq => (pts_one (IH t x h)).run pins s σ H Q I ?_⟩
    obtain ⟨ι, env, S, d, S', s1, e, h, q⟩ := hq
    simp only [evTs, Option.bind_eq_some_iff] at h
    obtain ⟨⟨b, S1⟩, h1, h2⟩ := h
    dsimp only at h2
    refine sT_mk s1 e h1 fun ι1 H1 x1 s2 => ?_
    cases b with
    | true =>
      rw [if_pos rfl] at h2
      cases h2
      exact q ι1 H1 x1 s2
    | false =>
      rw [if_neg Bool.false_ne_true] at h2
      cases h2
      exact q ι1 H1 x1 s2
  | [], _ :: _, h => by simp [mTs] at h
  | [_], [], h => by simp [mTs] at h
  | [_], _ :: _ :: _, h => by simp [mTs] at h
  | _ :: _ :: _, _, h => by simp [mTs] at h
def isB : Expr → Bool
  | .BoolOp .. => true
  | _ => false
def IE (pr : Pr) (k : Nat) (cal : Cal) (d : Nat) : Prop := ∀ c X, CxOk pr k cal c X → ∀ e x, mE pr d c e x = true → PE X x (sE X.K (ev cal d e))
def IT (pr : Pr) (k : Nat) (cal : Cal) (d : Nat) : Prop := ∀ c X, CxOk pr k cal c X → ∀ t x, mT pr d c t x = true → PT X x (sT X.K (evT cal d t)) ∧ (isB x = true → PW X x (sT X.K (evT cal d t)))
section
variable {pr : Pr} {k : Nat} {cal : Cal} {d : Nat}
theorem own_ok {c : SC} {X : Cx} (ok : CxOk pr k cal c X) {own : List Nat} {scope : Scope} {tg : Tg} (h : ownB c own scope tg = true) :
    (ownP c own).map (·.2) = own ∧ BlkOk X.N X.env.scope scope (ownP c own) ∧ ∀ i ∈ tgIx tg, i ∈ own := by
  simp only [ownB, Bool.and_eq_true, decide_eq_true_eq, List.all_eq_true] at h
  refine ⟨h.1.1, ?_, h.2⟩
  rw [ok.N, ok.sc]
  exact blkOk_by h.1.2
theorem po_opt {X : Cx} {f : E → Expr → Bool} {g : E → En → Sto → Option (D × Sto)} (IH : ∀ e x, f e x = true → PE X x (sE X.K (g e))) : ∀ {o : Option E} {x : Option Expr}, optB f o x = true → PO X x (sO X.K (evOpt g o))
  | none, none, _ => o_none
  | some e, some x, h => o_some (IH e x h)
  | none, some _, h => by simp [optB] at h
  | some _, none, h => by simp [optB] at h
theorem master (d : Nat) : IE pr k cal d ∧ IT pr k cal d := by
  induction d with
  | zero => exact ⟨fun c X ok e x h => by simp [mE] at h, fun c X ok t x h => by simp [mT] at h⟩
  | succ d ih =>
    obtain ⟨ihE, ihT⟩ := ih
    constructor
    · intro c X ok e x h
      have IH := ihE c X ok
      have IHT := fun t x h => (ihT c X ok t x h).1
      have hu64 : X.A.units + 64 < cLine := Nat.lt_of_le_of_lt (Nat.le_trans (Nat.add_le_add_left (by decide : 64 ≤ 200) _) (Nat.add_le_add_right (Nat.le_add_right _ _) _)) ok.room.un
      have hu : X.A.units + 1 < cLine := hu_of ok.room
      cases e with
      | var i => exact ok_var ok h
      | cst v => exact ok_cst h
      | glob y v => exact ok_glob ok h
      | tup es =>
        simp only [mE] at h
        split at h
        · exact n_tup (es_ok IH h).1
        · cases h
      | lst fz es =>
        simp only [mE] at h
        split at h
        · exact n_lst (es_ok IH h).1
        · cases h
      | and a b =>
        simp only [mE] at h
        split at h
        · simp only [Bool.and_eq_true] at h
          exact n_and (IH _ _ h.1) (tail_ok (IH _ _ h.2))
        · cases h
      | or a b =>
        simp only [mE] at h
        split at h
        · simp only [Bool.and_eq_true] at h
          exact n_or (IH _ _ h.1) (tail_ok (IH _ _ h.2))
        · cases h
      | not a =>
        simp only [mE] at h
        split at h
        · exact n_not (IH _ _ h)
        · cases h
      | ite t a b =>
        simp only [mE] at h
        split at h
        · simp only [Bool.and_eq_true] at h
          exact n_ite (IHT _ _ h.1.1) (IH _ _ h.1.2) (IH _ _ h.2)
        · cases h
      | bin op a b =>
        simp only [mE] at h
        split at h
        · simp only [Bool.and_eq_true, decide_eq_true_eq] at h
          obtain ⟨o, r, ho, h1, h2⟩ := bop_all (X := X) op
          obtain ⟨⟨h3, h4⟩, h5⟩ := h
          subst h3
          have : o = bopOf op := by rw [ho]; cases op <;> rfl
          subst this
          exact n_bin h1 h2 (IH _ _ h4) (IH _ _ h5)
        · cases h
      | neg a =>
        simp only [mE] at h
        split at h
        · exact n_neg (IH _ _ h)
        · cases h
      | cmp op a b =>
        simp only [mE] at h
        split at h
        · simp only [Bool.and_eq_true, decide_eq_true_eq] at h
          obtain ⟨⟨⟨h1, h2⟩, h3⟩, h4⟩ := h
          subst h1
          exact n_cmp hu64 (IH _ _ h3) (IH _ _ h4) (set_ok h2)
        · cases h
      | chain op op' a b f =>
        simp only [mE] at h
        split at h
        · simp only [Bool.and_eq_true, decide_eq_true_eq] at h
          obtain ⟨⟨⟨⟨⟨h1, h1'⟩, h2⟩, h3⟩, h4⟩, h5⟩ := h
          subst h1 h1'
          exact n_chain hu64 (IH _ _ h3) (IH _ _ h4) (IH _ _ h5) (set_ok h2)
        · cases h
      | ix a b =>
        simp only [mE] at h
        split at h
        · simp only [Bool.and_eq_true] at h
          exact n_ix hu (IH _ _ h.1.2) (IH _ _ h.2) (pix_ok h.1.1)
        · cases h
      | slice a lo hi =>
        simp only [mE] at h
        split at h
        · simp only [Bool.and_eq_true] at h
          exact n_slice (IH _ _ h.1.1) (po_opt IH h.1.2) (po_opt IH h.2)
        · cases h
      | call f es =>
        simp only [mE] at h
        split at h
        · rename_i y p xs pos
          simp only [Bool.and_eq_true, decide_eq_true_eq] at h
          obtain ⟨⟨h1, h2⟩, h3⟩ := h
          obtain ⟨g1, g2⟩ := gl_ok ok h2
          obtain ⟨e1, e2⟩ := es_ok IH h3
          cases xs with
          | nil =>
            cases es with
            | nil => exact n_call0 (ok.fns y f h1) ok.room g1 g2
            | cons e es => simp [mEs] at h3
          | cons x xs => exact n_call (ok.fns y f h1) ok.room g1 e2 g2 e1
        · cases h
      | isi a t =>
        simp only [mE] at h
        split at h
        · simp only [Bool.and_eq_true, decide_eq_true_eq] at h
          obtain ⟨⟨⟨⟨⟨h1, h2⟩, h3⟩, h4⟩, h5⟩, h6⟩ := h
          subst h1 h3
          obtain ⟨g1, g2⟩ := bl_ok ok h2
          obtain ⟨g3, g4⟩ := bl_ok ok h4
          exact n_isi (x := "isinstance") (p3 := ⟨0, 0, 0, 0⟩) g1 g2 (IH _ _ h6) (pe_bltn g3 g4 (tyS_boot t) (by show _ = _; rfl) (by cases t <;> decide) (by cases t <;> decide)) h5 rfl
        · cases h
      | blt fz b es =>
        simp only [mE] at h
        split at h
        · simp only [Bool.and_eq_true, decide_eq_true_eq] at h
          obtain ⟨⟨⟨h1, h2⟩, h3⟩, h4⟩ := h
          subst h2
          obtain ⟨g1, g2⟩ := bl_ok ok h3
          obtain ⟨e1, e2⟩ := es_ok IH h4
          exact n_blt ok.calm (by simpa [bltOk] using h1) g1 g2 e2 e1
        · cases h
      | meth m o es =>
        simp only [mE] at h
        split at h
        · simp only [Bool.and_eq_true, decide_eq_true_eq] at h
          obtain ⟨⟨⟨⟨h0, h1⟩, h2⟩, h3⟩, h4⟩ := h
          subst h1
          split at h0
          · exact n_meth0 h2 h3 (IH _ _ h4)
          · cases h0
        · simp only [Bool.and_eq_true, decide_eq_true_eq] at h
          obtain ⟨⟨⟨⟨h1, h2⟩, h3⟩, h4⟩, h5⟩ := h
          subst h1
          obtain ⟨e1, e2⟩ := es_ok IH h5
          exact n_meth h2 h3 (by simpa using e2) (IH _ _ h4) e1
        · cases h
      | comp fz own tg src ifs elt =>
        simp only [mE] at h
        split at h
        · rename_i elt' tg' src' ifs' scope pos
          simp only [Bool.and_eq_true] at h
          obtain ⟨⟨⟨⟨⟨h1, h0⟩, h2⟩, h3⟩, h4⟩, h5⟩ := h
          obtain ⟨o1, o2, o3⟩ := own_ok ok h1
          have key := pe_lc (X := X) (pos := pos) (g := sG X.K tg) (tt := sT X.K (evTs (evT cal d) ifs)) (te := sE X.K (ev cal d elt)) ok.calm ok.nd (sr_ok (tg := tg) (tgx := tg') ok IH h2) o2 (fun s H C cl fp => tg_ok (ok.blk scope s H C cl fp) h3)
            (fun s H C cl fp => tests_ok (fun t x h => (ihT _ _ (ok.blk scope s H C cl fp) t x h).1) h4) (fun s H C cl fp => ihE _ _ (ok.blk scope s H C cl fp) _ _ h5) (fsi h0 _)
          rw [o1] at key
          exact PE.imp key fun σ H Q hq => lc_use o3 hq
        · cases h
      | dcomp own tg src ifs kx vx =>
        simp only [mE] at h
        split at h
        · rename_i kx' vx' tg' src' ifs' scope pos
          simp only [Bool.and_eq_true] at h
          obtain ⟨⟨⟨⟨⟨⟨h1, h0⟩, h2⟩, h3⟩, h4⟩, h5⟩, h6⟩ := h
          obtain ⟨o1, o2, o3⟩ := own_ok ok h1
          have key := pe_dc (X := X) (pos := pos) (g := sG X.K tg) (tt := sT X.K (evTs (evT cal d) ifs)) (tk := sE X.K (ev cal d kx)) (tv := sE X.K (ev cal d vx)) ok.calm ok.nd (sr_ok (tg := tg) (tgx := tg') ok IH h2) o2 (fun s H C cl fp => tg_ok (ok.blk scope s H C cl fp) h3)
            (fun s H C cl fp => tests_ok (fun t x h => (ihT _ _ (ok.blk scope s H C cl fp) t x h).1) h4) (fun s H C cl fp => ihE _ _ (ok.blk scope s H C cl fp) _ _ h5) (fun s H C cl fp => ihE _ _ (ok.blk scope s H C cl fp) _ _ h6) (fsi h0 _)
          rw [o1] at key
          exact PE.imp key fun σ H Q hq => dc_use o3 hq
        · cases h
    · intro c X ok t x h
      have IH := ihE c X ok
      have IHT := fun t x h => (ihT c X ok t x h).1
      have hu64 : X.A.units + 64 < cLine := Nat.lt_of_le_of_lt (Nat.le_trans (Nat.add_le_add_left (by decide : 64 ≤ 200) _) (Nat.add_le_add_right (Nat.le_add_right _ _) _)) ok.room.un
      have wt : ∀ {op : BoolOp} {b : Expr} {rest : List Expr} {pos : Pos} {t : T}, mT pr d c t (tailOp op b rest pos) = true → op = .And → PW X (.BoolOp .And (b :: rest) pos) (sT X.K (evT cal d t)) := by
        intro op b rest pos t h e
        subst e
        cases rest with
        | nil => exact pw_and1 (IHT _ _ h)
        | cons r rs => exact (ihT c X ok _ _ h).2 rfl
      have wo : ∀ {b : Expr} {rest : List Expr} {pos : Pos} {t : T}, mT pr d c t (tailOp .Or b rest pos) = true → PW X (.BoolOp .Or (b :: rest) pos) (sT X.K (evT cal d t)) := by
        intro b rest pos t h
        cases rest with
        | nil => exact pw_or1 (IHT _ _ h)
        | cons r rs => exact (ihT c X ok _ _ h).2 rfl
      cases t with
      | val e =>
        simp only [mT, Bool.and_eq_true] at h
        refine ⟨t_val (IH _ _ h.2) (plain_ok h.1 _), fun hb => ?_⟩
        have h1 := h.1
        cases x <;> first | (simp [isB] at hb; done) | (simp [plainT] at h1; done)
      | cmp op a b =>
        simp only [mT] at h
        split at h
        · simp only [Bool.and_eq_true, decide_eq_true_eq] at h
          obtain ⟨⟨⟨h1, h2⟩, h3⟩, h4⟩ := h
          subst h1
          exact ⟨t_cmp hu64 (IH _ _ h3) (IH _ _ h4) (set_ok h2), fun hb => by simp [isB] at hb⟩
        · cases h
      | chain op op' a b f =>
        simp only [mT] at h
        split at h
        · simp only [Bool.and_eq_true, decide_eq_true_eq] at h
          obtain ⟨⟨⟨⟨⟨h1, h1'⟩, h2⟩, h3⟩, h4⟩, h5⟩ := h
          subst h1 h1'
          exact ⟨t_chain hu64 (IH _ _ h3) (IH _ _ h4) (IH _ _ h5) (set_ok h2), fun hb => by simp [isB] at hb⟩
        · cases h
      | not a =>
        simp only [mT] at h
        split at h
        · exact ⟨t_not (IHT _ _ h), fun hb => by simp [isB] at hb⟩
        · cases h
      | and a b =>
        simp only [mT] at h
        split at h
        · simp only [Bool.and_eq_true] at h
          have := w_and (IHT _ _ h.1) (wt h.2 rfl)
          exact ⟨this.pt, fun _ => this⟩
        · cases h
      | or a b =>
        simp only [mT] at h
        split at h
        · simp only [Bool.and_eq_true] at h
          have := w_or (IHT _ _ h.1) (wo h.2)
          exact ⟨this.pt, fun _ => this⟩
        · cases h
end
end Tt
end

section
/-! Statements against their trees. -/
namespace Tt
open PySem PySem.Spec PyProof.Rows L2

def swOk : Expr → Bool
  | .Tuple .. => false
  | .List .. => false
  | _ => true
/-- whether a list comprehension's name is stored before the block ends -/
def swB (c : SC) (y : Str) (py : Pos) (scope : Scope) (pos : Pos) : Bool :=
  decide (c.sc.names.lookup y = some .local) && (py.line == pos.line) && !(scope.names.any fun (n, k) => n == y && (k == .local || k == .cell))
def funB (c : SC) : Bool := decide (c.sc.kind = .function)
def mSet (pr : Pr) (d : Nat) (c : SC) (i : Nat) (e : E) : Stmt → Bool
  | .Assign [.Name y py] v _ => nameB c i y && mE pr d c e v && (nc v || (match v with
    | .ListComp _ _ scope pos => funB c
    | _ => false))
  | _ => false
def mSs (f : Sm → Stmt → Bool) : List Sm → List Stmt → Bool
  | [], [] => true
  | s :: ss, x :: xs => (match s, ss with | .never, [] => true | _, _ => f s x && mSs f ss xs)
  | _, _ => false
def mS (pr : Pr) : Nat → SC → Sm → Stmt → Bool
  | 0, _, _, _ => false
  | d + 1, c, s, x =>
    match s with
    | .set i e => mSet pr d c i e x
    | .unpack is e => (match x with | .Assign [.Tuple xs k p] v _ => mTg c (.many is) (.Tuple xs k p) && nc v && swOk v && mE pr d c e v | _ => false)
    | .setIx o ix v => (match x with | .Assign [.Subscript o' i' _] v' _ => nc v' && pix i' && mE pr d c v v' && mE pr d c o o' && mE pr d c ix i' | _ => false)
    | .aug i op e => (match x with | .AugAssign (.Name y _) o v _ => ((decide (op = .add) && decide (o = .Add)) || (decide (op = .sub) && decide (o = .Sub))) && nameB c i y && mE pr d c e v | _ => false)
    | .expr e => (match x with | .Expr v _ => nc v && mE pr d c e v | _ => false)
    | .ret e => (match x with | .Return (some v) _ => mE pr d c e v | _ => false)
    | .retN => (match x with | .Return none _ => true | _ => false)
    | .ifs t a b => (match x with | .If t' a' b' _ => mT pr d c t t' && mSs (mS pr d c) a a' && mSs (mS pr d c) b b' | _ => false)
    | .for_ tg src body => (match x with | .For tg' src' body' [] _ => nset src' && mTg c tg tg' && mSr pr c (mE pr d c) src src' && mSs (mS pr d c) body body' | _ => false)
    | .while_ t body => (match x with | .While t' body' [] _ => mT pr d c t t' && mSs (mS pr d c) body body' | _ => false)
    | .never => true
    | .pass => (match x with | .Pass _ => true | .Expr (.Constant (.str _) _ _) _ => true | _ => false)
    | .brk => (match x with | .Break _ => true | _ => false)
    | .cont => (match x with | .Continue _ => true | _ => false)

section
variable {pr : Pr} {k : Nat} {cal : Cal} {c : SC} {X : Cx} {d : Nat}
theorem sw_none {tg e : Expr} {env : Env} (h : swOk e = true) : swappedStores [tg] e env = pure none := by
  cases e <;> first | (simp [swOk] at h; done) | (cases tg <;> rfl)
theorem sw_noneS {o i e : Expr} {p : Pos} {env : Env} : swappedStores [.Subscript o i p] e env = pure none := by
  cases e <;> rfl
theorem asn_ok {o i : Expr} {pos : Pos} {env : Env} (h : pix i = true) (v : Value) : assign (.Subscript o i pos) env v = (do
      let ov ← holding [v] (eval o env)
      let iv ← holding [v, ov] (eval i env)
      standAt pos
      holding [v, ov, iv] (setItem ov iv v)
      release [v, ov, iv] []) := by
  cases i <;> first | rfl | (simp [pix] at h)
theorem ss_ok {f : Sm → Stmt → Bool} {g : Sm → En → Sto → Option (Fl × En × Sto)} (hn : ∀ env S, g .never env S = none) (IH : ∀ s x, f s x = true → PS X x (sS X.K (g s))) : ∀ {ss : List Sm} {xs : List Stmt}, mSs f ss xs = true → PSs X xs (sS X.K (exs g ss))
  | [], [], _ => s_nil
  | s :: ss, x :: xs, h => by
    simp only [mSs] at h
    split at h
    · refine PSs.imp pss_never ?_
      rintro D σ H ⟨ι, env, S, r, s, e, h, q⟩
      simp only [exs, hn] at h
      cases h
    · simp only [Bool.and_eq_true] at h
      exact s_cons (IH _ _ h.1) (ss_ok hn IH h.2)
  | [], _ :: _, h => by simp [mSs] at h
  | _ :: _, [], h => by simp [mSs] at h
theorem swlc {elt : Expr} {gs : List Comprehension} {scope : Scope} {pos py : Pos} {y : Str} {l : Nat} {env : Env} (hk : env.scope.kind = .function) : swapsWith (.ListComp elt gs scope pos) (some (.Name y py)) l env = pure (decide (env.scope.names.lookup y = some .local) && (py.line == pos.line) && !(scope.names.any fun (n, k) => n == y && (k == .local || k == .cell))) := by
  have hb : env.blockKind = .function := by unfold Env.blockKind; rw [hk]; rfl
  unfold swapsWith
  simp only [hb, Expr.pos, Env.kindOf]
  have : (env.scope.names.lookup y == some NameKind.local) = decide (env.scope.names.lookup y = some .local) := by
    by_cases h : env.scope.names.lookup y = some .local
    · rw [h]; rfl
    · rw [decide_eq_false h]; exact beq_eq_false_iff_ne.mpr h
  rw [this]
  rfl
theorem set_ok' (ok : CxOk pr k cal c X) {i : Nat} {e : E} {x : Stmt} (h : mSet pr d c i e x = true) : PS X x (sS X.K fun env S => (ev cal d e env S).map fun p => (.nx, env.set i (some p.1), p.2)) := by
  unfold mSet at h
  split at h
  · rename_i y py v pos
    simp only [Bool.and_eq_true, Bool.or_eq_true] at h
    obtain ⟨⟨h1, h2⟩, h3⟩ := h
    have no := name_ok ok h1
    rcases h3 with h3 | h3
    · exact s_set ok.nd no h3 ((master d).1 c X ok e v h2)
    · split at h3
      · rename_i elt' gs' scope pos'
        have hk : X.env.scope.kind = .function := by rw [ok.sc]; simpa [funB] using h3
        by_cases hsw : swB c y py scope pos' = true
        case neg =>
          have hs : swapsWith (.ListComp elt' gs' scope pos') (some (.Name y py)) pos.line X.env = pure false := by
            rw [swlc hk, ok.sc]
            exact congrArg pure (Bool.eq_false_iff.mpr hsw)
          refine PS.imp (ps_set ok.nd no.hi no.hx ((master d).1 c X ok e _ h2) hs no.hf) ?_
          rintro D σ H ⟨ι, env, S, r, s, e, h, q⟩
          rw [Option.map_eq_some_iff] at h
          obtain ⟨⟨d, S1⟩, g1, g2⟩ := h
          subst g2
          exact sE_mk s e g1 fun ι1 H1 v x1 s1 r1 => q ι1 H1 _ x1 s1 ((e.ext x1).set r1 i)
        have hs : swapsWith (.ListComp elt' gs' scope pos') (some (.Name y py)) pos.line X.env = pure true := by
          rw [swlc hk, ok.sc]
          exact congrArg pure hsw
        have hl : X.env.scope.names.lookup y = some .local := by
          rw [ok.sc]
          simp only [swB, Bool.and_eq_true, decide_eq_true_eq] at hsw
          exact hsw.1.1
        cases d with
        | zero => simp [mE] at h2
        | succ d =>
          cases e with
          | comp fz own tg src ifs elt =>
            simp only [mE] at h2
            split at h2
            · rename_i elt2 tg' src' ifs' scope2 pos2 hh
              cases hh
              simp only [Bool.and_eq_true] at h2
              obtain ⟨⟨⟨⟨⟨h1, h0⟩, h2⟩, h3⟩, h4⟩, h5⟩ := h2
              obtain ⟨ihE, ihT⟩ := master (pr := pr) (k := k) (cal := cal) d
              obtain ⟨o1, o2, o3⟩ := own_ok ok h1
              have key := ps_setLc (X := X) (g := sG X.K tg) (tt := sT X.K (evTs (evT cal d) ifs)) (te := sE X.K (ev cal d elt)) ok.calm ok.nd no.hi hl hs (sr_ok (tg := tg) (tgx := tg') ok (ihE c X ok) h2) o2 (fun s H C cl fp => tg_ok (ok.blk scope s H C cl fp) h3)
                (fun s H C cl fp => tests_ok (fun t x h => (ihT _ _ (ok.blk scope s H C cl fp) t x h).1) h4) (fun s H C cl fp => ihE _ _ (ok.blk scope s H C cl fp) _ _ h5) (fsi h0 _)
              rw [o1] at key
              refine PS.imp key ?_
              rintro D σ H ⟨ι, env, S, r, s, e, h, q⟩
              rw [Option.map_eq_some_iff] at h
              obtain ⟨⟨dd, S1⟩, g1, g2⟩ := h
              subst g2
              exact lc_use (Q := fun v H1 => D.nx (σ.set i (some v)) H1) o3 ⟨ι, env, S, dd, S1, s, e, g1, fun ι1 H1 v x1 s1 r1 => q ι1 H1 _ x1 s1 ((e.ext x1).set r1 i)⟩
            · cases h2
          | _ => 
            simp only [mE] at h2
            revert h2
            first
              | (intro h2; simp [mVar] at h2; done)
              | (intro h2; simp [mCst] at h2; done)
              | (intro h2; simp [mGlob] at h2; done)
              | (intro h2; simp at h2; done)
      · cases h3
  · cases h
theorem masterS (d : Nat) : ∀ c X, CxOk pr k cal c X → PassesOwn (model X.prog X.w) X.A X.env X.xe → ∀ s x, mS pr d c s x = true → PS X x (sS X.K (ex cal d s)) := by
  induction d with
  | zero => intro c X ok hp s x h; simp [mS] at h
  | succ d ih =>
    intro c X ok hp s x h
    obtain ⟨ihE, ihT⟩ := master (pr := pr) (k := k) (cal := cal) d
    have IH := ihE c X ok
    have IHT := fun t x h => (ihT c X ok t x h).1
    have hu : X.A.units + 1 < cLine := hu_of ok.room
    have hnv : ∀ env S, ex cal d .never env S = none := by intro env S; cases d <;> rfl
    have IHS : ∀ {ss : List Sm} {xs : List Stmt}, mSs (mS pr d c) ss xs = true → PSs X xs (sS X.K (exs (ex cal d) ss)) := fun h => ss_ok hnv (ih c X ok hp) h
    cases s with
    | set i e =>
      simp only [mS] at h
      exact set_ok' ok h
    | unpack is e =>
      simp only [mS] at h
      split at h
      · simp only [Bool.and_eq_true] at h
        obtain ⟨⟨⟨h1, h2⟩, h3⟩, h4⟩ := h
        exact s_unpack (tg_ok ok h1) h2 (sw_none h3) rfl (IH _ _ h4)
      · cases h
    | setIx o ix v =>
      simp only [mS] at h
      split at h
      · simp only [Bool.and_eq_true] at h
        obtain ⟨⟨⟨⟨h1, h2'⟩, h3⟩, h4⟩, h5⟩ := h
        exact s_setIx hu h1 (IH _ _ h3) (IH _ _ h4) (IH _ _ h5) (asn_ok h2') rfl sw_noneS
      · cases h
    | aug i op e =>
      simp only [mS] at h
      split at h
      · simp only [Bool.and_eq_true, Bool.or_eq_true, decide_eq_true_eq] at h
        exact s_aug h.1.1 ok.nd (name_ok ok h.1.2) (IH _ _ h.2)
      · cases h
    | expr e =>
      simp only [mS] at h
      split at h
      · simp only [Bool.and_eq_true] at h
        exact s_expr h.1 (IH _ _ h.2)
      · cases h
    | ret e =>
      simp only [mS] at h
      split at h
      · exact s_ret (IH _ _ h)
      · cases h
    | retN =>
      simp only [mS] at h
      split at h
      · exact s_retN
      · cases h
    | ifs t a b =>
      simp only [mS] at h
      split at h
      · simp only [Bool.and_eq_true] at h
        exact s_if (IHT _ _ h.1.1) (IHS h.1.2) (IHS h.2)
      · cases h
    | for_ tg src body =>
      simp only [mS] at h
      split at h
      · simp only [Bool.and_eq_true] at h
        obtain ⟨⟨⟨h1, h2⟩, h3⟩, h4⟩ := h
        exact s_for hp ok.calm (sr_ok ok IH h3) (tg_ok ok h2) (IHS h4) h1
      · cases h
    | while_ t body =>
      simp only [mS] at h
      split at h
      · simp only [Bool.and_eq_true] at h
        exact s_while hp (IHT _ _ h.1) (IHS h.2)
      · cases h
    | never => exact s_never
    | pass =>
      simp only [mS] at h
      split at h
      · exact s_pass
      · exact s_doc
      · cases h
    | brk =>
      simp only [mS] at h
      split at h
      · exact s_brk
      · cases h
    | cont =>
      simp only [mS] at h
      split at h
      · exact s_cont
      · cases h
theorem bodyOk (d : Nat) {ss : List Sm} {xs : List Stmt} (ok : CxOk pr k cal c X) (hp : PassesOwn (model X.prog X.w) X.A X.env X.xe) (h : mSs (mS pr d c) ss xs = true) : PSs X xs (sS X.K (exs (ex cal d) ss)) :=
  ss_ok (by intro env S; cases d <;> rfl) (masterS d c X ok hp) h
end
end Tt
end

section
/-! Defs keep to their evaluation. -/
namespace Tt
open PySem PySem.Spec PyProof.Rows L2

/-! ### leaving a def -/
section
variable {K : PySem.W.Frag} {ι ι1 : Ad} {H H1 : Hp} {S S1 : Sto}
mutual
theorem cl_rep (x : Ext K ι H ι1 H1) {n : Nat} (hn : ι.r.length = n) : ∀ {d : D} {v : V}, clD n d = true → Rep K ι1 H1 d v → Rep K ι H1 d v
  | .non, v, _, h => by simp only [Rep] at h ⊢; exact h
  | .bl b, v, _, h => by simp only [Rep] at h ⊢; exact h
  | .int b, v, _, h => by simp only [Rep] at h ⊢; exact h
  | .str b, v, _, h => by simp only [Rep] at h ⊢; exact h
  | .tup l, v, c, h => by
    simp only [Rep, clD] at h c ⊢
    obtain ⟨a, vs, e, t, r⟩ := h
    exact ⟨a, vs, e, t, cl_reps x hn c r⟩
  | .fzl l, v, c, h => by
    simp only [Rep, clD] at h c ⊢
    obtain ⟨a, vs, e, t, r⟩ := h
    exact ⟨a, vs, e, t, cl_reps x hn c r⟩
  | .lst l, v, c, h => by
    simp only [Rep, clD] at h c ⊢
    obtain ⟨a, vs, e, t, g, r⟩ := h
    refine ⟨a, vs, e, t, ⟨fun z => g.1 ?_, fun z => g.2 (by rw [x.hid]; exact z)⟩, cl_reps x hn c r⟩
    obtain ⟨u, e⟩ := x.pre
    rw [e]; exact List.mem_append_left _ z
  | .ref i, v, c, h => by
    simp only [Rep, clD, decide_eq_true_eq] at h c ⊢
    obtain ⟨a, e, t⟩ := h
    refine ⟨a, e, ?_⟩
    obtain ⟨u, e2⟩ := x.pre
    rw [e2, List.getElem?_append_left (by omega)] at t
    exact t
theorem cl_reps (x : Ext K ι H ι1 H1) {n : Nat} (hn : ι.r.length = n) : ∀ {l : List D} {vs : List V}, clL n l = true → Reps K ι1 H1 l vs → Reps K ι H1 l vs
  | [], vs, _, h => by simp only [Reps] at h ⊢; exact h
  | d :: r, vs, c, h => by
    simp only [Reps, clL, Bool.and_eq_true] at h c ⊢
    obtain ⟨v, ws, e, h1, h2⟩ := h
    exact ⟨v, ws, e, cl_rep x hn c.1 h1, cl_reps x hn c.2 h2⟩
end
theorem cl_krep (x : Ext K ι H ι1 H1) {n : Nat} (hn : ι.r.length = n) : ∀ {l : List (Key × D)} {vs : List (Key × V)}, clL n (l.map (·.2)) = true → Krep K ι1 H1 l vs → Krep K ι H1 l vs
  | [], vs, _, h => by simp only [Krep] at h ⊢; exact h
  | d :: r, vs, c, h => by
    simp only [List.map_cons, Krep, clL, Bool.and_eq_true] at h c ⊢
    obtain ⟨v, ws, e, h1, h2⟩ := h
    exact ⟨v, ws, e, cl_rep x hn c.1 h1, cl_krep x hn c.2 h2⟩
theorem Ext.cut (x : Ext K ι H ι1 H1) : Ext K ι H ι H1 := ⟨⟨[], by simp⟩, rfl, fun a h n => absurd h n, x.tup, x.lst, x.dk, x.frz, x.keep⟩
theorem Sat.cut (x : Ext K ι H ι1 H1) (s0 : Sat K ι H S) (s : Sat K ι1 H1 S1) (hc : (S1.take S.length).all (clO S.length) = true) : Sat K ι H1 (S1.take S.length) := by
  have hn := s0.len
  obtain ⟨u, e⟩ := x.pre
  have hl : S.length ≤ S1.length := by have := s.len; rw [e, List.length_append] at this; omega
  refine ⟨by rw [List.length_take, hn]; omega, s0.nd, fun i o a h1 h2 => ?_, fun a h => ?_, s0.apart⟩
  · have hi : i < S.length := by rw [← hn]; exact (List.getElem?_eq_some_iff.mp h2).1
    have hm : o ∈ S1.take S.length := List.mem_of_getElem? h1
    have c := List.all_eq_true.mp hc o hm
    rw [List.getElem?_take_of_lt hi] at h1
    have h := s.at_ i o a h1 (x.get h2)
    cases o with
    | lst l => obtain ⟨vs, g, r⟩ := h; exact ⟨vs, g, cl_reps x hn c r⟩
    | dic l => obtain ⟨vs, g, r⟩ := h; exact ⟨vs, g, cl_krep x hn c r⟩
    | dead => trivial
  · refine s.there a (h.imp (fun z => ?_) fun z => by rw [x.hid]; exact z)
    rw [e]; exact List.mem_append_left _ z
theorem leave_rep (x : Ext K ι H ι1 H1) (s0 : Sat K ι H S) (s : Sat K ι1 H1 S1) {d d' : D} {v : V} (h : leave S1 S.length d = some d') (r : Rep K ι1 H1 d v) : Rep K ι H1 d' v := by
  unfold leave at h
  split at h
  · cases h; exact cl_rep x s0.len (by assumption) r
  · rename_i hc
    split at h
    · rename_i i
      split at h
      · rename_i l hl
        split at h
        · cases h
          obtain ⟨a, e, ha⟩ := rep_ref.mp r
          obtain ⟨vs, g, ru⟩ := s.at_ i _ a hl ha
          refine rep_lst.mpr ⟨a, vs, e, g, ⟨fun z => ?_, fun z => ?_⟩, cl_reps x s0.len (by assumption) ru⟩
          · obtain ⟨u, eu⟩ := x.pre
            obtain ⟨j, hj, ej⟩ := List.getElem_of_mem z
            have h1 : ι1.r[j]? = some a := x.get (by rw [List.getElem?_eq_getElem hj, ej])
            obtain ⟨l1, e1⟩ := List.getElem?_eq_some_iff.mp h1
            obtain ⟨l2, e2⟩ := List.getElem?_eq_some_iff.mp ha
            have hij : j = i := (List.getElem_inj s.nd).mp (e1.trans e2.symm)
            have := s0.len
            simp only [clD, decide_eq_true_eq] at hc
            omega
          · exact s.apart a (by rw [x.hid]; exact z) (List.mem_of_getElem? ha)
        · cases h
      · cases h
    · cases h
/-- the end of a def's body -/
theorem fin_use {df : Df} {d d' : D} {S' : Sto} {v : V} {Q : VK} (x : Ext K ι H ι1 H1) (s0 : Sat K ι H S) (s : Sat K ι1 H1 S1) (r : Rep K ι1 H1 d v) (h : fin df S.length d S1 = some (d', S'))
    (q : ∀ ι' H' v, Ext K ι H ι' H' → Sat K ι' H' S' → Rep K ι' H' d' v → Q v H') : Q v H1 := by
  unfold fin at h
  split at h
  · cases h; exact q ι1 H1 v x s r
  · simp only [Option.bind_eq_some_iff] at h
    obtain ⟨y, h1, h2⟩ := h
    split at h2
    · cases h2
      exact q ι H1 v x.cut (Sat.cut x s0 s (by assumption)) (leave_rep x s0 s h1 r)
    · cases h2
end

/-! ### a program's defs -/
structure DI where
  name : Str
  st : Stmt
  N : List Str
  ps : List Str
  df : Df
def scopeB (N ps : List Str) (sc : Scope) : Bool :=
  decide (sc.kind = .function) && !sc.isCoroutine && !sc.isGenerator && decide N.Nodup && decide (N.take ps.length = ps) &&
    (ps.all fun x => match sc.names.lookup x with | some .local => true | some .cell => true | _ => false) && sc.names.all fun y => decide (y.2 ≠ .free)
theorem scope_ok {N ps : List Str} {sc : Scope} (h : scopeB N ps sc = true) : FnScope N ps sc := by
  simp only [scopeB, Bool.and_eq_true, decide_eq_true_eq, Bool.not_eq_true', List.all_eq_true] at h
  obtain ⟨⟨⟨⟨⟨⟨h1, h2⟩, h3⟩, h4⟩, h5⟩, h6⟩, h7⟩ := h
  refine ⟨h1, h2, h3, h4, h5, fun x hx => ?_, h7⟩
  have := h6 x hx
  split at this <;> simp_all
def diB (pr : Pr) (di : DI) : Bool :=
  scopeB di.N di.ps (defScope di.st) && decide (di.df.ps = di.ps.length) && decide (di.df.n = di.N.length) && mSs (mS pr DP ⟨di.N, defScope di.st, none⟩) di.df.body (defBody di.st)
section
variable {P : Program} {w : World} {K : PySem.W.Frag} {mg : Str → Option Value} {base : Heap} {pr : Pr} {defs : List DI}
structure Facts (K : PySem.W.Frag) (mg : Str → Option Value) (pr : Pr) (defs : List DI) : Prop where
  fns : ∀ x j, pr.fns.lookup x = some j → ∃ di, defs[j]? = some di ∧ di.name = x
  fn : ∀ (j : Nat) di, defs[j]? = some di → ∃ f fd, mg di.name = some (.ref f) ∧ FunD K di.name di.name (defArgs di.st) (defBody di.st) (defScope di.st) [] [] f fd ∧ Binds K fd di.ps []
  gls : ∀ x d, pr.gls.lookup x = some d → ∃ u v, mg x = some u ∧ RelV v u ∧ ∀ ι H, Rep K ι H d v
  bls : ∀ x, x ∈ pr.bls → mg x = none
theorem sp_len {k j : Nat} {di : DI} (hB : diB pr di = true) (hd : defs[j]? = some di) (vs : List V) (H : Hp) (Q : VK) (E : XK) (h : spC K (calls (defs.map (·.df)) k) j vs H Q E) : vs.length = di.ps.length := by
  obtain ⟨ι, S, ds, d, S', s, r, h, q⟩ := h
  cases k with
  | zero => cases h
  | succ k =>
    simp only [calls, List.getElem?_map, hd, Option.map_some, run] at h
    split at h
    · rename_i hl
      simp only [diB, Bool.and_eq_true, decide_eq_true_eq] at hB
      rw [r.length, hl, hB.1.1.2]
    · cases h
/-- one def: its body keeps to its evaluation -/
theorem def_ok {k j : Nat} {di : DI} {f : Addr} {fd : FuncData} (F : Facts K mg pr defs) (hB : diB pr di = true) (hd : defs[j]? = some di)
    (D0 : FunD K di.name di.name (defArgs di.st) (defBody di.st) (defScope di.st) [] [] f fd)
    (IH : ∀ (j : Nat) di, defs[j]? = some di → ∃ f fd, mg di.name = some (.ref f) ∧ PySem.W.keepIn K (.ref f) = true ∧ Binds K fd di.ps [] ∧ FnOk P w K mg base CX0 k f fd di.ps (spC K (calls (defs.map (·.df)) k) j)) :
    FnOk P w K mg base CX0 (k + 1) f fd di.ps (spC K (calls (defs.map (·.df)) (k + 1)) j) := by
  have hB' := hB
  simp only [diB, Bool.and_eq_true, decide_eq_true_eq] at hB'
  obtain ⟨⟨⟨hS, h1⟩, h2⟩, h3⟩ := hB'
  have sc := scope_ok hS
  refine D0.ok sc (sp_len hB hd) fun cdv A outer s H vs Q E hr hsp => ?_
  have ok : CxOk pr k (calls (defs.map (·.df)) k) ⟨di.N, defScope di.st, none⟩ (cxOf CX0 P w K mg base di.N di.name (defScope di.st) f cdv A outer s H E).nox := by
    refine ⟨rfl, rfl, fun _ => rfl, rfl, sc.nd, hr, fun x j h => ?_, F.gls, F.bls⟩
    obtain ⟨di', g1, g2⟩ := F.fns x j h
    obtain ⟨f', fd', e1, e2, e3, e4⟩ := IH j di' g1
    exact ⟨f', fd', di'.ps, by rw [← g2]; exact e1, e2, e3, e4⟩
  refine ⟨_, PSs.nox (bodyOk DP ok PassesOwn.never h3), ?_⟩
  obtain ⟨ι, S, ds, d, S', s0, r, h, q⟩ := hsp
  simp only [calls, List.getElem?_map, hd, Option.map_some, run] at h
  split at h
  · rename_i hl
    have hlen : vs.length = ds.length := r.length
    have e0 : Eat K ι H (ds.map some ++ List.replicate (di.df.n - ds.length) none) (start di.N vs) := by
      refine ⟨by simp [L2.start, hlen, h2], fun i d hi => ?_⟩
      by_cases hlt : i < ds.length
      · rw [List.getElem?_append_left (by simpa using hlt), List.getElem?_map] at hi
        cases e : ds[i]? with
        | none => rw [e] at hi; cases hi
        | some y =>
          rw [e] at hi
          cases hi
          obtain ⟨v, g1, g2⟩ := r.get e
          refine ⟨v, ?_, g2⟩
          unfold L2.start
          rw [List.getElem?_append_left (by simp [hlen, hlt]), List.getElem?_map, g1]
          rfl
      · rw [List.getElem?_append_right (by simpa using Nat.le_of_not_lt hlt)] at hi
        obtain ⟨_, hi⟩ := List.getElem?_eq_some_iff.mp hi
        simp at hi
    split at h
    · rename_i dr env' S1 hx
      exact sS_mk s0 e0 hx fun ι1 H1 v x1 s1 r1 => fin_use x1 s0 s1 r1 h q
    · rename_i env' S1 hx
      exact sS_mk s0 e0 hx fun ι1 H1 σ1 x1 s1 _ => fin_use x1 s0 s1 (rep_non.mpr rfl) h q
    · cases h
  · cases h
theorem defs_ok (F : Facts K mg pr defs) (hB : defs.all (diB pr) = true) : ∀ (k j : Nat) di, defs[j]? = some di →
    ∃ f fd, mg di.name = some (.ref f) ∧ PySem.W.keepIn K (.ref f) = true ∧ Binds K fd di.ps [] ∧ FnOk P w K mg base CX0 k f fd di.ps (spC K (calls (defs.map (·.df)) k) j)
  | 0, j, di, hd => by
    obtain ⟨f, fd, e1, D0, e3⟩ := F.fn j di hd
    have hB' := List.all_eq_true.mp hB di (List.mem_of_getElem? hd)
    refine ⟨f, fd, e1, D0.kp, e3, ⟨sp_len hB' hd, fun A outer s H args us vs Q E _ _ _ _ h => ?_⟩⟩
    obtain ⟨ι, S, ds, d, S', s, r, h, q⟩ := h
    cases h
  | k + 1, j, di, hd => by
    obtain ⟨f, fd, e1, D0, e3⟩ := F.fn j di hd
    have hB' := List.all_eq_true.mp hB di (List.mem_of_getElem? hd)
    exact ⟨f, fd, e1, D0.kp, e3, def_ok F hB' hd D0 (defs_ok F hB k)⟩
/-- the law's promise -/
theorem law_sp {k j : Nat} {pg : List Df} {n : Nat} (hlaw : ∀ ns : List Int, ns.length ≤ n → ∃ S', calls pg k j [.fzl (ns.map .int)] [] = some (.bl true, S')) (H : Hp) (a : Addr) (ns : List Int) (hl : ns.length ≤ n) (hO : Only H) (hS : SqL K H a (ns.map V.int)) :
    spC K (calls pg k) j [.ref a] H (fun v _ => v = .bl true) fun _ _ _ => False := by
  obtain ⟨S', h⟩ := hlaw ns hl
  refine ⟨⟨[], []⟩, [], [.fzl (ns.map .int)], .bl true, S', ⟨rfl, List.nodup_nil, fun i o a h => by simp at h, fun a h => by simp at h, fun a h => by simp at h⟩, ?_, h, fun ι' H' v _ _ r => rep_bl.mp r⟩
  refine .cons (rep_fzl.mpr ⟨a, ns.map V.int, rfl, ?_, ?_⟩) .nil
  · rcases hS with (h | ⟨o, h⟩) | h
    · rcases hO a with z | ⟨o, xs, z⟩
      · rw [h] at z; cases z
      · rw [h] at z; cases z
    · exact .inl ⟨o, h⟩
    · exact .inr h
  · have : ∀ l : List Int, Reps K (⟨[], []⟩ : Ad) H (l.map D.int) (l.map V.int) := by
      intro l; induction l with
      | nil => exact .nil
      | cons a r ih => exact .cons (rep_int.mpr rfl) ih
    exact this ns
end
end Tt
end

section
/-! The program's defs as trees (printed by gen.py). -/
namespace Tt.P
open PySem L2 Tt
def top (i : Nat) : Stmt := PySem.Challenge.pw_termtide_k16_forms_of_automata.main.body.getD i (.Pass ⟨0, 0, 0, 0⟩)
/-- is_name -/
def b0 : List Sm := [
  .ifs (.or (.cmp .eq (.var 0) (.cst (.str ("" : Str)))) (.or (.cmp .gt (.blt true .len [(.var 0)]) (.glob ("MOST_LETTERS" : Str) (.int 8))) (.cmp .notIn (.ix (.var 0) (.cst (.int 0))) (.glob ("LETTERS" : Str) (.str ("abcdefghijklmnopqrstuvwxyzABCDEFGHIJKLMNOPQRSTUVWXYZ" : Str)))))) [
    .ret (.cst (.bl false))] [],
  .set 1 (.ite (.val (.meth .endswith (.var 0) [(.cst (.str ("#" : Str)))])) (.slice (.var 0) none (some (.neg (.cst (.int 1))))) (.var 0)),
  .ret (.blt true .all [(.comp true [2] (.one 2) (.seq (.var 1)) [] (.cmp .inn (.var 2) (.glob ("GOING_ON" : Str) (.str ("abcdefghijklmnopqrstuvwxyzABCDEFGHIJKLMNOPQRSTUVWXYZ0123456789_" : Str)))))])]
def d0 : DI := ⟨("is_name" : Str), top 5, [("word" : Str), ("body" : Str), ("character" : Str)], [("word" : Str)], ⟨1, 3, b0, false⟩⟩
/-- names_symbol -/
def b1 : List Sm := [
  .ret (.and (.call 0 [(.var 0)]) (.cmp .notIn (.ix (.var 0) (.cst (.int 0))) (.glob ("FIRST_VARIABLES" : Str) (.str ("uvwxyz" : Str)))))]
def d1 : DI := ⟨("names_symbol" : Str), top 6, [("word" : Str)], [("word" : Str)], ⟨1, 1, b1, false⟩⟩
/-- is_whole -/
def b2 : List Sm := [
  .ret (.and (.isi (.var 0) .int) (.and (.not (.isi (.var 0) .bool)) (.chain .le .le (.cst (.int 0)) (.var 0) (.var 1))))]
def d2 : DI := ⟨("is_whole" : Str), top 11, [("value" : Str), ("most" : Str)], [("value" : Str), ("most" : Str)], ⟨2, 2, b2, false⟩⟩
/-- is_signature -/
def b3 : List Sm := [
  .ifs (.or (.not (.val (.isi (.var 0) .tuple))) (.not (.chain .le .le (.cst (.int 1)) (.blt true .len [(.var 0)]) (.glob ("MOST_SYMBOLS" : Str) (.int 6))))) [
    .ret (.cst (.bl false))] [],
  .for_ (.one 1) (.seq (.var 0)) [
    .ifs (.or (.not (.val (.isi (.var 1) .tuple))) (.or (.cmp .ne (.blt true .len [(.var 1)]) (.cst (.int 2))) (.or (.not (.val (.isi (.ix (.var 1) (.cst (.int 0))) .str))) (.not (.val (.call 1 [(.ix (.var 1) (.cst (.int 0)))])))))) [
      .ret (.cst (.bl false))] [],
    .ifs (.or (.not (.val (.call 2 [(.ix (.var 1) (.cst (.int 1))), (.glob ("MOST_ARGUMENTS" : Str) (.int 3))]))) (.val (.meth .endswith (.ix (.var 1) (.cst (.int 0))) [(.cst (.str ("#" : Str)))]))) [
      .ret (.cst (.bl false))] []],
  .ret (.cmp .eq (.blt true .len [(.dcomp [1] (.one 1) (.seq (.var 0)) [] (.ix (.var 1) (.cst (.int 0))) (.cst (.bl true)))]) (.blt true .len [(.var 0)]))]
def d3 : DI := ⟨("is_signature" : Str), top 12, [("value" : Str), ("pair" : Str)], [("value" : Str)], ⟨1, 2, b3, false⟩⟩
/-- is_move -/
def b4 : List Sm := [
  .ifs (.or (.not (.val (.isi (.var 0) .tuple))) (.or (.cmp .ne (.blt true .len [(.var 0)]) (.cst (.int 3))) (.or (.not (.val (.isi (.ix (.var 0) (.cst (.int 0))) .str))) (.cmp .notIn (.ix (.var 0) (.cst (.int 0))) (.var 1))))) [
    .ret (.cst (.bl false))] [],
  .ifs (.or (.not (.val (.isi (.ix (.var 0) (.cst (.int 1))) .tuple))) (.cmp .ne (.blt true .len [(.ix (.var 0) (.cst (.int 1)))]) (.ix (.var 1) (.ix (.var 0) (.cst (.int 0)))))) [
    .ret (.cst (.bl false))] [],
  .ret (.blt true .all [(.comp true [3] (.one 3) (.seq (.bin .add (.ix (.var 0) (.cst (.int 1))) (.tup [(.ix (.var 0) (.cst (.int 2)))]))) [] (.call 2 [(.var 3), (.bin .sub (.var 2) (.cst (.int 1)))]))])]
def d4 : DI := ⟨("is_move" : Str), top 13, [("value" : Str), ("table" : Str), ("many" : Str), ("state" : Str)], [("value" : Str), ("table" : Str), ("many" : Str)], ⟨3, 4, b4, false⟩⟩
/-- is_automaton -/
def b5 : List Sm := [
  .ifs (.or (.not (.val (.isi (.var 1) .tuple))) (.or (.cmp .ne (.blt true .len [(.var 1)]) (.cst (.int 3))) (.not (.val (.call 2 [(.ix (.var 1) (.cst (.int 0))), (.glob ("MOST_SETS" : Str) (.int 400))]))))) [
    .ret (.cst (.bl false))] [],
  .unpack [3, 4, 5] (.var 1),
  .ifs (.or (.not (.val (.isi (.var 4) .tuple))) (.not (.val (.isi (.var 5) .tuple)))) [
    .ret (.cst (.bl false))] [],
  .set 2 (.blt true .dict [(.var 0)]),
  .ifs (.or (.not (.val (.blt true .all [(.comp true [7] (.one 7) (.seq (.var 5)) [] (.call 2 [(.var 7), (.bin .sub (.var 3) (.cst (.int 1)))]))]))) (.cmp .ne (.blt true .list [(.var 5)]) (.blt true .sorted [(.dcomp [8] (.one 8) (.seq (.var 5)) [] (.var 8) (.cst (.bl true)))]))) [
    .ret (.cst (.bl false))] [],
  .ret (.blt true .all [(.comp true [6] (.one 6) (.seq (.var 4)) [] (.call 4 [(.var 6), (.var 2), (.var 3)]))])]
def d5 : DI := ⟨("is_automaton" : Str), top 14, [("signature" : Str), ("value" : Str), ("table" : Str), ("many" : Str), ("moves" : Str), ("ends" : Str), ("move" : Str), ("state" : Str), ("end" : Str)], [("signature" : Str), ("value" : Str)], ⟨2, 9, b5, false⟩⟩
/-- _law_stream -/
def b6 : List Sm := [
  .set 1 (.cst (.int 17)),
  .for_ (.one 2) (.seq (.var 0)) [
    .set 1 (.bin .mod (.blt true .int [(.bin .add (.bin .add (.bin .mul (.var 1) (.cst (.int 48271))) (.bin .mod (.blt true .int [(.var 2)]) (.cst (.int 65521)))) (.cst (.int 1)))]) (.cst (.int 2147483647)))],
  .ret (.lst false [(.blt true .list [(.var 0)]), (.cst (.int 0)), (.cst (.int 0)), (.var 1)])]
def d6 : DI := ⟨("_law_stream" : Str), top 16, [("script" : Str), ("mixed" : Str), ("cell" : Str)], [("script" : Str)], ⟨1, 3, b6, true⟩⟩
/-- _law_draw -/
def b7 : List Sm := [
  .ifs (.and (.cmp .eq (.ix (.var 0) (.cst (.int 1))) (.cst (.int 0))) (.cmp .lt (.ix (.var 0) (.cst (.int 2))) (.blt true .len [(.ix (.var 0) (.cst (.int 0)))]))) [
    .setIx (.var 0) (.cst (.int 1)) (.blt true .abs [(.blt true .int [(.ix (.ix (.var 0) (.cst (.int 0))) (.ix (.var 0) (.cst (.int 2))))])]),
    .setIx (.var 0) (.cst (.int 2)) (.bin .add (.ix (.var 0) (.cst (.int 2))) (.cst (.int 1)))] [],
  .ifs (.cmp .eq (.ix (.var 0) (.cst (.int 1))) (.cst (.int 0))) [
    .setIx (.var 0) (.cst (.int 3)) (.bin .mod (.blt true .int [(.bin .add (.bin .mul (.ix (.var 0) (.cst (.int 3))) (.cst (.int 48271))) (.cst (.int 11)))]) (.cst (.int 2147483647))),
    .ret (.bin .mod (.blt true .int [(.bin .fdiv (.ix (.var 0) (.cst (.int 3))) (.cst (.int 97)))]) (.var 1))] [],
  .set 2 (.bin .mod (.blt true .int [(.ix (.var 0) (.cst (.int 1)))]) (.var 1)),
  .setIx (.var 0) (.cst (.int 1)) (.bin .fdiv (.ix (.var 0) (.cst (.int 1))) (.var 1)),
  .ret (.var 2)]
def d7 : DI := ⟨("_law_draw" : Str), top 17, [("stream" : Str), ("many" : Str), ("value" : Str)], [("stream" : Str), ("many" : Str)], ⟨2, 3, b7, false⟩⟩
/-- _law_pick -/
def b8 : List Sm := [
  .ret (.ix (.var 1) (.call 7 [(.var 0), (.blt true .len [(.var 1)])]))]
def d8 : DI := ⟨("_law_pick" : Str), top 18, [("stream" : Str), ("rows" : Str)], [("stream" : Str), ("rows" : Str)], ⟨2, 2, b8, false⟩⟩
/-- _law_same -/
def b9 : List Sm := [
  .ifs (.or (.val (.isi (.var 1) .tuple)) (.val (.isi (.var 1) .list))) [
    .ifs (.or (.cmp .ne (.isi (.var 0) .tuple) (.isi (.var 1) .tuple)) (.cmp .ne (.isi (.var 0) .list) (.isi (.var 1) .list))) [
      .ret (.cst (.bl false))] [],
    .ret (.and (.cmp .eq (.blt true .len [(.var 0)]) (.blt true .len [(.var 1)])) (.blt true .all [(.comp true [2] (.one 2) (.rng (.blt true .len [(.var 1)])) [] (.call 9 [(.ix (.var 0) (.var 2)), (.ix (.var 1) (.var 2))]))]))] [],
  .ifs (.cmp .isN (.var 1) (.cst .non)) [
    .ret (.cmp .isN (.var 0) (.cst .non))] [],
  .ifs (.val (.isi (.var 1) .str)) [
    .ret (.and (.isi (.var 0) .str) (.cmp .eq (.var 0) (.var 1)))] [],
  .ret (.and (.isi (.var 0) .int) (.and (.cmp .eq (.isi (.var 0) .bool) (.isi (.var 1) .bool)) (.cmp .eq (.var 0) (.var 1))))]
def d9 : DI := ⟨("_law_same" : Str), top 19, [("told" : Str), ("due" : Str), ("k" : Str)], [("told" : Str), ("due" : Str)], ⟨2, 3, b9, false⟩⟩
/-- _law_signature -/
def b10 : List Sm := [
  .set 1 (.lst false [(.tup [(.cst (.str ("a" : Str))), (.cst (.int 0))]), (.tup [(.cst (.str ("b" : Str))), (.cst (.int 0))]), (.tup [(.cst (.str ("f" : Str))), (.cst (.int 1))]), (.tup [(.cst (.str ("g" : Str))), (.cst (.int 2))]), (.tup [(.cst (.str ("h" : Str))), (.cst (.int 1))]), (.tup [(.cst (.str ("c" : Str))), (.cst (.int 0))])]),
  .set 2 (.lst false []),
  .for_ (.one 3) (.rng (.bin .add (.cst (.int 2)) (.call 7 [(.var 0), (.cst (.int 3))]))) [
    .expr (.meth .append (.var 2) [(.meth .pop (.var 1) [(.call 7 [(.var 0), (.blt true .len [(.var 1)])])])])],
  .ifs (.and (.cmp .gt (.call 7 [(.var 0), (.cst (.int 12))]) (.cst (.int 0))) (.not (.val (.blt true .any [(.comp true [4, 5] (.many [4, 5]) (.seq (.var 2)) [] (.cmp .eq (.var 5) (.cst (.int 0))))])))) [
    .setIx (.var 2) (.cst (.int 0)) (.tup [(.cst (.str ("a" : Str))), (.cst (.int 0))])] [],
  .ret (.blt true .tuple [(.var 2)])]
def d10 : DI := ⟨("_law_signature" : Str), top 20, [("stream" : Str), ("rows" : Str), ("found" : Str), ("k" : Str), ("symbol" : Str), ("many" : Str)], [("stream" : Str)], ⟨1, 6, b10, false⟩⟩
/-- _law_automaton -/
def b11 : List Sm := [
  .set 2 (.bin .add (.cst (.int 1)) (.call 7 [(.var 0), (.cst (.int 4))])),
  .set 3 (.lst false []),
  .for_ (.one 4) (.rng (.bin .add (.cst (.int 2)) (.call 7 [(.var 0), (.cst (.int 7))]))) [
    .unpack [5, 6] (.call 8 [(.var 0), (.var 1)]),
    .expr (.meth .append (.var 3) [(.tup [(.var 5), (.blt true .tuple [(.comp true [8] (.one 8) (.rng (.var 6)) [] (.call 7 [(.var 0), (.var 2)]))]), (.call 7 [(.var 0), (.var 2)])])])],
  .ret (.tup [(.var 2), (.blt true .tuple [(.var 3)]), (.blt true .tuple [(.comp true [7] (.one 7) (.rng (.var 2)) [(.cmp .eq (.call 7 [(.var 0), (.cst (.int 2))]) (.cst (.int 0)))] (.var 7))])])]
def d11 : DI := ⟨("_law_automaton" : Str), top 21, [("stream" : Str), ("signature" : Str), ("many" : Str), ("moves" : Str), ("k" : Str), ("symbol" : Str), ("arguments" : Str), ("state" : Str), ("j" : Str)], [("stream" : Str), ("signature" : Str)], ⟨2, 9, b11, false⟩⟩
/-- _law_is_number -/
def b12 : List Sm := [
  .ret (.and (.isi (.var 0) .int) (.and (.not (.isi (.var 0) .bool)) (.chain .le .le (.cst (.int 0)) (.var 0) (.var 1))))]
def d12 : DI := ⟨("_law_is_number" : Str), top 22, [("value" : Str), ("most" : Str)], [("value" : Str), ("most" : Str)], ⟨2, 2, b12, false⟩⟩
/-- _law_is_symbol -/
def b13 : List Sm := [
  .ifs (.or (.not (.val (.isi (.var 0) .str))) (.not (.chain .le .le (.cst (.int 1)) (.blt true .len [(.var 0)]) (.cst (.int 8))))) [
    .ret (.cst (.bl false))] [],
  .set 1 (.cst (.str ("abcdefghijklmnopqrstuvwxyzABCDEFGHIJKLMNOPQRSTUVWXYZ" : Str))),
  .ifs (.or (.cmp .notIn (.ix (.var 0) (.cst (.int 0))) (.var 1)) (.cmp .inn (.ix (.var 0) (.cst (.int 0))) (.cst (.str ("uvwxyz" : Str))))) [
    .ret (.cst (.bl false))] [],
  .ret (.blt true .all [(.comp true [2] (.one 2) (.seq (.var 0)) [] (.cmp .inn (.var 2) (.bin .add (.var 1) (.cst (.str ("0123456789_" : Str))))))])]
def d13 : DI := ⟨("_law_is_symbol" : Str), top 23, [("value" : Str), ("letters" : Str), ("sign" : Str)], [("value" : Str)], ⟨1, 3, b13, false⟩⟩
/-- _law_is_signature -/
def b14 : List Sm := [
  .ifs (.or (.not (.val (.isi (.var 0) .tuple))) (.not (.chain .le .le (.cst (.int 1)) (.blt true .len [(.var 0)]) (.cst (.int 6))))) [
    .ret (.cst (.bl false))] [],
  .for_ (.one 1) (.seq (.var 0)) [
    .ifs (.or (.not (.val (.isi (.var 1) .tuple))) (.or (.cmp .ne (.blt true .len [(.var 1)]) (.cst (.int 2))) (.or (.not (.val (.call 13 [(.ix (.var 1) (.cst (.int 0)))]))) (.not (.val (.call 12 [(.ix (.var 1) (.cst (.int 1))), (.cst (.int 3))])))))) [
      .ret (.cst (.bl false))] []],
  .set 2 (.comp true [1] (.one 1) (.seq (.var 0)) [] (.ix (.var 1) (.cst (.int 0)))),
  .ret (.blt true .all [(.comp true [3] (.one 3) (.seq (.var 2)) [] (.cmp .eq (.meth .count (.var 2) [(.var 3)]) (.cst (.int 1))))])]
def d14 : DI := ⟨("_law_is_signature" : Str), top 24, [("value" : Str), ("pair" : Str), ("names" : Str), ("name" : Str)], [("value" : Str)], ⟨1, 4, b14, false⟩⟩
/-- _law_is_automaton -/
def b15 : List Sm := [
  .ifs (.or (.not (.val (.isi (.var 1) .tuple))) (.or (.cmp .ne (.blt true .len [(.var 1)]) (.cst (.int 3))) (.not (.val (.call 12 [(.ix (.var 1) (.cst (.int 0))), (.cst (.int 400))]))))) [
    .ret (.cst (.bl false))] [],
  .unpack [4, 5, 6] (.var 1),
  .ifs (.or (.not (.val (.isi (.var 5) .tuple))) (.or (.not (.val (.isi (.var 6) .tuple))) (.not (.val (.blt true .all [(.comp true [8] (.one 8) (.seq (.var 6)) [] (.call 12 [(.var 8), (.bin .sub (.var 4) (.cst (.int 1)))]))]))))) [
    .ret (.cst (.bl false))] [],
  .ifs (.val (.blt true .any [(.comp true [7] (.one 7) (.rng2 (.cst (.int 1)) (.blt true .len [(.var 6)])) [] (.cmp .le (.ix (.var 6) (.var 7)) (.ix (.var 6) (.bin .sub (.var 7) (.cst (.int 1))))))])) [
    .ret (.cst (.bl false))] [],
  .set 2 (.blt true .dict [(.var 0)]),
  .for_ (.one 3) (.seq (.var 5)) [
    .ifs (.or (.not (.val (.isi (.var 3) .tuple))) (.or (.cmp .ne (.blt true .len [(.var 3)]) (.cst (.int 3))) (.or (.not (.val (.isi (.ix (.var 3) (.cst (.int 0))) .str))) (.cmp .notIn (.ix (.var 3) (.cst (.int 0))) (.var 2))))) [
      .ret (.cst (.bl false))] [],
    .ifs (.or (.not (.val (.isi (.ix (.var 3) (.cst (.int 1))) .tuple))) (.cmp .ne (.blt true .len [(.ix (.var 3) (.cst (.int 1)))]) (.ix (.var 2) (.ix (.var 3) (.cst (.int 0)))))) [
      .ret (.cst (.bl false))] [],
    .ifs (.not (.val (.blt true .all [(.comp true [8] (.one 8) (.seq (.bin .add (.ix (.var 3) (.cst (.int 1))) (.tup [(.ix (.var 3) (.cst (.int 2)))]))) [] (.call 12 [(.var 8), (.bin .sub (.var 4) (.cst (.int 1)))]))]))) [
      .ret (.cst (.bl false))] []],
  .ret (.cst (.bl true))]
def d15 : DI := ⟨("_law_is_automaton" : Str), top 25, [("signature" : Str), ("value" : Str), ("table" : Str), ("move" : Str), ("many" : Str), ("moves" : Str), ("ends" : Str), ("k" : Str), ("state" : Str)], [("signature" : Str), ("value" : Str)], ⟨2, 9, b15, false⟩⟩
/-- _law_changed -/
def b16 : List Sm := [
  .set 2 (.lst true [(.cst .non), (.cst (.bl true)), (.cst (.int 0)), (.cst (.int 3)), (.cst (.int 4)), (.neg (.cst (.int 1))), (.cst (.int 400)), (.cst (.int 401)), (.cst (.str ("a" : Str))), (.cst (.str ("x1" : Str))), (.cst (.str ("zz" : Str))), (.cst (.str ("" : Str))), (.cst (.str ("A_1" : Str))), (.cst (.str ("a1234567" : Str))), (.cst (.str ("a12345678" : Str))), (.cst (.str ("9" : Str))), (.cst (.str ("a#" : Str))), (.tup []), (.tup [(.cst (.int 0))]), (.lst true []), (.cst (.str ("f" : Str))), (.tup [(.cst (.str ("a" : Str))), (.cst (.int 0))])]),
  .set 3 (.call 7 [(.var 0), (.bin .add (.blt true .len [(.var 1)]) (.cst (.int 1)))]),
  .ifs (.cmp .eq (.var 3) (.blt true .len [(.var 1)])) [
    .ret (.call 8 [(.var 0), (.lst true [(.bin .add (.var 1) (.tup [(.call 8 [(.var 0), (.var 2)])])), (.slice (.var 1) none (some (.bin .sub (.blt true .len [(.var 1)]) (.cst (.int 1))))), (.blt true .list [(.var 1)]), (.bin .add (.var 1) (.var 1))])])] [],
  .set 4 (.ix (.var 1) (.var 3)),
  .ifs (.and (.val (.isi (.var 4) .tuple)) (.and (.cmp .ne (.var 4) (.tup [])) (.cmp .gt (.call 7 [(.var 0), (.cst (.int 4))]) (.cst (.int 0))))) [
    .set 4 (.call 16 [(.var 0), (.var 4)])] [
    .set 4 (.call 8 [(.var 0), (.var 2)])],
  .ret (.bin .add (.bin .add (.slice (.var 1) none (some (.var 3))) (.tup [(.var 4)])) (.slice (.var 1) (some (.bin .add (.var 3) (.cst (.int 1)))) none))]
def d16 : DI := ⟨("_law_changed" : Str), top 26, [("stream" : Str), ("value" : Str), ("odd" : Str), ("at" : Str), ("part" : Str)], [("stream" : Str), ("value" : Str)], ⟨2, 5, b16, false⟩⟩
/-- law -/
def b17 : List Sm := [
  .set 1 (.call 6 [(.var 0)]),
  .set 2 (.call 10 [(.var 1)]),
  .set 3 (.call 11 [(.var 1), (.var 2)]),
  .ifs (.or (.not (.val (.call 9 [(.call 3 [(.var 2)]), (.cst (.bl true))]))) (.not (.val (.call 9 [(.call 5 [(.var 2), (.var 3)]), (.cst (.bl true))])))) [
    .ret (.cst (.bl false))] [],
  .ifs (.cmp .eq (.call 7 [(.var 1), (.cst (.int 2))]) (.cst (.int 0))) [
    .set 4 (.call 16 [(.var 1), (.var 2)]),
    .ret (.call 9 [(.call 3 [(.var 4)]), (.call 14 [(.var 4)])])] [],
  .set 4 (.call 16 [(.var 1), (.var 3)]),
  .ret (.call 9 [(.call 5 [(.var 2), (.var 4)]), (.call 15 [(.var 2), (.var 4)])])]
def d17 : DI := ⟨("law" : Str), top 27, [("script" : Str), ("stream" : Str), ("signature" : Str), ("automaton" : Str), ("value" : Str)], [("script" : Str)], ⟨1, 5, b17, false⟩⟩
def defs : List DI := [d0, d1, d2, d3, d4, d5, d6, d7, d8, d9, d10, d11, d12, d13, d14, d15, d16, d17]
def pr : Pr := ⟨[(("is_name" : Str), 0), (("names_symbol" : Str), 1), (("is_whole" : Str), 2), (("is_signature" : Str), 3), (("is_move" : Str), 4), (("is_automaton" : Str), 5), (("_law_stream" : Str), 6), (("_law_draw" : Str), 7), (("_law_pick" : Str), 8), (("_law_same" : Str), 9), (("_law_signature" : Str), 10), (("_law_automaton" : Str), 11), (("_law_is_number" : Str), 12), (("_law_is_symbol" : Str), 13), (("_law_is_signature" : Str), 14), (("_law_is_automaton" : Str), 15), (("_law_changed" : Str), 16), (("law" : Str), 17)], [(("LETTERS" : Str), (.str ("abcdefghijklmnopqrstuvwxyzABCDEFGHIJKLMNOPQRSTUVWXYZ" : Str))), (("GOING_ON" : Str), (.str ("abcdefghijklmnopqrstuvwxyzABCDEFGHIJKLMNOPQRSTUVWXYZ0123456789_" : Str))), (("FIRST_VARIABLES" : Str), (.str ("uvwxyz" : Str))), (("MOST_LETTERS" : Str), (.int 8)), (("MOST_SYMBOLS" : Str), (.int 6)), (("MOST_ARGUMENTS" : Str), (.int 3)), (("MOST_SETS" : Str), (.int 400))], [("abs" : Str), ("all" : Str), ("any" : Str), ("bool" : Str), ("dict" : Str), ("int" : Str), ("isinstance" : Str), ("len" : Str), ("list" : Str), ("range" : Str), ("sorted" : Str), ("str" : Str), ("tuple" : Str)]⟩
theorem k0 : diB pr d0 = true := by decide +kernel
theorem k1 : diB pr d1 = true := by decide +kernel
theorem k2 : diB pr d2 = true := by decide +kernel
theorem k3 : diB pr d3 = true := by decide +kernel
theorem k4 : diB pr d4 = true := by decide +kernel
theorem k5 : diB pr d5 = true := by decide +kernel
theorem k6 : diB pr d6 = true := by decide +kernel
theorem k7 : diB pr d7 = true := by decide +kernel
theorem k8 : diB pr d8 = true := by decide +kernel
theorem k9 : diB pr d9 = true := by decide +kernel
theorem k10 : diB pr d10 = true := by decide +kernel
theorem k11 : diB pr d11 = true := by decide +kernel
theorem k12 : diB pr d12 = true := by decide +kernel
theorem k13 : diB pr d13 = true := by decide +kernel
theorem k14 : diB pr d14 = true := by decide +kernel
theorem k15 : diB pr d15 = true := by decide +kernel
theorem k16 : diB pr d16 = true := by decide +kernel
theorem k17 : diB pr d17 = true := by decide +kernel
theorem kAll : defs.all (diB pr) = true := by
  simp only [defs, List.all_cons, List.all_nil, k0, k1, k2, k3, k4, k5, k6, k7, k8, k9, k10, k11, k12, k13, k14, k15, k16, k17, Bool.and_self]
abbrev pg : List Df := defs.map (·.df)
open He in
def fn : List DefD := defs.map fun d => ⟨(d.name, none), d.name, d.name, defArgs d.st, defBody d.st, defScope d.st, [], []⟩
open He in
def fa : List Fa := [.glo ("is_name" : Str), .glo ("names_symbol" : Str), .glo ("is_whole" : Str), .glo ("is_signature" : Str), .glo ("is_move" : Str), .glo ("is_automaton" : Str), .glo ("_law_stream" : Str), .glo ("_law_draw" : Str), .glo ("_law_pick" : Str), .glo ("_law_same" : Str), .glo ("_law_signature" : Str), .glo ("_law_automaton" : Str), .glo ("_law_is_number" : Str), .glo ("_law_is_symbol" : Str), .glo ("_law_is_signature" : Str), .glo ("_law_is_automaton" : Str), .glo ("_law_changed" : Str), .glo ("law" : Str), .str ("LETTERS" : Str) ("abcdefghijklmnopqrstuvwxyzABCDEFGHIJKLMNOPQRSTUVWXYZ" : Str), .str ("GOING_ON" : Str) ("abcdefghijklmnopqrstuvwxyzABCDEFGHIJKLMNOPQRSTUVWXYZ0123456789_" : Str), .str ("FIRST_VARIABLES" : Str) ("uvwxyz" : Str), .int ("MOST_LETTERS" : Str) 8, .int ("MOST_SYMBOLS" : Str) 6, .int ("MOST_ARGUMENTS" : Str) 3, .int ("MOST_SETS" : Str) 400, .free ("abs" : Str), .free ("all" : Str), .free ("any" : Str), .free ("bool" : Str), .free ("dict" : Str), .free ("int" : Str), .free ("isinstance" : Str), .free ("len" : Str), .free ("list" : Str), .free ("range" : Str), .free ("sorted" : Str), .free ("str" : Str), .free ("tuple" : Str)]
section
variable {K : PySem.W.Frag} {mg : Str → Option Value} {h : Heap}
theorem bi0 {f : Addr} {fd : FuncData} (F : FunD K d0.name d0.name (defArgs d0.st) (defBody d0.st) (defScope d0.st) [] [] f fd) : Binds K fd d0.ps [] :=
  FunD.bindsN F fun _ _ _ _ _ _ us hl => match us, hl with | [_], _ => rfl
theorem bi1 {f : Addr} {fd : FuncData} (F : FunD K d1.name d1.name (defArgs d1.st) (defBody d1.st) (defScope d1.st) [] [] f fd) : Binds K fd d1.ps [] :=
  FunD.bindsN F fun _ _ _ _ _ _ us hl => match us, hl with | [_], _ => rfl
theorem bi2 {f : Addr} {fd : FuncData} (F : FunD K d2.name d2.name (defArgs d2.st) (defBody d2.st) (defScope d2.st) [] [] f fd) : Binds K fd d2.ps [] :=
  FunD.bindsN F fun _ _ _ _ _ _ us hl => match us, hl with | [_, _], _ => rfl
theorem bi3 {f : Addr} {fd : FuncData} (F : FunD K d3.name d3.name (defArgs d3.st) (defBody d3.st) (defScope d3.st) [] [] f fd) : Binds K fd d3.ps [] :=
  FunD.bindsN F fun _ _ _ _ _ _ us hl => match us, hl with | [_], _ => rfl
theorem bi4 {f : Addr} {fd : FuncData} (F : FunD K d4.name d4.name (defArgs d4.st) (defBody d4.st) (defScope d4.st) [] [] f fd) : Binds K fd d4.ps [] :=
  FunD.bindsN F fun _ _ _ _ _ _ us hl => match us, hl with | [_, _, _], _ => rfl
theorem bi5 {f : Addr} {fd : FuncData} (F : FunD K d5.name d5.name (defArgs d5.st) (defBody d5.st) (defScope d5.st) [] [] f fd) : Binds K fd d5.ps [] :=
  FunD.bindsN F fun _ _ _ _ _ _ us hl => match us, hl with | [_, _], _ => rfl
theorem bi6 {f : Addr} {fd : FuncData} (F : FunD K d6.name d6.name (defArgs d6.st) (defBody d6.st) (defScope d6.st) [] [] f fd) : Binds K fd d6.ps [] :=
  FunD.bindsN F fun _ _ _ _ _ _ us hl => match us, hl with | [_], _ => rfl
theorem bi7 {f : Addr} {fd : FuncData} (F : FunD K d7.name d7.name (defArgs d7.st) (defBody d7.st) (defScope d7.st) [] [] f fd) : Binds K fd d7.ps [] :=
  FunD.bindsN F fun _ _ _ _ _ _ us hl => match us, hl with | [_, _], _ => rfl
theorem bi8 {f : Addr} {fd : FuncData} (F : FunD K d8.name d8.name (defArgs d8.st) (defBody d8.st) (defScope d8.st) [] [] f fd) : Binds K fd d8.ps [] :=
  FunD.bindsN F fun _ _ _ _ _ _ us hl => match us, hl with | [_, _], _ => rfl
theorem bi9 {f : Addr} {fd : FuncData} (F : FunD K d9.name d9.name (defArgs d9.st) (defBody d9.st) (defScope d9.st) [] [] f fd) : Binds K fd d9.ps [] :=
  FunD.bindsN F fun _ _ _ _ _ _ us hl => match us, hl with | [_, _], _ => rfl
theorem bi10 {f : Addr} {fd : FuncData} (F : FunD K d10.name d10.name (defArgs d10.st) (defBody d10.st) (defScope d10.st) [] [] f fd) : Binds K fd d10.ps [] :=
  FunD.bindsN F fun _ _ _ _ _ _ us hl => match us, hl with | [_], _ => rfl
theorem bi11 {f : Addr} {fd : FuncData} (F : FunD K d11.name d11.name (defArgs d11.st) (defBody d11.st) (defScope d11.st) [] [] f fd) : Binds K fd d11.ps [] :=
  FunD.bindsN F fun _ _ _ _ _ _ us hl => match us, hl with | [_, _], _ => rfl
theorem bi12 {f : Addr} {fd : FuncData} (F : FunD K d12.name d12.name (defArgs d12.st) (defBody d12.st) (defScope d12.st) [] [] f fd) : Binds K fd d12.ps [] :=
  FunD.bindsN F fun _ _ _ _ _ _ us hl => match us, hl with | [_, _], _ => rfl
theorem bi13 {f : Addr} {fd : FuncData} (F : FunD K d13.name d13.name (defArgs d13.st) (defBody d13.st) (defScope d13.st) [] [] f fd) : Binds K fd d13.ps [] :=
  FunD.bindsN F fun _ _ _ _ _ _ us hl => match us, hl with | [_], _ => rfl
theorem bi14 {f : Addr} {fd : FuncData} (F : FunD K d14.name d14.name (defArgs d14.st) (defBody d14.st) (defScope d14.st) [] [] f fd) : Binds K fd d14.ps [] :=
  FunD.bindsN F fun _ _ _ _ _ _ us hl => match us, hl with | [_], _ => rfl
theorem bi15 {f : Addr} {fd : FuncData} (F : FunD K d15.name d15.name (defArgs d15.st) (defBody d15.st) (defScope d15.st) [] [] f fd) : Binds K fd d15.ps [] :=
  FunD.bindsN F fun _ _ _ _ _ _ us hl => match us, hl with | [_, _], _ => rfl
theorem bi16 {f : Addr} {fd : FuncData} (F : FunD K d16.name d16.name (defArgs d16.st) (defBody d16.st) (defScope d16.st) [] [] f fd) : Binds K fd d16.ps [] :=
  FunD.bindsN F fun _ _ _ _ _ _ us hl => match us, hl with | [_, _], _ => rfl
theorem bi17 {f : Addr} {fd : FuncData} (F : FunD K d17.name d17.name (defArgs d17.st) (defBody d17.st) (defScope d17.st) [] [] f fd) : Binds K fd d17.ps [] :=
  FunD.bindsN F fun _ _ _ _ _ _ us hl => match us, hl with | [_], _ => rfl
theorem facts (X : K.In h) (G : h.Ns mainGlobals mg) (c : He.SaysD fa fn K) : Facts K mg pr defs := by
  refine ⟨fun x j e => ?_, fun j di e => ?_, fun x d e => ?_, fun x e => ?_⟩
  · have e := PySem.mem_of_lookup e
    simp only [pr, List.mem_cons, Prod.mk.injEq, List.not_mem_nil, or_false] at e
    rcases e with ⟨rfl, rfl⟩ | ⟨rfl, rfl⟩ | ⟨rfl, rfl⟩ | ⟨rfl, rfl⟩ | ⟨rfl, rfl⟩ | ⟨rfl, rfl⟩ | ⟨rfl, rfl⟩ | ⟨rfl, rfl⟩ | ⟨rfl, rfl⟩ | ⟨rfl, rfl⟩ | ⟨rfl, rfl⟩ | ⟨rfl, rfl⟩ | ⟨rfl, rfl⟩ | ⟨rfl, rfl⟩ | ⟨rfl, rfl⟩ | ⟨rfl, rfl⟩ | ⟨rfl, rfl⟩ | ⟨rfl, rfl⟩
    all_goals exact ⟨_, rfl, rfl⟩
  · have key : ∀ (j : Nat) (hj : j < 18), ∀ di, defs[j]? = some di → ∃ f fd, mg di.name = some (.ref f) ∧ FunD K di.name di.name (defArgs di.st) (defBody di.st) (defScope di.st) [] [] f fd ∧ Binds K fd di.ps [] := by
      intro j hj di e
      match j, hj with
      | 0, _ =>
        cases e
        obtain ⟨fd, F⟩ := c.def_ 0 (d := ⟨(d0.name, none), d0.name, d0.name, defArgs d0.st, defBody d0.st, defScope d0.st, [], []⟩) rfl
        exact ⟨_, fd, He.glo_ok X G (c.fact 0 (f := .glo d0.name) rfl), F, bi0 F⟩
      | 1, _ =>
        cases e
        obtain ⟨fd, F⟩ := c.def_ 1 (d := ⟨(d1.name, none), d1.name, d1.name, defArgs d1.st, defBody d1.st, defScope d1.st, [], []⟩) rfl
        exact ⟨_, fd, He.glo_ok X G (c.fact 1 (f := .glo d1.name) rfl), F, bi1 F⟩
      | 2, _ =>
        cases e
        obtain ⟨fd, F⟩ := c.def_ 2 (d := ⟨(d2.name, none), d2.name, d2.name, defArgs d2.st, defBody d2.st, defScope d2.st, [], []⟩) rfl
        exact ⟨_, fd, He.glo_ok X G (c.fact 2 (f := .glo d2.name) rfl), F, bi2 F⟩
      | 3, _ =>
        cases e
        obtain ⟨fd, F⟩ := c.def_ 3 (d := ⟨(d3.name, none), d3.name, d3.name, defArgs d3.st, defBody d3.st, defScope d3.st, [], []⟩) rfl
        exact ⟨_, fd, He.glo_ok X G (c.fact 3 (f := .glo d3.name) rfl), F, bi3 F⟩
      | 4, _ =>
        cases e
        obtain ⟨fd, F⟩ := c.def_ 4 (d := ⟨(d4.name, none), d4.name, d4.name, defArgs d4.st, defBody d4.st, defScope d4.st, [], []⟩) rfl
        exact ⟨_, fd, He.glo_ok X G (c.fact 4 (f := .glo d4.name) rfl), F, bi4 F⟩
      | 5, _ =>
        cases e
        obtain ⟨fd, F⟩ := c.def_ 5 (d := ⟨(d5.name, none), d5.name, d5.name, defArgs d5.st, defBody d5.st, defScope d5.st, [], []⟩) rfl
        exact ⟨_, fd, He.glo_ok X G (c.fact 5 (f := .glo d5.name) rfl), F, bi5 F⟩
      | 6, _ =>
        cases e
        obtain ⟨fd, F⟩ := c.def_ 6 (d := ⟨(d6.name, none), d6.name, d6.name, defArgs d6.st, defBody d6.st, defScope d6.st, [], []⟩) rfl
        exact ⟨_, fd, He.glo_ok X G (c.fact 6 (f := .glo d6.name) rfl), F, bi6 F⟩
      | 7, _ =>
        cases e
        obtain ⟨fd, F⟩ := c.def_ 7 (d := ⟨(d7.name, none), d7.name, d7.name, defArgs d7.st, defBody d7.st, defScope d7.st, [], []⟩) rfl
        exact ⟨_, fd, He.glo_ok X G (c.fact 7 (f := .glo d7.name) rfl), F, bi7 F⟩
      | 8, _ =>
        cases e
        obtain ⟨fd, F⟩ := c.def_ 8 (d := ⟨(d8.name, none), d8.name, d8.name, defArgs d8.st, defBody d8.st, defScope d8.st, [], []⟩) rfl
        exact ⟨_, fd, He.glo_ok X G (c.fact 8 (f := .glo d8.name) rfl), F, bi8 F⟩
      | 9, _ =>
        cases e
        obtain ⟨fd, F⟩ := c.def_ 9 (d := ⟨(d9.name, none), d9.name, d9.name, defArgs d9.st, defBody d9.st, defScope d9.st, [], []⟩) rfl
        exact ⟨_, fd, He.glo_ok X G (c.fact 9 (f := .glo d9.name) rfl), F, bi9 F⟩
      | 10, _ =>
        cases e
        obtain ⟨fd, F⟩ := c.def_ 10 (d := ⟨(d10.name, none), d10.name, d10.name, defArgs d10.st, defBody d10.st, defScope d10.st, [], []⟩) rfl
        exact ⟨_, fd, He.glo_ok X G (c.fact 10 (f := .glo d10.name) rfl), F, bi10 F⟩
      | 11, _ =>
        cases e
        obtain ⟨fd, F⟩ := c.def_ 11 (d := ⟨(d11.name, none), d11.name, d11.name, defArgs d11.st, defBody d11.st, defScope d11.st, [], []⟩) rfl
        exact ⟨_, fd, He.glo_ok X G (c.fact 11 (f := .glo d11.name) rfl), F, bi11 F⟩
      | 12, _ =>
        cases e
        obtain ⟨fd, F⟩ := c.def_ 12 (d := ⟨(d12.name, none), d12.name, d12.name, defArgs d12.st, defBody d12.st, defScope d12.st, [], []⟩) rfl
        exact ⟨_, fd, He.glo_ok X G (c.fact 12 (f := .glo d12.name) rfl), F, bi12 F⟩
      | 13, _ =>
        cases e
        obtain ⟨fd, F⟩ := c.def_ 13 (d := ⟨(d13.name, none), d13.name, d13.name, defArgs d13.st, defBody d13.st, defScope d13.st, [], []⟩) rfl
        exact ⟨_, fd, He.glo_ok X G (c.fact 13 (f := .glo d13.name) rfl), F, bi13 F⟩
      | 14, _ =>
        cases e
        obtain ⟨fd, F⟩ := c.def_ 14 (d := ⟨(d14.name, none), d14.name, d14.name, defArgs d14.st, defBody d14.st, defScope d14.st, [], []⟩) rfl
        exact ⟨_, fd, He.glo_ok X G (c.fact 14 (f := .glo d14.name) rfl), F, bi14 F⟩
      | 15, _ =>
        cases e
        obtain ⟨fd, F⟩ := c.def_ 15 (d := ⟨(d15.name, none), d15.name, d15.name, defArgs d15.st, defBody d15.st, defScope d15.st, [], []⟩) rfl
        exact ⟨_, fd, He.glo_ok X G (c.fact 15 (f := .glo d15.name) rfl), F, bi15 F⟩
      | 16, _ =>
        cases e
        obtain ⟨fd, F⟩ := c.def_ 16 (d := ⟨(d16.name, none), d16.name, d16.name, defArgs d16.st, defBody d16.st, defScope d16.st, [], []⟩) rfl
        exact ⟨_, fd, He.glo_ok X G (c.fact 16 (f := .glo d16.name) rfl), F, bi16 F⟩
      | 17, _ =>
        cases e
        obtain ⟨fd, F⟩ := c.def_ 17 (d := ⟨(d17.name, none), d17.name, d17.name, defArgs d17.st, defBody d17.st, defScope d17.st, [], []⟩) rfl
        exact ⟨_, fd, He.glo_ok X G (c.fact 17 (f := .glo d17.name) rfl), F, bi17 F⟩
    exact key j (List.getElem?_eq_some_iff.mp e).1 di e
  · have e := PySem.mem_of_lookup e
    simp only [pr, List.mem_cons, Prod.mk.injEq, List.not_mem_nil, or_false] at e
    rcases e with ⟨rfl, rfl⟩ | ⟨rfl, rfl⟩ | ⟨rfl, rfl⟩ | ⟨rfl, rfl⟩ | ⟨rfl, rfl⟩ | ⟨rfl, rfl⟩ | ⟨rfl, rfl⟩
    · obtain ⟨t, e⟩ := He.str_ok X G (c.fact 18 (f := .str ("LETTERS" : Str) ("abcdefghijklmnopqrstuvwxyzABCDEFGHIJKLMNOPQRSTUVWXYZ" : Str)) rfl)
      exact ⟨_, .str ("abcdefghijklmnopqrstuvwxyzABCDEFGHIJKLMNOPQRSTUVWXYZ" : Str), e, ⟨t, rfl⟩, fun _ _ => rep_str.mpr rfl⟩
    · obtain ⟨t, e⟩ := He.str_ok X G (c.fact 19 (f := .str ("GOING_ON" : Str) ("abcdefghijklmnopqrstuvwxyzABCDEFGHIJKLMNOPQRSTUVWXYZ0123456789_" : Str)) rfl)
      exact ⟨_, .str ("abcdefghijklmnopqrstuvwxyzABCDEFGHIJKLMNOPQRSTUVWXYZ0123456789_" : Str), e, ⟨t, rfl⟩, fun _ _ => rep_str.mpr rfl⟩
    · obtain ⟨t, e⟩ := He.str_ok X G (c.fact 20 (f := .str ("FIRST_VARIABLES" : Str) ("uvwxyz" : Str)) rfl)
      exact ⟨_, .str ("uvwxyz" : Str), e, ⟨t, rfl⟩, fun _ _ => rep_str.mpr rfl⟩
    · obtain ⟨t, e⟩ := He.int_ok X G (c.fact 21 (f := .int ("MOST_LETTERS" : Str) 8) rfl)
      exact ⟨_, .int 8, e, ⟨t, rfl⟩, fun _ _ => rep_int.mpr rfl⟩
    · obtain ⟨t, e⟩ := He.int_ok X G (c.fact 22 (f := .int ("MOST_SYMBOLS" : Str) 6) rfl)
      exact ⟨_, .int 6, e, ⟨t, rfl⟩, fun _ _ => rep_int.mpr rfl⟩
    · obtain ⟨t, e⟩ := He.int_ok X G (c.fact 23 (f := .int ("MOST_ARGUMENTS" : Str) 3) rfl)
      exact ⟨_, .int 3, e, ⟨t, rfl⟩, fun _ _ => rep_int.mpr rfl⟩
    · obtain ⟨t, e⟩ := He.int_ok X G (c.fact 24 (f := .int ("MOST_SETS" : Str) 400) rfl)
      exact ⟨_, .int 400, e, ⟨t, rfl⟩, fun _ _ => rep_int.mpr rfl⟩
  · simp only [pr, List.mem_cons, List.not_mem_nil, or_false] at e
    rcases e with rfl | rfl | rfl | rfl | rfl | rfl | rfl | rfl | rfl | rfl | rfl | rfl | rfl
    · exact He.free_ok X G (c.fact 25 (f := .free ("abs" : Str)) rfl)
    · exact He.free_ok X G (c.fact 26 (f := .free ("all" : Str)) rfl)
    · exact He.free_ok X G (c.fact 27 (f := .free ("any" : Str)) rfl)
    · exact He.free_ok X G (c.fact 28 (f := .free ("bool" : Str)) rfl)
    · exact He.free_ok X G (c.fact 29 (f := .free ("dict" : Str)) rfl)
    · exact He.free_ok X G (c.fact 30 (f := .free ("int" : Str)) rfl)
    · exact He.free_ok X G (c.fact 31 (f := .free ("isinstance" : Str)) rfl)
    · exact He.free_ok X G (c.fact 32 (f := .free ("len" : Str)) rfl)
    · exact He.free_ok X G (c.fact 33 (f := .free ("list" : Str)) rfl)
    · exact He.free_ok X G (c.fact 34 (f := .free ("range" : Str)) rfl)
    · exact He.free_ok X G (c.fact 35 (f := .free ("sorted" : Str)) rfl)
    · exact He.free_ok X G (c.fact 36 (f := .free ("str" : Str)) rfl)
    · exact He.free_ok X G (c.fact 37 (f := .free ("tuple" : Str)) rfl)
end
def names0 : List PySem.Str := [("LETTERS" : Str), ("GOING_ON" : Str), ("FIRST_VARIABLES" : Str), ("MOST_LETTERS" : Str), ("MOST_SYMBOLS" : Str), ("MOST_ARGUMENTS" : Str), ("MOST_SETS" : Str), ("is_name" : Str), ("names_symbol" : Str), ("is_whole" : Str), ("is_signature" : Str), ("is_move" : Str), ("is_automaton" : Str), ("_law_stream" : Str), ("_law_draw" : Str), ("_law_pick" : Str), ("_law_same" : Str), ("_law_signature" : Str), ("_law_automaton" : Str), ("_law_is_number" : Str), ("_law_is_symbol" : Str), ("_law_is_signature" : Str), ("_law_is_automaton" : Str), ("_law_changed" : Str)]
def names : List PySem.Str := names0
abbrev hk : PySem.W.Hook := He.hookD 4 fa fn
def ob (s : PySem.W.SharedT) : He.AlD := He.obsDG 4 fa fn (HandSHeadRun.getT s)
theorem ob_eq (s : PySem.W.SharedT) : ob s = hk.obs s.abs := He.obsDG_eq (HandSHeadRun.getT_eq s)
abbrev R : PySem.W.OpenRow := PySem.W.OpenLaw.row PySem.Challenge.rw_termtide_k16_forms_of_automata
theorem run (w : World) : HandSHeadRun.RunEq R (PySem.W.view R.prog [27]) hk ob 1720 names w := by
  intro os
  kernel_rfl
theorem law_at {w : World} {K : PySem.W.Frag} {mg : Str → Option Value} {h : Heap} {f : Addr} {P : Program} (k : Nat) (X : K.In h) (G : h.Ns mainGlobals mg) (hfa : mg ("law" : Str) = some (.ref f)) (c : He.SaysD fa fn K) :
    ∃ fd : FuncData, (∀ (s : Shared) (v : Value), BindsTo s fd ⟨[v], []⟩ [("script", v)]) ∧ ∀ base : Heap, K.In base → base.Ns mainGlobals mg → FnOk P w K mg base CX0 (k + 1) f fd ["script"] (spC K (calls pg (k + 1)) 17) := by
  obtain ⟨fd, F⟩ := c.def_ 17 (d := ⟨(d17.name, none), d17.name, d17.name, defArgs d17.st, defBody d17.st, defScope d17.st, [], []⟩) rfl
  have e := hfa.symm.trans (He.glo_ok X G (c.fact 17 (f := .glo d17.name) rfl))
  cases e
  have b := FunD.bindsA (ps := ["script"]) F fun _ _ _ _ _ _ us hl => match us, hl with | [_], _ => rfl
  exact ⟨fd, fun s v => b s [v] rfl, fun base _ _ => def_ok (facts X G c) k17 rfl F (defs_ok (facts X G c) kAll k)⟩
end Tt.P
open PySem PySem.W PySem.Calls PyProof.Rows
theorem Tt.P.holds (k : Nat) (hk : k + 1 ≤ 120) (H : ∀ ns : List Int, ns.length ≤ 63 → ∃ S', Tt.calls Tt.P.pg (k + 1) 17 [.fzl (ns.map .int)] [] = some (.bl true, S')) : PySem.Challenge.rw_termtide_k16_forms_of_automata.Holds := by
  w_on; o_law
  refine HandSHeadRun.head_any (r := OpenLaw.row PySem.Challenge.rw_termtide_k16_forms_of_automata) (q := view (OpenLaw.row PySem.Challenge.rw_termtide_k16_forms_of_automata).prog [27]) (H := Tt.P.hk) (ob := Tt.P.ob) (M := 1720) (loose := Tt.P.names) (d := HandSHeadRun.topDef (OpenLaw.row PySem.Challenge.rw_termtide_k16_forms_of_automata).prog 27) (kwd := []) Tt.P.ob_eq
    (by kernel_rfl) (fun s => by kernel_rfl) Tt.P.run (by kernel_rfl) (by kernel_rfl) (by kernel_rfl) (by rfl) (by first | assumption | decide +kernel) (by decide +kernel) ⟨rfl, rfl, rfl, rfl, rfl, by decide +kernel⟩ ?hw ?hc
  case hw => w_witness2
  case hc =>
    refine L2.walk_ofE (l := PySem.Challenge.rw_termtide_k16_forms_of_automata) (n := 63) (k := k + 1) (x := "script") (CX := L2.CX0) rfl (by decide) (by kernel_rfl) ⟨rfl, Nat.lt_of_le_of_lt (Nat.add_le_add_right (Nat.add_le_add_left (Nat.mul_le_mul_left 3 hk) _) _) (by decide), ?un⟩ ?F (fun _ _ _ _ z => z)
    case un => exact Nat.lt_of_le_of_lt (Nat.add_le_add_right (Nat.add_le_add_left (Nat.mul_le_mul_left 16 hk) _) _) (by decide)
    intro w mg fa h Y G hmg0
    obtain ⟨K, KX, c⟩ := Y
    have hmg : mg ("law" : PySem.Str) = some (.ref fa) := by
      have e : (HandSHeadRun.topDef (OpenLaw.row PySem.Challenge.rw_termtide_k16_forms_of_automata).prog 27).name = ("law" : PySem.Str) := by kernel_rfl
      rw [← e]
      exact hmg0
    obtain ⟨fd, hb, hF⟩ := Tt.P.law_at (P := (PySem.Challenge.rw_termtide_k16_forms_of_automata).prog) (w := w) k KX G hmg c
    exact ⟨K, fd, Tt.spC K (Tt.calls Tt.P.pg (k + 1)) 17, KX, hb, fun H0 a ns hl hO hS => Tt.law_sp H H0 a ns hl hO hS, hF⟩
end

section
/-! What an evaluation comes to: rules, one a form. -/
namespace Tt
open PySem L2

/-! ### what an evaluation comes to -/
def W {α : Type} (o : Option (α × Sto)) (Q : α → Sto → Prop) : Prop := ∃ d S, o = some (d, S) ∧ Q d S
def WS (o : Option (Fl × En × Sto)) (Q : Fl → En → Sto → Prop) : Prop := ∃ f e S, o = some (f, e, S) ∧ Q f e S
def WC {α : Type} (o : Option α) (Q : α → Prop) : Prop := ∃ d, o = some d ∧ Q d
section
variable {α β : Type} {Q : α → Sto → Prop}
theorem W.mono {o : Option (α × Sto)} {Q' : α → Sto → Prop} (h : W o Q) (w : ∀ d S, Q d S → Q' d S) : W o Q' := by
  obtain ⟨d, S, e, q⟩ := h; exact ⟨d, S, e, w d S q⟩
theorem WS.mono {o : Option (Fl × En × Sto)} {Q Q' : Fl → En → Sto → Prop} (h : WS o Q) (w : ∀ f e S, Q f e S → Q' f e S) : WS o Q' := by
  obtain ⟨f, e, S, h, q⟩ := h; exact ⟨f, e, S, h, w f e S q⟩
theorem WC.mono {o : Option α} {Q Q' : α → Prop} (h : WC o Q) (w : ∀ d, Q d → Q' d) : WC o Q' := by
  obtain ⟨d, e, q⟩ := h; exact ⟨d, e, w d q⟩
theorem W_some {o : Option (α × Sto)} {d : α} {S : Sto} (h : o = some (d, S)) (q : Q d S) : W o Q := ⟨d, S, h, q⟩
theorem WC_some {o : Option α} {Q : α → Prop} {d : α} (h : o = some d) (q : Q d) : WC o Q := ⟨d, h, q⟩
theorem W_bind {o : Option (β × Sto)} {f : β × Sto → Option (α × Sto)} (h : W o fun x S1 => W (f (x, S1)) Q) : W (o.bind f) Q := by
  obtain ⟨d, S, e, d2, S2, e2, q⟩ := h
  exact ⟨d2, S2, by rw [e]; exact e2, q⟩
theorem W_map {o : Option (β × Sto)} {f : β × Sto → α × Sto} (h : W o fun x S1 => Q (f (x, S1)).1 (f (x, S1)).2) : W (o.map f) Q := by
  obtain ⟨d, S, e, q⟩ := h
  exact ⟨_, _, by rw [e]; rfl, q⟩
theorem W_bindC {o : Option β} {f : β → Option (α × Sto)} (h : WC o fun x => W (f x) Q) : W (o.bind f) Q := by
  obtain ⟨d, e, d2, S2, e2, q⟩ := h
  exact ⟨d2, S2, by rw [e]; exact e2, q⟩
theorem W_mapC {o : Option β} {f : β → α × Sto} (h : WC o fun x => Q (f x).1 (f x).2) : W (o.map f) Q := by
  obtain ⟨d, e, q⟩ := h
  exact ⟨_, _, by rw [e]; rfl, q⟩
theorem WC_map {o : Option β} {f : β → α} {Q : α → Prop} (h : WC o fun x => Q (f x)) : WC (o.map f) Q := by
  obtain ⟨d, e, q⟩ := h
  exact ⟨_, by rw [e]; rfl, q⟩
theorem WC_bind {o : Option β} {f : β → Option α} {Q : α → Prop} (h : WC o fun x => WC (f x) Q) : WC (o.bind f) Q := by
  obtain ⟨d, e, d2, e2, q⟩ := h
  exact ⟨d2, by rw [e]; exact e2, q⟩
theorem W_if {c : Prop} [Decidable c] {a : Option (α × Sto)} (h : c) (q : W a Q) : W (if c then a else none) Q := by rw [if_pos h]; exact q
theorem WS_bind {o : Option (β × Sto)} {f : β × Sto → Option (Fl × En × Sto)} {Q : Fl → En → Sto → Prop} (h : W o fun x S1 => WS (f (x, S1)) Q) : WS (o.bind f) Q := by
  obtain ⟨d, S, e, d2, e2, S2, h2, q⟩ := h
  exact ⟨d2, e2, S2, by rw [e]; exact h2, q⟩
theorem WS_map {o : Option (β × Sto)} {f : β × Sto → Fl × En × Sto} {Q : Fl → En → Sto → Prop} (h : W o fun x S1 => Q (f (x, S1)).1 (f (x, S1)).2.1 (f (x, S1)).2.2) : WS (o.map f) Q := by
  obtain ⟨d, S, e, q⟩ := h
  exact ⟨_, _, _, by rw [e]; rfl, q⟩
theorem WS_mapC {o : Option β} {f : β → Fl × En × Sto} {Q : Fl → En → Sto → Prop} (h : WC o fun x => Q (f x).1 (f x).2.1 (f x).2.2) : WS (o.map f) Q := by
  obtain ⟨d, e, q⟩ := h
  exact ⟨_, _, _, by rw [e]; rfl, q⟩
theorem WS_some {f : Fl} {e : En} {S : Sto} {Q : Fl → En → Sto → Prop} (q : Q f e S) : WS (some (f, e, S)) Q := ⟨f, e, S, rfl, q⟩
end

/-! ### expressions -/
section
variable {cal : Cal} {d : Nat} {env : En} {S : Sto} {a b c : E} {es : List E} {Q : D → Sto → Prop} {QT : Bool → Sto → Prop} {QA : List D → Sto → Prop}
theorem w_var {i : Nat} {x : D} (h : env[i]? = some (some x)) (q : Q x S) : W (ev cal (d + 1) (.var i) env S) Q := ⟨x, S, by show (match env[i]? with | some (some x) => some (x, S) | _ => none) = _; rw [h], q⟩
theorem w_cst {x : D} (q : Q x S) : W (ev cal (d + 1) (.cst x) env S) Q := ⟨x, S, rfl, q⟩
theorem w_glob {y : Str} {x : D} (q : Q x S) : W (ev cal (d + 1) (.glob y x) env S) Q := ⟨x, S, rfl, q⟩
theorem w_nil (q : QA [] S) : W (evs (ev cal d) [] env S) QA := ⟨[], S, rfl, q⟩
theorem w_cons {e : E} (h : W (ev cal d e env S) fun x S1 => W (evs (ev cal d) es env S1) fun xs S2 => QA (x :: xs) S2) : W (evs (ev cal d) (e :: es) env S) QA :=
  W_bind (h.mono fun x S1 h => W_bind (h.mono fun xs S2 h => ⟨_, _, rfl, h⟩))
theorem w_tup (h : W (evs (ev cal d) es env S) fun xs S1 => xs.length ≤ sizeLine ∧ Q (.tup xs) S1) : W (ev cal (d + 1) (.tup es) env S) Q :=
  W_bind (h.mono fun x S1 h => W_if h.1 ⟨_, _, rfl, h.2⟩)
theorem w_lstT (h : W (evs (ev cal d) es env S) fun xs S1 => xs.length ≤ sizeLine ∧ Q (.lst xs) S1) : W (ev cal (d + 1) (.lst true es) env S) Q :=
  W_bind (h.mono fun x S1 h => ⟨_, _, by show mkL true x S1 = _; unfold mkL; rw [if_pos h.1]; rfl, h.2⟩)
theorem w_lstF (h : W (evs (ev cal d) es env S) fun xs S1 => xs.length ≤ sizeLine ∧ Q (.ref S1.length) (S1 ++ [.lst xs])) : W (ev cal (d + 1) (.lst false es) env S) Q :=
  W_bind (h.mono fun x S1 h => ⟨_, _, by show mkL false x S1 = _; unfold mkL; rw [if_pos h.1]; rfl, h.2⟩)
theorem e_and (h : W (ev cal d a env S) fun x S1 => ∃ k, x = .bl k ∧ if k = true then W (ev cal d b env S1) Q else Q (.bl false) S1) : W (ev cal (d + 1) (.and a b) env S) Q :=
  W_bind (h.mono fun x S1 h => by
    obtain ⟨k, rfl, h⟩ := h
    cases k with
    | true => exact h
    | false => exact ⟨_, _, rfl, h⟩)
theorem e_or (h : W (ev cal d a env S) fun x S1 => ∃ k, x = .bl k ∧ if k = true then Q (.bl true) S1 else W (ev cal d b env S1) Q) : W (ev cal (d + 1) (.or a b) env S) Q :=
  W_bind (h.mono fun x S1 h => by
    obtain ⟨k, rfl, h⟩ := h
    cases k with
    | true => exact ⟨_, _, rfl, h⟩
    | false => exact h)
theorem w_not (h : W (ev cal d a env S) fun x S1 => ∃ k, x = .bl k ∧ Q (.bl (!k)) S1) : W (ev cal (d + 1) (.not a) env S) Q :=
  W_bind (h.mono fun x S1 h => by
    obtain ⟨k, rfl, h⟩ := h
    exact ⟨_, _, rfl, h⟩)
theorem w_neg (h : W (ev cal d a env S) fun x S1 => ∃ k, x = .int k ∧ Q (.int (-k)) S1) : W (ev cal (d + 1) (.neg a) env S) Q :=
  W_bind (h.mono fun x S1 h => by
    obtain ⟨k, rfl, h⟩ := h
    exact ⟨_, _, rfl, h⟩)
theorem w_ite {t : T} (h : W (evT cal d t env S) fun k S1 => if k = true then W (ev cal d a env S1) Q else W (ev cal d b env S1) Q) : W (ev cal (d + 1) (.ite t a b) env S) Q :=
  W_bind (h.mono fun x S1 h => by
    cases x with
    | true => exact h
    | false => exact h)
theorem w_bin {op : Bop} (h : W (ev cal d a env S) fun x S1 => W (ev cal d b env S1) fun y S2 => W (opB op x y S2) Q) : W (ev cal (d + 1) (.bin op a b) env S) Q :=
  W_bind (h.mono fun x S1 h => W_bind h)
theorem w_cmp {op : Cop} (h : W (ev cal d a env S) fun x S1 => W (ev cal d b env S1) fun y S2 => WC (cmpD op x y S2) fun k => Q (.bl k) S2) : W (ev cal (d + 1) (.cmp op a b) env S) Q :=
  W_map (W_bind (h.mono fun x S1 h => W_bind (h.mono fun y S2 h => W_mapC h)))
theorem w_chain {op op' : Cop} (h : W (ev cal d a env S) fun x S1 => W (ev cal d b env S1) fun y S2 => WC (cmpD op x y S2) fun k => if k = true then W (ev cal d c env S2) fun z S3 => WC (cmpD op' y z S3) fun k => Q (.bl k) S3 else Q (.bl false) S2) :
    W (ev cal (d + 1) (.chain op op' a b c) env S) Q :=
  W_map (W_bind (h.mono fun x S1 h => W_bind (h.mono fun y S2 h => W_bindC (h.mono fun k h => by
    cases k with
    | true => exact W_bind (W.mono h fun z S3 h => W_mapC h)
    | false => exact ⟨_, _, rfl, h⟩))))
theorem w_ix (h : W (ev cal d a env S) fun x S1 => W (ev cal d b env S1) fun y S2 => WC (ixD x y S2) fun r => Q r S2) : W (ev cal (d + 1) (.ix a b) env S) Q :=
  W_bind (h.mono fun x S1 h => W_bind (h.mono fun y S2 h => W_mapC h))
theorem w_call {f : Nat} (h : W (evs (ev cal d) es env S) fun xs S1 => W (cal f xs S1) Q) : W (ev cal (d + 1) (.call f es) env S) Q := W_bind h
theorem w_isi {t : Ty} (h : W (ev cal d a env S) fun x S1 => WC (isiD S1 t x) fun k => Q (.bl k) S1) : W (ev cal (d + 1) (.isi a t) env S) Q :=
  W_bind (h.mono fun x S1 h => W_mapC h)
theorem w_blt {fz : Bool} {b : Blt} (h : W (evs (ev cal d) es env S) fun xs S1 => W (bltD fz b xs S1) Q) : W (ev cal (d + 1) (.blt fz b es) env S) Q := W_bind h
theorem w_meth {m : Mth} (h : W (ev cal d a env S) fun o S1 => mthChk m o S1 = true ∧ W (evs (ev cal d) es env S1) fun xs S2 => W (mthD m o xs S2) Q) : W (ev cal (d + 1) (.meth m a es) env S) Q :=
  W_bind (h.mono fun o S1 h => W_if h.1 (W_bind h.2))
theorem w_slice {lo hi : Option E} (h : W (ev cal d a env S) fun x S1 => W (evOpt (ev cal d) lo env S1) fun l S2 => W (evOpt (ev cal d) hi env S2) fun r S3 => W (slD x l r S3) Q) : W (ev cal (d + 1) (.slice a lo hi) env S) Q :=
  W_bind (h.mono fun x S1 h => W_bind (h.mono fun l S2 h => W_bind h))
theorem w_oN {QO : Option Int → Sto → Prop} (q : QO none S) : W (evOpt (ev cal d) none env S) QO := ⟨none, S, rfl, q⟩
theorem w_oS {QO : Option Int → Sto → Prop} (h : W (ev cal d a env S) fun x S1 => ∃ i, x = .int i ∧ QO (some i) S1) : W (evOpt (ev cal d) (some a) env S) QO :=
  W_bind (h.mono fun x S1 h => by
    obtain ⟨i, rfl, h⟩ := h
    exact ⟨_, _, rfl, h⟩)
/-! ### tests -/
theorem t_val' (h : W (ev cal d a env S) fun x S1 => WC (truth S1 x) fun k => QT k S1) : W (evT cal (d + 1) (.val a) env S) QT := W_bind (h.mono fun x S1 h => W_mapC h)
theorem t_cmp' {op : Cop} (h : W (ev cal d a env S) fun x S1 => W (ev cal d b env S1) fun y S2 => WC (cmpD op x y S2) fun k => QT k S2) : W (evT cal (d + 1) (.cmp op a b) env S) QT :=
  W_bind (h.mono fun x S1 h => W_bind (h.mono fun y S2 h => W_mapC h))
theorem t_chain' {op op' : Cop} (h : W (ev cal d a env S) fun x S1 => W (ev cal d b env S1) fun y S2 => WC (cmpD op x y S2) fun k => if k = true then W (ev cal d c env S2) fun z S3 => WC (cmpD op' y z S3) fun k => QT k S3 else QT false S2) :
    W (evT cal (d + 1) (.chain op op' a b c) env S) QT :=
  W_bind (h.mono fun x S1 h => W_bind (h.mono fun y S2 h => W_bindC (h.mono fun k h => by
    cases k with
    | true => exact W_bind (W.mono h fun z S3 h => W_mapC h)
    | false => exact ⟨_, _, rfl, h⟩)))
theorem t_not' {t : T} (h : W (evT cal d t env S) fun k S1 => QT (!k) S1) : W (evT cal (d + 1) (.not t) env S) QT := W_map h
theorem t_and' {t u : T} (h : W (evT cal d t env S) fun k S1 => if k = true then W (evT cal d u env S1) QT else QT false S1) : W (evT cal (d + 1) (.and t u) env S) QT :=
  W_bind (h.mono fun x S1 h => by
    cases x with
    | true => exact h
    | false => exact ⟨_, _, rfl, h⟩)
theorem t_or' {t u : T} (h : W (evT cal d t env S) fun k S1 => if k = true then QT true S1 else W (evT cal d u env S1) QT) : W (evT cal (d + 1) (.or t u) env S) QT :=
  W_bind (h.mono fun x S1 h => by
    cases x with
    | true => exact ⟨_, _, rfl, h⟩
    | false => exact h)
theorem ts_nil {ts : T → En → Sto → Option (Bool × Sto)} (q : QT true S) : W (evTs ts [] env S) QT := ⟨true, S, rfl, q⟩
theorem ts_cons {t : T} {ts : List T} (h : W (evT cal d t env S) fun k S1 => if k = true then W (evTs (evT cal d) ts env S1) QT else QT false S1) : W (evTs (evT cal d) (t :: ts) env S) QT :=
  W_bind (h.mono fun x S1 h => by
    cases x with
    | true => exact h
    | false => exact ⟨_, _, rfl, h⟩)
/-! ### sources, loops -/
def WR (o : Option (Src × Sto)) (Q : Src → Sto → Prop) : Prop := W o Q
theorem r_seq {e : E} {QR : Src → Sto → Prop} (h : W (ev cal d e env S) fun x S1 => WC (srcOf S1 x) fun s => QR s S1) : W (evSr (ev cal d) (.seq e) env S) QR := W_bind (h.mono fun x S1 h => W_mapC h)
theorem r_rng {e : E} {QR : Src → Sto → Prop} (h : W (ev cal d e env S) fun x S1 => ∃ j, x = .int j ∧ (-(2 ^ 62) ≤ j ∧ j < 2 ^ 62) ∧ QR ⟨fun _ => some (rngL 0 j.toNat), j.toNat⟩ S1) : W (evSr (ev cal d) (.rng e) env S) QR :=
  W_bind (h.mono fun x S1 h => by
    obtain ⟨j, rfl, h1, h2⟩ := h
    exact W_if h1 ⟨_, _, rfl, h2⟩)
theorem r_rng2 {e e' : E} {QR : Src → Sto → Prop} (h : W (ev cal d e env S) fun x S1 => W (ev cal d e' env S1) fun y S2 => ∃ i j, x = .int i ∧ y = .int j ∧ (-(2 ^ 62) ≤ i ∧ i < 2 ^ 62 ∧ -(2 ^ 62) ≤ j ∧ j < 2 ^ 62) ∧ QR ⟨fun _ => some (rngL i (j - i).toNat), (j - i).toNat⟩ S2) :
    W (evSr (ev cal d) (.rng2 e e') env S) QR :=
  W_bind (h.mono fun x S1 h => W_bind (h.mono fun y S2 h => by
    obtain ⟨i, j, rfl, rfl, h1, h2⟩ := h
    exact W_if h1 ⟨_, _, rfl, h2⟩))
/-- a comprehension's loop: what it keeps -/
theorem lc_inv {s : Src} {tg : Tg} {body : En → Sto → Option (Option D × Sto)} {l : List D} {QL : List D → Sto → Prop} (Inv : Nat → List D → Sto → Prop) (hn : s.n = l.length) (h0 : Inv 0 [] S)
    (rd : ∀ i acc S, Inv i acc S → s.rd S = some l)
    (step : ∀ i x acc S, l[i]? = some x → Inv i acc S → ∃ env1, bindT tg x env = some env1 ∧ W (body env1 S) fun r S2 => match r with
      | some y => acc.length < sizeLine ∧ Inv (i + 1) (acc ++ [y]) S2
      | none => Inv (i + 1) acc S2)
    (fin : ∀ acc S, Inv l.length acc S → QL acc S) : W (loopC s tg env body s.n 0 [] S) QL := by
  have key : ∀ (m i : Nat) (acc : List D) (S : Sto), i + m = l.length → Inv i acc S → W (loopC s tg env body m i acc S) QL := by
    intro m
    induction m with
    | zero =>
      intro i acc S hi h
      have : i = l.length := by omega
      subst this
      refine W_bindC (WC_some (rd _ _ _ h) ?_)
      rw [if_pos hn.symm]
      exact ⟨_, _, rfl, fin _ _ h⟩
    | succ m ih =>
      intro i acc S hi h
      have hlt : i < l.length := by omega
      obtain ⟨env1, e1, hb⟩ := step i l[i] acc S (List.getElem?_eq_getElem hlt) h
      refine W_bindC (WC_some (rd _ _ _ h) ?_)
      rw [if_pos hn.symm]
      refine W_bindC (WC_some (List.getElem?_eq_getElem hlt) ?_)
      refine W_bindC (WC_some e1 (W_bind (hb.mono fun r S2 h2 => ?_)))
      cases r with
      | none => exact ih _ _ _ (by omega) h2
      | some y =>
        obtain ⟨h3, h4⟩ := h2
        show W (if acc.length < sizeLine then _ else none) QL
        rw [if_pos h3]
        exact ih _ _ _ (by omega) h4
  rw [hn]
  exact key l.length 0 [] S (by omega) h0
theorem dc_inv {s : Src} {tg : Tg} {body : En → Sto → Option (Option (D × D) × Sto)} {l : List D} {QL : List (Key × D) → Sto → Prop} (Inv : Nat → List (Key × D) → Sto → Prop) (hn : s.n = l.length) (h0 : Inv 0 [] S)
    (rd : ∀ i acc S, Inv i acc S → s.rd S = some l)
    (step : ∀ i x acc S, l[i]? = some x → Inv i acc S → ∃ env1, bindT tg x env = some env1 ∧ W (body env1 S) fun r S2 => match r with
      | some (k, v) => ∃ k', kD k = some k' ∧ acc.length < sizeLine ∧ Inv (i + 1) (putK acc k' v) S2
      | none => Inv (i + 1) acc S2)
    (fin : ∀ acc S, Inv l.length acc S → QL acc S) : W (loopD s tg env body s.n 0 [] S) QL := by
  have key : ∀ (m i : Nat) (acc : List (Key × D)) (S : Sto), i + m = l.length → Inv i acc S → W (loopD s tg env body m i acc S) QL := by
    intro m
    induction m with
    | zero =>
      intro i acc S hi h
      have : i = l.length := by omega
      subst this
      refine W_bindC (WC_some (rd _ _ _ h) ?_)
      rw [if_pos hn.symm]
      exact ⟨_, _, rfl, fin _ _ h⟩
    | succ m ih =>
      intro i acc S hi h
      have hlt : i < l.length := by omega
      obtain ⟨env1, e1, hb⟩ := step i l[i] acc S (List.getElem?_eq_getElem hlt) h
      refine W_bindC (WC_some (rd _ _ _ h) ?_)
      rw [if_pos hn.symm]
      refine W_bindC (WC_some (List.getElem?_eq_getElem hlt) ?_)
      refine W_bindC (WC_some e1 (W_bind (hb.mono fun r S2 h2 => ?_)))
      cases r with
      | none => exact ih _ _ _ (by omega) h2
      | some y =>
        obtain ⟨yk, yv⟩ := y
        obtain ⟨k', h5, h3, h4⟩ := h2
        refine W_bindC (WC_some h5 ?_)
        rw [if_pos h3]
        exact ih _ _ _ (by omega) h4
  rw [hn]
  exact key l.length 0 [] S (by omega) h0
theorem w_comp {fz : Bool} {own : List Nat} {tg : Tg} {src : Sr} {ifs : List T} {elt : E}
    (h : W (evSr (ev cal d) src env S) fun s S1 => W (loopC s tg (wipeD env own) (fun env1 S1 => (evTs (evT cal d) ifs env1 S1).bind fun c => if c.1 = true then (ev cal d elt env1 c.2).map fun r => (some r.1, r.2) else some (none, c.2)) s.n 0 [] S1) fun l S2 => W (mkL fz l S2) Q) :
    W (ev cal (d + 1) (.comp fz own tg src ifs elt) env S) Q := W_bind (h.mono fun s S1 h => W_bind h)
theorem w_dcomp {own : List Nat} {tg : Tg} {src : Sr} {ifs : List T} {kx vx : E}
    (h : W (evSr (ev cal d) src env S) fun s S1 => W (loopD s tg (wipeD env own) (fun env1 S1 => (evTs (evT cal d) ifs env1 S1).bind fun c => if c.1 = true then
        (ev cal d kx env1 c.2).bind fun rk => (ev cal d vx env1 rk.2).map fun r => (some (rk.1, r.1), r.2) else some (none, c.2)) s.n 0 [] S1) fun l S2 => Q (.ref S2.length) (S2 ++ [.dic l])) :
    W (ev cal (d + 1) (.dcomp own tg src ifs kx vx) env S) Q := W_bind (h.mono fun s S1 h => W_bind (h.mono fun l S2 h => ⟨_, _, rfl, h⟩))
theorem w_body {t : En → Sto → Option (Bool × Sto)} {m : En → Sto → Option (D × Sto)} {QO : Option D → Sto → Prop} (h : W (t env S) fun k S1 => if k = true then W (m env S1) fun y S2 => QO (some y) S2 else QO none S1) :
    W ((t env S).bind fun c => if c.1 = true then (m env c.2).map fun r => (some r.1, r.2) else some (none, c.2)) QO :=
  W_bind (h.mono fun k S1 h => by
    cases k with
    | true => exact W_map h
    | false => exact ⟨_, _, rfl, h⟩)
theorem w_bodyD {t : En → Sto → Option (Bool × Sto)} {mk mv : En → Sto → Option (D × Sto)} {QO : Option (D × D) → Sto → Prop} (h : W (t env S) fun k S1 => if k = true then W (mk env S1) fun y S2 => W (mv env S2) fun z S3 => QO (some (y, z)) S3 else QO none S1) :
    W ((t env S).bind fun c => if c.1 = true then (mk env c.2).bind fun rk => (mv env rk.2).map fun r => (some (rk.1, r.1), r.2) else some (none, c.2)) QO :=
  W_bind (h.mono fun k S1 h => by
    cases k with
    | true => exact W_bind (W.mono h fun y S2 h => W_map h)
    | false => exact ⟨_, _, rfl, h⟩)
end

/-! ### statements -/
section
variable {cal : Cal} {d : Nat} {env : En} {S : Sto} {a b c e : E} {es : List E} {Q : Fl → En → Sto → Prop}
theorem x_nil {f : Sm → En → Sto → Option (Fl × En × Sto)} (q : Q .nx env S) : WS (exs f [] env S) Q := ⟨_, _, _, rfl, q⟩
theorem x_cons {f : Sm → En → Sto → Option (Fl × En × Sto)} {s : Sm} {ss : List Sm} (h : WS (f s env S) fun fl e2 S2 => match fl with | .nx => WS (exs f ss e2 S2) Q | fl => Q fl e2 S2) : WS (exs f (s :: ss) env S) Q := by
  obtain ⟨fl, e2, S2, h1, h2⟩ := h
  cases fl with
  | nx =>
    obtain ⟨f3, e3, S3, h3, q⟩ := h2
    exact ⟨f3, e3, S3, by simp only [exs]; rw [h1]; exact h3, q⟩
  | _ => exact ⟨_, _, _, by simp only [exs]; rw [h1]; rfl, h2⟩
theorem x_set {i : Nat} (h : W (ev cal d e env S) fun x S1 => Q .nx (env.set i (some x)) S1) : WS (ex cal (d + 1) (.set i e) env S) Q := WS_map h
theorem x_expr (h : W (ev cal d e env S) fun x S1 => Q .nx env S1) : WS (ex cal (d + 1) (.expr e) env S) Q := WS_map h
theorem x_ret (h : W (ev cal d e env S) fun x S1 => Q (.rt x) env S1) : WS (ex cal (d + 1) (.ret e) env S) Q := WS_map h
theorem x_retN (q : Q (.rt .non) env S) : WS (ex cal (d + 1) .retN env S) Q := WS_some q
theorem x_brk (q : Q .bk env S) : WS (ex cal (d + 1) .brk env S) Q := WS_some q
theorem x_cont (q : Q .ct env S) : WS (ex cal (d + 1) .cont env S) Q := WS_some q
theorem x_unpack {is : List Nat} (h : W (ev cal d e env S) fun x S1 => ∃ ds env1, x = .tup ds ∧ setAll is ds env = some env1 ∧ Q .nx env1 S1) : WS (ex cal (d + 1) (.unpack is e) env S) Q :=
  WS_bind (h.mono fun x S1 h => by
    obtain ⟨ds, env1, rfl, h1, h2⟩ := h
    exact WS_mapC (WC_some h1 h2))
theorem x_setIx {o ix v : E} (h : W (ev cal d v env S) fun x S1 => W (ev cal d o env S1) fun y S2 => W (ev cal d ix env S2) fun z S3 => WC (setIxD y z x S3) fun S4 => Q .nx env S4) : WS (ex cal (d + 1) (.setIx o ix v) env S) Q :=
  WS_bind (h.mono fun x S1 h => WS_bind (h.mono fun y S2 h => WS_bind (h.mono fun z S3 h => WS_mapC h)))
theorem x_ifs {t : T} {p q : List Sm} (h : W (evT cal d t env S) fun k S1 => if k = true then WS (exs (ex cal d) p env S1) Q else WS (exs (ex cal d) q env S1) Q) : WS (ex cal (d + 1) (.ifs t p q) env S) Q :=
  WS_bind (h.mono fun k S1 h => by
    cases k with
    | true => exact h
    | false => exact h)
theorem x_for {tg : Tg} {src : Sr} {body : List Sm} (h : W (evSr (ev cal d) src env S) fun s S1 => WS (loopL s tg (exs (ex cal d) body) s.n 0 env S1) Q) : WS (ex cal (d + 1) (.for_ tg src body) env S) Q := WS_bind h
theorem for_inv {s : Src} {tg : Tg} {body : En → Sto → Option (Fl × En × Sto)} {l : List D} (Inv : Nat → En → Sto → Prop) (hn : s.n = l.length) (h0 : Inv 0 env S)
    (rd : ∀ i env S, Inv i env S → s.rd S = some l)
    (step : ∀ i x env S, l[i]? = some x → Inv i env S → ∃ env1, bindT tg x env = some env1 ∧ WS (body env1 S) fun fl e2 S2 => match fl with
      | .nx => Inv (i + 1) e2 S2
      | .ct => Inv (i + 1) e2 S2
      | .bk => Q .nx e2 S2
      | .rt y => Q (.rt y) e2 S2)
    (fin : ∀ env S, Inv l.length env S → Q .nx env S) : WS (loopL s tg body s.n 0 env S) Q := by
  have key : ∀ (m i : Nat) (env : En) (S : Sto), i + m = l.length → Inv i env S → WS (loopL s tg body m i env S) Q := by
    intro m
    induction m with
    | zero =>
      intro i env S hi h
      have : i = l.length := by omega
      subst this
      have h1 := rd _ _ _ h
      exact ⟨_, _, _, by simp only [loopL]; rw [h1]; show (if l.length = s.n then _ else _) = _; rw [if_pos hn.symm], fin _ _ h⟩
    | succ m ih =>
      intro i env S hi h
      have hlt : i < l.length := by omega
      obtain ⟨env1, e1, fl, e2, S2, hb, h2⟩ := step i l[i] env S (List.getElem?_eq_getElem hlt) h
      have h1 := rd _ _ _ h
      have h3 : loopL s tg body (m + 1) i env S = (match ((fl, e2, S2) : Fl × En × Sto) with
        | (.nx, e2, S2) => loopL s tg body m (i + 1) e2 S2
        | (.ct, e2, S2) => loopL s tg body m (i + 1) e2 S2
        | (.bk, e2, S2) => some (.nx, e2, S2)
        | (.rt d, e2, S2) => some (.rt d, e2, S2)) := by
        simp only [loopL]
        rw [h1]
        show (if l.length = s.n then _ else _) = _
        rw [if_pos hn.symm, List.getElem?_eq_getElem hlt]
        show (bindT tg l[i] env).bind _ = _
        rw [e1]
        show (body env1 S).bind _ = _
        rw [hb]
        rfl
      rw [h3]
      cases fl with
      | nx => exact ih _ _ _ (by omega) h2
      | ct => exact ih _ _ _ (by omega) h2
      | bk => exact ⟨_, _, _, rfl, h2⟩
      | rt y => exact ⟨_, _, _, rfl, h2⟩
  rw [hn]
  exact key l.length 0 env S (by omega) h0
end

/-! ### defs -/
mutual
/-- no reference within -/
def puD : D → Bool
  | .ref _ => false
  | .tup l => puL l
  | .lst l => puL l
  | .fzl l => puL l
  | _ => true
def puL : List D → Bool
  | [] => true
  | d :: r => puD d && puL r
end
def puO : O → Bool
  | .lst l => puL l
  | .dic kvs => puL (kvs.map (·.2))
  | .dead => true
mutual
theorem pu_cl (n : Nat) : ∀ {d : D}, puD d = true → clD n d = true
  | .non, _ => rfl
  | .bl _, _ => rfl
  | .int _, _ => rfl
  | .str _, _ => rfl
  | .tup l, h => by simp only [puD] at h; simp only [clD]; exact pus_cl n h
  | .lst l, h => by simp only [puD] at h; simp only [clD]; exact pus_cl n h
  | .fzl l, h => by simp only [puD] at h; simp only [clD]; exact pus_cl n h
  | .ref _, h => by simp [puD] at h
theorem pus_cl (n : Nat) : ∀ {l : List D}, puL l = true → clL n l = true
  | [], _ => rfl
  | d :: r, h => by
    simp only [puL, Bool.and_eq_true] at h
    simp only [clL, Bool.and_eq_true]
    exact ⟨pu_cl n h.1, pus_cl n h.2⟩
end
theorem puO_cl (n : Nat) {o : O} (h : puO o = true) : clO n o = true := by
  cases o with
  | lst l => exact pus_cl n h
  | dic l => exact pus_cl n h
  | dead => rfl
theorem puL_append {l r : List D} : puL (l ++ r) = (puL l && puL r) := by
  induction l with
  | nil => rfl
  | cons a l ih => simp [puL, ih, Bool.and_assoc]
theorem puL_get {l : List D} (h : puL l = true) {i : Nat} {d : D} (e : l[i]? = some d) : puD d = true := by
  induction l generalizing i with
  | nil => simp at e
  | cons a l ih =>
    simp only [puL, Bool.and_eq_true] at h
    cases i with
    | zero => simp at e; subst e; exact h.1
    | succ i => exact ih h.2 (by simpa using e)
theorem puL_mem {l : List D} : puL l = true ↔ ∀ d ∈ l, puD d = true := by
  induction l with
  | nil => simp [puL]
  | cons a l ih => simp [puL, ih]
/-- a result without references leaves; the store shrinks to what it was, written maybe -/
theorem fin_pure {df : Df} {n : Nat} {d : D} {S : Sto} {Q : D → Sto → Prop} (hk : df.keep = false) (hd : puD d = true) (hS : (S.take n).all puO = true) (q : Q d (S.take n)) : W (fin df n d S) Q := by
  refine ⟨d, S.take n, ?_, q⟩
  unfold fin leave
  rw [hk, pu_cl n hd]
  have : (S.take n).all (clO n) = true := List.all_eq_true.mpr fun o ho => puO_cl n (List.all_eq_true.mp hS o ho)
  simp [this]
theorem fin_keep {df : Df} {n : Nat} {d : D} {S : Sto} {Q : D → Sto → Prop} (hk : df.keep = true) (q : Q d S) : W (fin df n d S) Q := by
  refine ⟨d, S, ?_, q⟩
  unfold fin
  rw [hk]
  rfl
theorem w_run {cal : Cal} {df : Df} {args : List D} {S : Sto} {Q : D → Sto → Prop} (hl : args.length = df.ps) (h : WS (exs (ex cal 60) df.body (args.map some ++ List.replicate (df.n - args.length) none) S) fun fl _ S1 => match fl with
    | .rt d => W (fin df S.length d S1) Q
    | .nx => W (fin df S.length .non S1) Q
    | _ => False) : W (run cal df args S) Q := by
  obtain ⟨fl, e, S1, h1, h2⟩ := h
  unfold run
  have h1 : exs (ex cal DP) df.body (args.map some ++ List.replicate (df.n - args.length) none) S = some (fl, e, S1) := h1
  rw [if_pos hl, h1]
  cases fl with
  | nx => exact h2
  | rt d => exact h2
  | bk => exact h2.elim
  | ct => exact h2.elim

/-! ### leaves -/
theorem ifT' {b : Bool} {A B : Prop} (h : b = true) (a : A) : if b = true then A else B := by rw [if_pos h]; exact a
theorem ifF' {b : Bool} {A B : Prop} (h : b = false) (a : B) : if b = true then A else B := by rw [if_neg (by rw [h]; exact Bool.false_ne_true)]; exact a
theorem ifB {b : Bool} {A B : Prop} (h1 : b = true → A) (h2 : b = false → B) : if b = true then A else B := by
  cases b with
  | true => exact h1 rfl
  | false => exact h2 rfl
section
variable {S : Sto} {Q : D → Sto → Prop} {QC : Bool → Prop}
theorem l_add {i j : Int} (q : Q (.int (i + j)) S) : W (opB .add (.int i) (.int j) S) Q := ⟨_, _, rfl, q⟩
theorem l_sub {i j : Int} (q : Q (.int (i - j)) S) : W (opB .sub (.int i) (.int j) S) Q := ⟨_, _, rfl, q⟩
theorem l_mul {i j : Int} (h : (-(2 ^ 64) < i ∧ i < 2 ^ 64) ∨ (-(2 ^ 64) < j ∧ j < 2 ^ 64)) (q : Q (.int (i * j)) S) : W (opB .mul (.int i) (.int j) S) Q := ⟨_, _, by simp only [opB]; rw [if_pos h], q⟩
theorem l_fdiv {i j : Int} (h : 0 < j ∧ j < 1073741824) (q : Q (.int (i / j)) S) : W (opB .fdiv (.int i) (.int j) S) Q := ⟨_, _, by simp only [opB]; rw [if_pos h], q⟩
theorem l_mod {i j : Int} (h : 0 < j) (q : Q (.int (i % j)) S) : W (opB .mod (.int i) (.int j) S) Q := ⟨_, _, by simp only [opB]; rw [if_pos h], q⟩
theorem l_cat {i j : Str} (h : i.length + j.length ≤ sizeLine) (q : Q (.str (i ++ j)) S) : W (opB .add (.str i) (.str j) S) Q := ⟨_, _, by simp only [opB]; rw [if_pos h], q⟩
theorem l_catT {i j : List D} (h : i.length + j.length ≤ sizeLine) (q : Q (.tup (i ++ j)) S) : W (opB .add (.tup i) (.tup j) S) Q := ⟨_, _, by simp only [opB]; rw [if_pos h], q⟩
theorem l_eqI {i j : Int} (q : QC (i == j)) : WC (cmpD .eq (.int i) (.int j) S) QC := ⟨_, rfl, q⟩
theorem l_neI {i j : Int} (q : QC (!(i == j))) : WC (cmpD .ne (.int i) (.int j) S) QC := ⟨_, rfl, q⟩
theorem l_eqB {i j : Bool} (q : QC (i == j)) : WC (cmpD .eq (.bl i) (.bl j) S) QC := ⟨_, rfl, q⟩
theorem l_neB {i j : Bool} (q : QC (!(i == j))) : WC (cmpD .ne (.bl i) (.bl j) S) QC := ⟨_, rfl, q⟩
theorem l_lt {i j : Int} (q : QC (decide (i < j))) : WC (cmpD .lt (.int i) (.int j) S) QC := ⟨_, rfl, q⟩
theorem l_le {i j : Int} (q : QC (decide (i ≤ j))) : WC (cmpD .le (.int i) (.int j) S) QC := ⟨_, rfl, q⟩
theorem l_gt {i j : Int} (q : QC (decide (j < i))) : WC (cmpD .gt (.int i) (.int j) S) QC := ⟨_, rfl, q⟩
theorem l_ge {i j : Int} (q : QC (decide (j ≤ i))) : WC (cmpD .ge (.int i) (.int j) S) QC := ⟨_, rfl, q⟩
theorem l_eqS {i j : Str} (h1 : i.cps.all (· < 0x110000) = true) (h2 : j.cps.all (· < 0x110000) = true) (q : QC (i == j)) : WC (cmpD .eq (.str i) (.str j) S) QC := by
  refine ⟨_, ?_, q⟩
  show (if (SeqAt.shaped (.str i) && SeqAt.shaped (.str j)) = true then some (PyData.eqv (.str i) (.str j)) else none) = _
  have e1 : SeqAt.shaped (.str i) = true := Bool.and_eq_true_iff.mpr ⟨by simp only [PyData.canLay0]; exact h1, by simp [PyData.depth]⟩
  have e2 : SeqAt.shaped (.str j) = true := Bool.and_eq_true_iff.mpr ⟨by simp only [PyData.canLay0]; exact h2, by simp [PyData.depth]⟩
  rw [e1, e2]
  rfl
end
end Tt
end

section
/-! More rules: comprehensions that write nothing, built-ins. -/
namespace Tt
open PySem L2
section
variable {cal : Cal} {d : Nat} {env : En} {S : Sto} {Q : D → Sto → Prop}
/-- [elt for tg in src], nothing written: r is what is told -/
theorem w_mapR {own : List Nat} {tg : Tg} {src : Sr} {elt : E} (l r : List D) (hl : l.length ≤ sizeLine) (hr : r.length = l.length)
    (h : W (evSr (ev cal d) src env S) fun s S1 => s.n = l.length ∧ s.rd S1 = some l ∧ (∀ (i : Nat) x y, l[i]? = some x → r[i]? = some y → ∃ env1, bindT tg x (wipeD env own) = some env1 ∧ W (ev cal d elt env1 S1) fun z S2 => z = y ∧ S2 = S1) ∧ Q (.lst r) S1) :
    W (ev cal (d + 1) (.comp true own tg src [] elt) env S) Q := by
  refine w_comp (h.mono fun s S1 ⟨hn, rd, st, q⟩ => ?_)
  refine lc_inv (l := l) (fun i acc S2 => S2 = S1 ∧ acc = r.take i) hn ⟨rfl, rfl⟩ (fun i acc S2 ⟨e, _⟩ => by rw [e]; exact rd) ?_ ?_
  · rintro i x acc S2 hx ⟨rfl, rfl⟩
    have hi : i < l.length := (List.getElem?_eq_some_iff.mp hx).1
    have hy : r[i]? = some (r[i]'(by omega)) := List.getElem?_eq_getElem (by omega)
    obtain ⟨env1, e1, hw⟩ := st i x _ hx hy
    refine ⟨env1, e1, w_body (ts_nil (iteT ?_))⟩
    refine hw.mono fun z S3 ⟨e2, e3⟩ => ?_
    subst e2 e3
    refine ⟨by rw [List.length_take]; omega, rfl, ?_⟩
    rw [List.take_succ, hy]
    rfl
  · rintro acc S2 ⟨rfl, rfl⟩
    refine ⟨_, _, ?_, q⟩
    unfold mkL
    rw [← hr, List.take_length, if_pos (by rw [hr]; exact hl), if_pos rfl]
theorem bools_map {α : Type} (g : α → Bool) : ∀ l : List α, bools (l.map fun x => .bl (g x)) = some (l.map g)
  | [] => rfl
  | a :: l => by simp [bools, bools_map g l]
theorem l_all {α : Type} {fz : Bool} {g : α → Bool} {l : List α} (q : Q (.bl (l.all g)) S) : W (bltD fz .all [.lst (l.map fun x => .bl (g x))] S) Q := by
  refine ⟨_, _, ?_, q⟩
  simp only [bltD, litems, Option.bind_some, bools_map, Option.map_some]
  rw [List.all_map]
  rfl
theorem l_any {α : Type} {fz : Bool} {g : α → Bool} {l : List α} (q : Q (.bl (l.any g)) S) : W (bltD fz .any [.lst (l.map fun x => .bl (g x))] S) Q := by
  refine ⟨_, _, ?_, q⟩
  simp only [bltD, litems, Option.bind_some, bools_map, Option.map_some]
  rw [List.any_map]
  rfl
theorem l_lenS {fz : Bool} {z : Str} (h : z.length ≤ sizeLine) (q : Q (.int z.length) S) : W (bltD fz .len [.str z] S) Q := ⟨_, _, by simp only [bltD]; rw [if_pos h], q⟩
theorem l_ixS {z : Str} {i : Nat} {c : Nat} {QC : D → Prop} (h : z.length ≤ sizeLine) (hc : z.cps.toList[i]? = some c) (q : QC (.str ⟨#[c]⟩)) : WC (ixD (.str z) (.int i) S) QC := by
  refine ⟨_, ?_, q⟩
  have hl : i < z.cps.toList.length := (List.getElem?_eq_some_iff.mp hc).1
  have e : L2.atI z.cps.toList (i : Int) = some c := by
    simp only [L2.atI, L2.ixN]
    rw [if_pos (by omega), if_pos (by omega)]
    simpa using hc
  simp only [ixD]
  rw [if_pos h, e]
  rfl
theorem l_slS {z : Str} {lo hi : Option Int} (h : z.length ≤ sizeLine) (q : Q (.str (L2.cutS z lo hi)) S) : W (slD (.str z) lo hi S) Q := ⟨_, _, by simp only [slD]; rw [if_pos h], q⟩
theorem chars_length (z : Str) : (chars z).length = z.cps.size := by simp [chars]
theorem l_ixL {l : List D} {i : Nat} {x : D} {QC : D → Prop} (h : l[i]? = some x) (q : QC x) : WC (ixD (.lst l) (.int i) S) QC := by
  refine ⟨_, ?_, q⟩
  have hl : i < l.length := (List.getElem?_eq_some_iff.mp h).1
  show L2.atI l i = _
  simp only [L2.atI, L2.ixN]
  rw [if_pos (by omega), if_pos (by omega)]
  simpa using h
theorem l_ixT {l : List D} {i : Nat} {x : D} {QC : D → Prop} (h : l[i]? = some x) (q : QC x) : WC (ixD (.tup l) (.int i) S) QC := by
  refine ⟨_, ?_, q⟩
  have hl : i < l.length := (List.getElem?_eq_some_iff.mp h).1
  show L2.atI l i = _
  simp only [L2.atI, L2.ixN]
  rw [if_pos (by omega), if_pos (by omega)]
  simpa using h
end
end Tt
end

section
/-! Dicts as sets of keys. -/
namespace Tt
open PySem L2
theorem putK_mem {kvs : List (Key × D)} {k k' : Key} {v : D} : k' ∈ (putK kvs k v).map (·.1) ↔ k' = k ∨ k' ∈ kvs.map (·.1) := by
  unfold putK
  split
  · rename_i h
    rw [List.any_eq_true] at h
    obtain ⟨p, hp, hk⟩ := h
    have hk : p.1 = k := of_decide_eq_true hk
    have e : (kvs.map fun kv => if kv.1 = k then (kv.1, v) else kv).map (·.1) = kvs.map (·.1) := by
      rw [List.map_map]
      refine List.map_congr_left fun x _ => ?_
      show (if x.1 = k then (x.1, v) else x).1 = x.1
      split <;> rfl
    rw [e]
    refine ⟨.inr, fun h => h.elim (fun z => ?_) id⟩
    rw [z, ← hk]; exact List.mem_map_of_mem hp
  · simp only [List.map_append, List.map_cons, List.map_nil, List.mem_append, List.mem_singleton]
    exact Or.comm
theorem putK_new {kvs : List (Key × D)} {k : Key} {v : D} (h : k ∉ kvs.map (·.1)) : putK kvs k v = kvs ++ [(k, v)] := by
  unfold putK
  rw [if_neg]
  intro z
  obtain ⟨p, hp, hk⟩ := List.any_eq_true.mp z
  exact h (List.mem_map.mpr ⟨p, hp, of_decide_eq_true hk⟩)
theorem putK_old {kvs : List (Key × D)} {k : Key} {v : D} (h : k ∈ kvs.map (·.1)) : (putK kvs k v).map (·.1) = kvs.map (·.1) := by
  unfold putK
  rw [if_pos]
  · rw [List.map_map]
    refine List.map_congr_left fun x _ => ?_
    show (if x.1 = k then (x.1, v) else x).1 = x.1
    split <;> rfl
  · obtain ⟨p, hp, hk⟩ := List.mem_map.mp h
    exact List.any_eq_true.mpr ⟨p, hp, decide_eq_true hk⟩
theorem putK_len_old {kvs : List (Key × D)} {k : Key} {v : D} (h : k ∈ kvs.map (·.1)) : (putK kvs k v).length = kvs.length := by
  have := congrArg List.length (putK_old (v := v) h)
  simpa using this
theorem putK_len_new {kvs : List (Key × D)} {k : Key} {v : D} (h : k ∉ kvs.map (·.1)) : (putK kvs k v).length = kvs.length + 1 := by
  rw [putK_new h]; simp
/-- the dict of some keys, one after another -/
def keyed (v : D) (ks : List Key) : List (Key × D) := ks.foldl (fun acc k => putK acc k v) []
theorem keyed_snoc (v : D) (ks : List Key) (k : Key) : keyed v (ks ++ [k]) = putK (keyed v ks) k v := by simp [keyed]
theorem snoc_ind {α : Type} {P : List α → Prop} (h0 : P []) (h1 : ∀ l a, P l → P (l ++ [a])) : ∀ l, P l := by
  intro l
  have : ∀ r : List α, P r.reverse := by
    intro r; induction r with
    | nil => exact h0
    | cons a r ih => rw [List.reverse_cons]; exact h1 _ _ ih
  have h := this l.reverse
  rwa [List.reverse_reverse] at h
theorem keyed_mem {v : D} {ks : List Key} : ∀ k, k ∈ (keyed v ks).map (·.1) ↔ k ∈ ks := by
  refine snoc_ind (P := fun ks => ∀ k, k ∈ (keyed v ks).map (·.1) ↔ k ∈ ks) ?_ ?_ ks
  · intro k; simp [keyed]
  · intro l a ih k
    rw [keyed_snoc, putK_mem, ih]
    simp only [List.mem_append, List.mem_singleton]
    exact Or.comm
theorem nodup_snoc {α : Type} {l : List α} {a : α} : (l ++ [a]).Nodup ↔ l.Nodup ∧ a ∉ l := by
  rw [List.nodup_append]
  constructor
  · rintro ⟨h1, _, h3⟩
    exact ⟨h1, fun z => h3 a z a (by simp) rfl⟩
  · rintro ⟨h1, h2⟩
    refine ⟨h1, by simp, fun x hx y hy => ?_⟩
    have : y = a := by simpa using hy
    subst this
    exact fun e => h2 (e ▸ hx)
theorem keyed_len {v : D} {ks : List Key} : (keyed v ks).length ≤ ks.length ∧ ((keyed v ks).length = ks.length ↔ ks.Nodup) := by
  refine snoc_ind (P := fun ks => (keyed v ks).length ≤ ks.length ∧ ((keyed v ks).length = ks.length ↔ ks.Nodup)) ?_ ?_ ks
  · simp [keyed]
  · rintro l a ⟨h1, h2⟩
    rw [keyed_snoc, nodup_snoc, List.length_append]
    by_cases h : a ∈ l
    · rw [putK_len_old ((keyed_mem a).mpr h)]
      refine ⟨by simp; omega, ⟨fun z => ?_, fun z => absurd h z.2⟩⟩
      simp at z; omega
    · rw [putK_len_new fun z => h ((keyed_mem a).mp z)]
      refine ⟨by simp; omega, ⟨fun z => ⟨h2.mp (by simp at z; omega), h⟩, fun z => ?_⟩⟩
      have := h2.mpr z.1
      simp; omega
theorem keyed_keys_nodup {v : D} {ks : List Key} : ((keyed v ks).map (·.1)).Nodup := by
  refine snoc_ind (P := fun ks => ((keyed v ks).map (·.1)).Nodup) ?_ ?_ ks
  · simp [keyed]
  · intro l a ih
    rw [keyed_snoc]
    by_cases h : a ∈ (keyed v l).map (·.1)
    · rw [putK_old h]; exact ih
    · rw [putK_new h, List.map_append, List.map_cons, List.map_nil, nodup_snoc]
      exact ⟨ih, h⟩
theorem keyed_nodup {v : D} {ks : List Key} (h : ks.Nodup) : (keyed v ks).map (·.1) = ks := by
  refine snoc_ind (P := fun ks => ks.Nodup → (keyed v ks).map (·.1) = ks) ?_ ?_ ks h
  · intro _; rfl
  · intro l a ih hn
    obtain ⟨h1, h2⟩ := nodup_snoc.mp hn
    rw [keyed_snoc, putK_new (fun z => h2 ((keyed_mem a).mp z)), List.map_append, ih h1]
    rfl
section
variable {cal : Cal} {d : Nat} {env : En} {S : Sto} {Q : D → Sto → Prop}
/-- {key: True for tg in src}, nothing written -/
theorem w_keyed {own : List Nat} {tg : Tg} {src : Sr} {kx vx : E} (l : List D) (ks : List Key) (v : D) (hl : l.length < sizeLine) (hr : ks.length = l.length)
    (h : W (evSr (ev cal d) src env S) fun s S1 => s.n = l.length ∧ s.rd S1 = some l ∧ (∀ (i : Nat) x k, l[i]? = some x → ks[i]? = some k → ∃ env1, bindT tg x (wipeD env own) = some env1 ∧ W (ev cal d kx env1 S1) fun z S2 => kD z = some k ∧ S2 = S1 ∧ W (ev cal d vx env1 S1) fun z' S3 => z' = v ∧ S3 = S1) ∧
      Q (.ref S1.length) (S1 ++ [.dic (keyed v ks)])) :
    W (ev cal (d + 1) (.dcomp own tg src [] kx vx) env S) Q := by
  refine w_dcomp (h.mono fun s S1 ⟨hn, rd, st, q⟩ => ?_)
  refine dc_inv (l := l) (fun i acc S2 => S2 = S1 ∧ acc = keyed v (ks.take i)) hn ⟨rfl, rfl⟩ (fun i acc S2 ⟨e, _⟩ => by rw [e]; exact rd) ?_ ?_
  · rintro i x acc S2 hx ⟨rfl, rfl⟩
    have hi : i < l.length := (List.getElem?_eq_some_iff.mp hx).1
    have hy : ks[i]? = some (ks[i]'(by omega)) := List.getElem?_eq_getElem (by omega)
    obtain ⟨env1, e1, hw⟩ := st i x _ hx hy
    refine ⟨env1, e1, w_bodyD (ts_nil (iteT ?_))⟩
    refine hw.mono fun z S3 ⟨e2, e3, h3⟩ => ?_
    subst e3
    refine h3.mono fun z' S4 ⟨e4, e5⟩ => ?_
    subst e4 e5
    refine ⟨_, e2, Nat.lt_of_le_of_lt (keyed_len).1 (by rw [List.length_take]; omega), rfl, ?_⟩
    rw [List.take_succ, hy]
    exact (keyed_snoc _ _ _).symm
  · rintro acc S2 ⟨rfl, rfl⟩
    rw [← hr, List.take_length]
    exact q
end
end Tt
end

section
/-! Sorted ints. -/
namespace Tt
open PySem L2
theorem insI_mem {x y : Int} : ∀ {l : List Int}, y ∈ insI x l ↔ y = x ∨ y ∈ l
  | [] => by simp [insI]
  | z :: l => by
    unfold insI
    split
    · simp
    · rw [List.mem_cons, insI_mem, List.mem_cons]
      exact ⟨fun h => by rcases h with h | h | h <;> simp [h], fun h => by rcases h with h | h | h <;> simp [h]⟩
theorem insI_len {x : Int} : ∀ {l : List Int}, (insI x l).length = l.length + 1
  | [] => rfl
  | z :: l => by
    unfold insI
    split
    · simp
    · simp [insI_len]
theorem sortI_len : ∀ {l : List Int}, (sortI l).length = l.length
  | [] => rfl
  | a :: l => by simp [sortI, insI_len, sortI_len]
theorem sortI_mem {y : Int} : ∀ {l : List Int}, y ∈ sortI l ↔ y ∈ l
  | [] => by simp [sortI]
  | a :: l => by simp only [sortI]; rw [insI_mem, sortI_mem, List.mem_cons]
theorem insI_lt {x : Int} : ∀ {l : List Int}, l.Pairwise (· < ·) → x ∉ l → (insI x l).Pairwise (· < ·)
  | [], _, _ => by simp [insI]
  | z :: l, h, hn => by
    rw [List.pairwise_cons] at h
    simp only [List.mem_cons, not_or] at hn
    unfold insI
    split
    · rename_i hle
      rw [List.pairwise_cons, List.pairwise_cons]
      refine ⟨fun y hy => ?_, h.1, h.2⟩
      have hx : x < z := by have := hn.1; omega
      rcases List.mem_cons.mp hy with e | hy
      · omega
      · have := h.1 y hy; omega
    · rename_i hle
      rw [List.pairwise_cons]
      refine ⟨fun y hy => ?_, insI_lt h.2 hn.2⟩
      rcases insI_mem.mp hy with e | hy
      · omega
      · exact h.1 y hy
theorem sortI_lt : ∀ {l : List Int}, l.Nodup → (sortI l).Pairwise (· < ·)
  | [], _ => by simp [sortI]
  | a :: l, h => by
    rw [List.nodup_cons] at h
    exact insI_lt (sortI_lt h.2) fun z => h.1 (sortI_mem.mp z)
theorem insI_head {x : Int} {l : List Int} (h : ∀ y ∈ l, x < y) : insI x l = x :: l := by
  cases l with
  | nil => rfl
  | cons z l =>
    have := h z (by simp)
    unfold insI
    rw [if_pos (by omega)]
theorem sortI_self : ∀ {l : List Int}, l.Pairwise (· < ·) → sortI l = l
  | [], _ => rfl
  | a :: l, h => by
    rw [List.pairwise_cons] at h
    simp only [sortI]
    rw [sortI_self h.2, insI_head h.1]
theorem lt_nodup {l : List Int} (h : l.Pairwise (· < ·)) : l.Nodup := h.imp fun h => by omega
theorem keysI_of {v : D} : ∀ {kvs : List (Key × D)} {ns : List Int}, kvs.map (·.1) = ns.map Sum.inl → keysI kvs = some ns
  | [], [], _ => rfl
  | [], _ :: _, h => by cases h
  | _ :: _, [], h => by cases h
  | (k, x) :: kvs, n :: ns, h => by
    simp only [List.map_cons, List.cons.injEq] at h
    obtain ⟨h1, h2⟩ := h
    subst h1
    simp only [keysI, keysI_of (v := v) h2, Option.map_some]
/-- the keys of a dict of ints -/
theorem keyed_ints (v : D) (es : List Int) : ∃ ks : List Int, (keyed v (es.map Sum.inl)).map (·.1) = ks.map Sum.inl ∧ ks.Nodup ∧ (es.Nodup → ks = es) ∧ ks.length ≤ es.length := by
  have hall : ∀ k ∈ (keyed v (es.map Sum.inl)).map (·.1), ∃ i : Int, k = Sum.inl i := fun k hk => by
    obtain ⟨i, _, e⟩ := List.mem_map.mp ((keyed_mem k).mp hk)
    exact ⟨i, e.symm⟩
  have ex : ∀ l : List Key, (∀ k ∈ l, ∃ i : Int, k = Sum.inl i) → ∃ ks : List Int, l = ks.map Sum.inl := by
    intro l
    induction l with
    | nil => exact fun _ => ⟨[], rfl⟩
    | cons a l ih =>
      intro h
      obtain ⟨i, rfl⟩ := h a (by simp)
      obtain ⟨ks, rfl⟩ := ih fun k hk => h k (by simp [hk])
      exact ⟨i :: ks, rfl⟩
  have inj : ∀ {l r : List Int}, l.map (Sum.inl : Int → Key) = r.map Sum.inl → l = r := by
    intro l
    induction l with
    | nil => intro r h; cases r <;> simp_all
    | cons a l ih =>
      intro r h
      cases r with
      | nil => cases h
      | cons b r =>
        simp only [List.map_cons, List.cons.injEq] at h
        have h1 : a = b := by have := h.1; cases this; rfl
        rw [h1, ih h.2]
  have nd : ∀ {l : List Int}, (l.map (Sum.inl : Int → Key)).Nodup ↔ l.Nodup := by
    intro l
    induction l with
    | nil => simp
    | cons a r ih =>
      rw [List.map_cons, List.nodup_cons, List.nodup_cons, ih]
      refine and_congr_left fun _ => not_congr ⟨fun h => ?_, fun h => List.mem_map_of_mem h⟩
      obtain ⟨b, hb, e⟩ := List.mem_map.mp h
      cases e; exact hb
  obtain ⟨ks, e⟩ := ex _ hall
  refine ⟨ks, e, nd.mp (by rw [← e]; exact keyed_keys_nodup), fun h => ?_, ?_⟩
  · have := keyed_nodup (v := v) (nd.mpr h)
    rw [e] at this
    exact inj this
  · have h1 := (keyed_len (v := v) (ks := es.map Sum.inl)).1
    have h2 := congrArg List.length e
    simp at h1 h2
    omega
def incB (es : List Int) : Bool := decide (es.Pairwise (· < ·))
/-- list(ends) is sorted({..}) exactly where they go up -/
theorem inc_sorted {es ks : List Int} (h1 : ks.Nodup) (h2 : es.Nodup → ks = es) : (es == sortI ks) = incB es := by
  unfold incB
  by_cases h : es.Pairwise (· < ·)
  · rw [decide_eq_true h, h2 (lt_nodup h), sortI_self h]
    simp
  · rw [decide_eq_false h]
    refine beq_eq_false_iff_ne.mpr fun e => h ?_
    rw [e]
    exact sortI_lt h1
theorem inc_steps : ∀ {es : List Int}, es.Pairwise (· < ·) ↔ ∀ (i : Nat) (h : i + 1 < es.length), es[i] < es[i + 1]
  | [] => by simp
  | [a] => by simp
  | a :: b :: r => by
    rw [List.pairwise_cons, inc_steps (es := b :: r)]
    constructor
    · rintro ⟨h1, h2⟩ i hi
      cases i with
      | zero => exact h1 b (by simp)
      | succ i => exact h2 i (by simpa using hi)
    · intro h
      have h2 : ∀ (i : Nat) (hi : i + 1 < (b :: r).length), (b :: r)[i] < (b :: r)[i + 1] := fun i hi => h (i + 1) (by simpa using hi)
      have hp : (b :: r).Pairwise (· < ·) := inc_steps.mpr h2
      refine ⟨fun y hy => ?_, h2⟩
      have hab : a < b := h 0 (by simp)
      rcases List.mem_cons.mp hy with e | hy
      · omega
      · have := (List.pairwise_cons.mp hp).1 y hy; omega
theorem eqD_ints {a b : List Int} : eqD (.lst (a.map .int)) (.lst (b.map .int)) = some (a == b) := by
  have h1 : ∀ l : List Int, pyL (l.map .int) = some (l.map .int) := by
    intro l; induction l with
    | nil => rfl
    | cons a l ih => simp [pyL, pyD, ih]
  have h2 : ∀ l : List Int, SeqAt.shaped (.list (l.map .int)) = true := by
    intro l
    have c : PyData.canLayAll0 (l.map .int) = true := by
      induction l with
      | nil => simp [PyData.canLayAll0]
      | cons a l ih => simp [PyData.canLayAll0, PyData.canLay0, ih]
    have dp : PyData.depthAll (l.map .int) = 0 := by
      induction l with
      | nil => simp [PyData.depthAll]
      | cons a l ih =>
        simp only [List.map_cons, PyData.canLayAll0, Bool.and_eq_true] at c
        simp [PyData.depthAll, PyData.depth, ih c.2]
    exact Bool.and_eq_true_iff.mpr ⟨by simp only [PyData.canLay0]; exact c, by simp [PyData.depth, dp]⟩
  have h3 : ∀ a b : List Int, PyData.eqvAll (a.map .int) (b.map .int) = (a == b) := by
    intro a
    induction a with
    | nil => intro b; cases b <;> rfl
    | cons x a ih =>
      intro b
      cases b with
      | nil => rfl
      | cons y b =>
        simp only [List.map_cons, PyData.eqvAll, PyData.eqv, ih]
        rfl
  simp only [eqD, pyD, h1, Option.map_some, Option.bind_some, h2, Bool.and_self, if_true, PyData.eqv, h3]
end Tt
end

section
/-! The plain law of k16. -/
namespace Tt.L
open PySem Tt Tt.P
/-- the stream of draws, as an object of the store -/
def Stm (o : O) : Prop := ∃ (cells : List Int) (a p s : Int), o = .lst [.lst (cells.map .int), .int a, .int p, .int s] ∧ 0 ≤ p
theorem Stm.pu {o : O} (h : Stm o) : puO o = true := by
  obtain ⟨cells, a, p, s, rfl, _⟩ := h
  have : ∀ l : List Int, puL (l.map .int) = true := by
    intro l; induction l with
    | nil => rfl
    | cons a l ih => simp [puL, puD, ih]
  simp [puO, puL, puD, this]
theorem call_run {k j : Nat} {di : DI} {args : List D} {S : Sto} {Q : D → Sto → Prop} (hd : defs[j]? = some di) (h : W (Tt.run (calls pg k) di.df args S) Q) : W (calls pg (k + 1) j args S) Q := by
  have e : calls pg (k + 1) j args S = Tt.run (calls pg k) di.df args S := by
    simp only [calls, List.getElem?_map, hd, Option.map_some]
  rw [e]; exact h
theorem take_all {R : Sto} {o : O} {n : Nat} (hn : n = R.length + 1) (ho : puO o = true) (hR : R.all puO = true) : ((o :: R).take n).all puO = true := by
  subst hn
  rw [List.take_of_length_le (by simp)]
  simp [ho, hR]
theorem take_eq {R : Sto} {o : O} {n : Nat} (hn : n = R.length + 1) : (o :: R).take n = o :: R := by
  subst hn
  exact List.take_of_length_le (by simp)
theorem fin_st {df : Df} {n : Nat} {d : D} {o : O} {R : Sto} {Q : D → Sto → Prop} (hk : df.keep = false) (hn : n = R.length + 1) (st : Stm o) (hR : R.all puO = true) (hd : puD d = true) (q : Q d (o :: R)) : W (fin df n d (o :: R)) Q := by
  refine fin_pure hk hd (take_all hn st.pu hR) ?_
  rw [take_eq hn]
  exact q
theorem draw_tail {k n : Nat} {many a p s : Int} {cells : List Int} {R : Sto} {Q : D → Sto → Prop} (hn : n = R.length + 1) (hp : 0 ≤ p) (hR : R.all puO = true) (hm : 0 < many) (hm2 : many < 1073741824)
    (q : ∀ (r : Int) o', Stm o' → 0 ≤ r → r < many → Q (.int r) (o' :: R)) :
    WS (exs (ex (calls pg k) 60) (b7.drop 1) [some (.ref 0), some (.int many), none] (.lst [.lst (cells.map .int), .int a, .int p, .int s] :: R)) fun fl _ S1 => match fl with
      | .rt d => W (fin d7.df n d S1) Q
      | .nx => W (fin d7.df n .non S1) Q
      | _ => False := by
  (repeat (first | refine w_var rfl ?_ | refine w_cst ?_ | refine w_glob ?_ | refine w_nil ?_ | refine w_cons ?_ | refine w_bin ?_ | refine w_ix ?_ | refine w_call ?_ | refine w_blt ?_ | refine w_isi ?_ | refine w_tup ?_ | refine w_lstT ?_ | refine w_lstF ?_ | refine e_and ?_ | refine e_or ?_ | refine w_not ?_ | refine w_neg ?_ | refine w_ite ?_ | refine w_cmp ?_ | refine w_chain ?_ | refine w_slice ?_ | refine w_oN ?_ | refine w_oS ?_ | refine t_val' ?_ | refine t_cmp' ?_ | refine t_chain' ?_ | refine t_not' ?_ | refine t_and' ?_ | refine t_or' ?_ | refine ts_nil ?_ | refine ts_cons ?_ | refine x_nil ?_ | refine x_cons ?_ | refine x_set ?_ | refine x_expr ?_ | refine x_ret ?_ | refine x_retN ?_ | refine x_ifs ?_ | refine x_setIx ?_ | refine x_unpack ?_ | refine l_add ?_ | refine l_sub ?_ | refine l_eqI ?_ | refine l_neI ?_ | refine l_eqB ?_ | refine l_neB ?_ | refine l_lt ?_ | refine l_le ?_ | refine l_gt ?_ | refine l_ge ?_ | refine ifT' rfl ?_ | refine ifF' rfl ?_ | refine ⟨_, rfl, ?_⟩ | refine ⟨rfl, ?_⟩ | refine ⟨Nat.le_of_ble_eq_true rfl, ?_⟩ | refine WC_some rfl ?_ | refine W_some rfl ?_))
  refine ifB (fun h => ?_) (fun h => ?_)
  · (repeat (first | refine w_var rfl ?_ | refine w_cst ?_ | refine w_glob ?_ | refine w_nil ?_ | refine w_cons ?_ | refine w_bin ?_ | refine w_ix ?_ | refine w_call ?_ | refine w_blt ?_ | refine w_isi ?_ | refine w_tup ?_ | refine w_lstT ?_ | refine w_lstF ?_ | refine e_and ?_ | refine e_or ?_ | refine w_not ?_ | refine w_neg ?_ | refine w_ite ?_ | refine w_cmp ?_ | refine w_chain ?_ | refine w_slice ?_ | refine w_oN ?_ | refine w_oS ?_ | refine t_val' ?_ | refine t_cmp' ?_ | refine t_chain' ?_ | refine t_not' ?_ | refine t_and' ?_ | refine t_or' ?_ | refine ts_nil ?_ | refine ts_cons ?_ | refine x_nil ?_ | refine x_cons ?_ | refine x_set ?_ | refine x_expr ?_ | refine x_ret ?_ | refine x_retN ?_ | refine x_ifs ?_ | refine x_setIx ?_ | refine x_unpack ?_ | refine l_add ?_ | refine l_sub ?_ | refine l_eqI ?_ | refine l_neI ?_ | refine l_eqB ?_ | refine l_neB ?_ | refine l_lt ?_ | refine l_le ?_ | refine l_gt ?_ | refine l_ge ?_ | refine ifT' rfl ?_ | refine ifF' rfl ?_ | refine ⟨_, rfl, ?_⟩ | refine ⟨rfl, ?_⟩ | refine ⟨Nat.le_of_ble_eq_true rfl, ?_⟩ | refine WC_some rfl ?_ | refine W_some rfl ?_))
    refine l_mul (.inr ⟨by decide, by decide⟩) ?_
    (repeat (first | refine w_var rfl ?_ | refine w_cst ?_ | refine w_glob ?_ | refine w_nil ?_ | refine w_cons ?_ | refine w_bin ?_ | refine w_ix ?_ | refine w_call ?_ | refine w_blt ?_ | refine w_isi ?_ | refine w_tup ?_ | refine w_lstT ?_ | refine w_lstF ?_ | refine e_and ?_ | refine e_or ?_ | refine w_not ?_ | refine w_neg ?_ | refine w_ite ?_ | refine w_cmp ?_ | refine w_chain ?_ | refine w_slice ?_ | refine w_oN ?_ | refine w_oS ?_ | refine t_val' ?_ | refine t_cmp' ?_ | refine t_chain' ?_ | refine t_not' ?_ | refine t_and' ?_ | refine t_or' ?_ | refine ts_nil ?_ | refine ts_cons ?_ | refine x_nil ?_ | refine x_cons ?_ | refine x_set ?_ | refine x_expr ?_ | refine x_ret ?_ | refine x_retN ?_ | refine x_ifs ?_ | refine x_setIx ?_ | refine x_unpack ?_ | refine l_add ?_ | refine l_sub ?_ | refine l_eqI ?_ | refine l_neI ?_ | refine l_eqB ?_ | refine l_neB ?_ | refine l_lt ?_ | refine l_le ?_ | refine l_gt ?_ | refine l_ge ?_ | refine ifT' rfl ?_ | refine ifF' rfl ?_ | refine ⟨_, rfl, ?_⟩ | refine ⟨rfl, ?_⟩ | refine ⟨Nat.le_of_ble_eq_true rfl, ?_⟩ | refine WC_some rfl ?_ | refine W_some rfl ?_))
    refine l_mod hm ?_
    (repeat (first | refine w_var rfl ?_ | refine w_cst ?_ | refine w_glob ?_ | refine w_nil ?_ | refine w_cons ?_ | refine w_bin ?_ | refine w_ix ?_ | refine w_call ?_ | refine w_blt ?_ | refine w_isi ?_ | refine w_tup ?_ | refine w_lstT ?_ | refine w_lstF ?_ | refine e_and ?_ | refine e_or ?_ | refine w_not ?_ | refine w_neg ?_ | refine w_ite ?_ | refine w_cmp ?_ | refine w_chain ?_ | refine w_slice ?_ | refine w_oN ?_ | refine w_oS ?_ | refine t_val' ?_ | refine t_cmp' ?_ | refine t_chain' ?_ | refine t_not' ?_ | refine t_and' ?_ | refine t_or' ?_ | refine ts_nil ?_ | refine ts_cons ?_ | refine x_nil ?_ | refine x_cons ?_ | refine x_set ?_ | refine x_expr ?_ | refine x_ret ?_ | refine x_retN ?_ | refine x_ifs ?_ | refine x_setIx ?_ | refine x_unpack ?_ | refine l_add ?_ | refine l_sub ?_ | refine l_eqI ?_ | refine l_neI ?_ | refine l_eqB ?_ | refine l_neB ?_ | refine l_lt ?_ | refine l_le ?_ | refine l_gt ?_ | refine l_ge ?_ | refine ifT' rfl ?_ | refine ifF' rfl ?_ | refine ⟨_, rfl, ?_⟩ | refine ⟨rfl, ?_⟩ | refine ⟨Nat.le_of_ble_eq_true rfl, ?_⟩ | refine WC_some rfl ?_ | refine W_some rfl ?_))
    have st : Stm (.lst [.lst (cells.map .int), .int a, .int p, .int ((s * 48271 + 11) % 2147483647)]) := ⟨cells, a, p, _, rfl, hp⟩
    exact fin_st rfl hn st hR rfl (q _ _ st (Int.emod_nonneg _ (by omega)) (Int.emod_lt_of_pos _ hm))
  · (repeat (first | refine w_var rfl ?_ | refine w_cst ?_ | refine w_glob ?_ | refine w_nil ?_ | refine w_cons ?_ | refine w_bin ?_ | refine w_ix ?_ | refine w_call ?_ | refine w_blt ?_ | refine w_isi ?_ | refine w_tup ?_ | refine w_lstT ?_ | refine w_lstF ?_ | refine e_and ?_ | refine e_or ?_ | refine w_not ?_ | refine w_neg ?_ | refine w_ite ?_ | refine w_cmp ?_ | refine w_chain ?_ | refine w_slice ?_ | refine w_oN ?_ | refine w_oS ?_ | refine t_val' ?_ | refine t_cmp' ?_ | refine t_chain' ?_ | refine t_not' ?_ | refine t_and' ?_ | refine t_or' ?_ | refine ts_nil ?_ | refine ts_cons ?_ | refine x_nil ?_ | refine x_cons ?_ | refine x_set ?_ | refine x_expr ?_ | refine x_ret ?_ | refine x_retN ?_ | refine x_ifs ?_ | refine x_setIx ?_ | refine x_unpack ?_ | refine l_add ?_ | refine l_sub ?_ | refine l_eqI ?_ | refine l_neI ?_ | refine l_eqB ?_ | refine l_neB ?_ | refine l_lt ?_ | refine l_le ?_ | refine l_gt ?_ | refine l_ge ?_ | refine ifT' rfl ?_ | refine ifF' rfl ?_ | refine ⟨_, rfl, ?_⟩ | refine ⟨rfl, ?_⟩ | refine ⟨Nat.le_of_ble_eq_true rfl, ?_⟩ | refine WC_some rfl ?_ | refine W_some rfl ?_))
    refine l_mod hm ?_
    (repeat (first | refine w_var rfl ?_ | refine w_cst ?_ | refine w_glob ?_ | refine w_nil ?_ | refine w_cons ?_ | refine w_bin ?_ | refine w_ix ?_ | refine w_call ?_ | refine w_blt ?_ | refine w_isi ?_ | refine w_tup ?_ | refine w_lstT ?_ | refine w_lstF ?_ | refine e_and ?_ | refine e_or ?_ | refine w_not ?_ | refine w_neg ?_ | refine w_ite ?_ | refine w_cmp ?_ | refine w_chain ?_ | refine w_slice ?_ | refine w_oN ?_ | refine w_oS ?_ | refine t_val' ?_ | refine t_cmp' ?_ | refine t_chain' ?_ | refine t_not' ?_ | refine t_and' ?_ | refine t_or' ?_ | refine ts_nil ?_ | refine ts_cons ?_ | refine x_nil ?_ | refine x_cons ?_ | refine x_set ?_ | refine x_expr ?_ | refine x_ret ?_ | refine x_retN ?_ | refine x_ifs ?_ | refine x_setIx ?_ | refine x_unpack ?_ | refine l_add ?_ | refine l_sub ?_ | refine l_eqI ?_ | refine l_neI ?_ | refine l_eqB ?_ | refine l_neB ?_ | refine l_lt ?_ | refine l_le ?_ | refine l_gt ?_ | refine l_ge ?_ | refine ifT' rfl ?_ | refine ifF' rfl ?_ | refine ⟨_, rfl, ?_⟩ | refine ⟨rfl, ?_⟩ | refine ⟨Nat.le_of_ble_eq_true rfl, ?_⟩ | refine WC_some rfl ?_ | refine W_some rfl ?_))
    refine l_fdiv ⟨hm, hm2⟩ ?_
    (repeat (first | refine w_var rfl ?_ | refine w_cst ?_ | refine w_glob ?_ | refine w_nil ?_ | refine w_cons ?_ | refine w_bin ?_ | refine w_ix ?_ | refine w_call ?_ | refine w_blt ?_ | refine w_isi ?_ | refine w_tup ?_ | refine w_lstT ?_ | refine w_lstF ?_ | refine e_and ?_ | refine e_or ?_ | refine w_not ?_ | refine w_neg ?_ | refine w_ite ?_ | refine w_cmp ?_ | refine w_chain ?_ | refine w_slice ?_ | refine w_oN ?_ | refine w_oS ?_ | refine t_val' ?_ | refine t_cmp' ?_ | refine t_chain' ?_ | refine t_not' ?_ | refine t_and' ?_ | refine t_or' ?_ | refine ts_nil ?_ | refine ts_cons ?_ | refine x_nil ?_ | refine x_cons ?_ | refine x_set ?_ | refine x_expr ?_ | refine x_ret ?_ | refine x_retN ?_ | refine x_ifs ?_ | refine x_setIx ?_ | refine x_unpack ?_ | refine l_add ?_ | refine l_sub ?_ | refine l_eqI ?_ | refine l_neI ?_ | refine l_eqB ?_ | refine l_neB ?_ | refine l_lt ?_ | refine l_le ?_ | refine l_gt ?_ | refine l_ge ?_ | refine ifT' rfl ?_ | refine ifF' rfl ?_ | refine ⟨_, rfl, ?_⟩ | refine ⟨rfl, ?_⟩ | refine ⟨Nat.le_of_ble_eq_true rfl, ?_⟩ | refine WC_some rfl ?_ | refine W_some rfl ?_))
    have st : Stm (.lst [.lst (cells.map .int), .int (a / many), .int p, .int s]) := ⟨cells, _, p, _, rfl, hp⟩
    exact fin_st rfl hn st hR rfl (q _ _ st (Int.emod_nonneg _ (by omega)) (Int.emod_lt_of_pos _ hm))
theorem draw {k : Nat} {many : Int} {o : O} {R : Sto} {Q : D → Sto → Prop} (ho : Stm o) (hR : R.all puO = true) (hm : 0 < many) (hm2 : many < 1073741824)
    (q : ∀ (r : Int) o', Stm o' → 0 ≤ r → r < many → Q (.int r) (o' :: R)) : W (calls pg (k + 1) 7 [.ref 0, .int many] (o :: R)) Q := by
  refine call_run (di := d7) rfl (w_run rfl ?_)
  obtain ⟨cells, a, p, s, rfl, hp⟩ := ho
  refine x_cons ?_
  (repeat (first | refine w_var rfl ?_ | refine w_cst ?_ | refine w_glob ?_ | refine w_nil ?_ | refine w_cons ?_ | refine w_bin ?_ | refine w_ix ?_ | refine w_call ?_ | refine w_blt ?_ | refine w_isi ?_ | refine w_tup ?_ | refine w_lstT ?_ | refine w_lstF ?_ | refine e_and ?_ | refine e_or ?_ | refine w_not ?_ | refine w_neg ?_ | refine w_ite ?_ | refine w_cmp ?_ | refine w_chain ?_ | refine w_slice ?_ | refine w_oN ?_ | refine w_oS ?_ | refine t_val' ?_ | refine t_cmp' ?_ | refine t_chain' ?_ | refine t_not' ?_ | refine t_and' ?_ | refine t_or' ?_ | refine ts_nil ?_ | refine ts_cons ?_ | refine x_nil ?_ | refine x_set ?_ | refine x_expr ?_ | refine x_ret ?_ | refine x_retN ?_ | refine x_ifs ?_ | refine x_setIx ?_ | refine x_unpack ?_ | refine l_add ?_ | refine l_sub ?_ | refine l_eqI ?_ | refine l_neI ?_ | refine l_eqB ?_ | refine l_neB ?_ | refine l_lt ?_ | refine l_le ?_ | refine l_gt ?_ | refine l_ge ?_ | refine ifT' rfl ?_ | refine ifF' rfl ?_ | refine ⟨_, rfl, ?_⟩ | refine ⟨rfl, ?_⟩ | refine ⟨Nat.le_of_ble_eq_true rfl, ?_⟩ | refine WC_some rfl ?_ | refine W_some rfl ?_))
  refine ifB (fun h => ?_) (fun h => ?_)
  · (repeat (first | refine w_var rfl ?_ | refine w_cst ?_ | refine w_glob ?_ | refine w_nil ?_ | refine w_cons ?_ | refine w_bin ?_ | refine w_ix ?_ | refine w_call ?_ | refine w_blt ?_ | refine w_isi ?_ | refine w_tup ?_ | refine w_lstT ?_ | refine w_lstF ?_ | refine e_and ?_ | refine e_or ?_ | refine w_not ?_ | refine w_neg ?_ | refine w_ite ?_ | refine w_cmp ?_ | refine w_chain ?_ | refine w_slice ?_ | refine w_oN ?_ | refine w_oS ?_ | refine t_val' ?_ | refine t_cmp' ?_ | refine t_chain' ?_ | refine t_not' ?_ | refine t_and' ?_ | refine t_or' ?_ | refine ts_nil ?_ | refine ts_cons ?_ | refine x_nil ?_ | refine x_set ?_ | refine x_expr ?_ | refine x_ret ?_ | refine x_retN ?_ | refine x_ifs ?_ | refine x_setIx ?_ | refine x_unpack ?_ | refine l_add ?_ | refine l_sub ?_ | refine l_eqI ?_ | refine l_neI ?_ | refine l_eqB ?_ | refine l_neB ?_ | refine l_lt ?_ | refine l_le ?_ | refine l_gt ?_ | refine l_ge ?_ | refine ifT' rfl ?_ | refine ifF' rfl ?_ | refine ⟨_, rfl, ?_⟩ | refine ⟨rfl, ?_⟩ | refine ⟨Nat.le_of_ble_eq_true rfl, ?_⟩ | refine WC_some rfl ?_ | refine W_some rfl ?_))
    refine ifB (fun h2 => ?_) (fun h2 => ?_)
    · have h2' : p < (cells.length : Int) := by simpa using of_decide_eq_true h2
      have hlt : p.toNat < cells.length := by omega
      refine x_cons ?_
      (repeat (first | refine w_var rfl ?_ | refine w_cst ?_ | refine w_glob ?_ | refine w_nil ?_ | refine w_cons ?_ | refine w_bin ?_ | refine w_ix ?_ | refine w_call ?_ | refine w_blt ?_ | refine w_isi ?_ | refine w_tup ?_ | refine w_lstT ?_ | refine w_lstF ?_ | refine e_and ?_ | refine e_or ?_ | refine w_not ?_ | refine w_neg ?_ | refine w_ite ?_ | refine w_cmp ?_ | refine w_chain ?_ | refine w_slice ?_ | refine w_oN ?_ | refine w_oS ?_ | refine t_val' ?_ | refine t_cmp' ?_ | refine t_chain' ?_ | refine t_not' ?_ | refine t_and' ?_ | refine t_or' ?_ | refine ts_nil ?_ | refine ts_cons ?_ | refine x_nil ?_ | refine x_set ?_ | refine x_expr ?_ | refine x_ret ?_ | refine x_retN ?_ | refine x_ifs ?_ | refine x_setIx ?_ | refine x_unpack ?_ | refine l_add ?_ | refine l_sub ?_ | refine l_eqI ?_ | refine l_neI ?_ | refine l_eqB ?_ | refine l_neB ?_ | refine l_lt ?_ | refine l_le ?_ | refine l_gt ?_ | refine l_ge ?_ | refine ifT' rfl ?_ | refine ifF' rfl ?_ | refine ⟨_, rfl, ?_⟩ | refine ⟨rfl, ?_⟩ | refine ⟨Nat.le_of_ble_eq_true rfl, ?_⟩ | refine WC_some rfl ?_ | refine W_some rfl ?_))
      refine WC_some (d := .int cells[p.toNat]) ?_ ?_
      · show L2.atI (cells.map D.int) p = _
        simp [L2.atI, L2.ixN, hp, h2', hlt]
      · (repeat (first | refine w_var rfl ?_ | refine w_cst ?_ | refine w_glob ?_ | refine w_nil ?_ | refine w_cons ?_ | refine w_bin ?_ | refine w_ix ?_ | refine w_call ?_ | refine w_blt ?_ | refine w_isi ?_ | refine w_tup ?_ | refine w_lstT ?_ | refine w_lstF ?_ | refine e_and ?_ | refine e_or ?_ | refine w_not ?_ | refine w_neg ?_ | refine w_ite ?_ | refine w_cmp ?_ | refine w_chain ?_ | refine w_slice ?_ | refine w_oN ?_ | refine w_oS ?_ | refine t_val' ?_ | refine t_cmp' ?_ | refine t_chain' ?_ | refine t_not' ?_ | refine t_and' ?_ | refine t_or' ?_ | refine ts_nil ?_ | refine ts_cons ?_ | refine x_nil ?_ | refine x_set ?_ | refine x_expr ?_ | refine x_ret ?_ | refine x_retN ?_ | refine x_ifs ?_ | refine x_setIx ?_ | refine x_unpack ?_ | refine l_add ?_ | refine l_sub ?_ | refine l_eqI ?_ | refine l_neI ?_ | refine l_eqB ?_ | refine l_neB ?_ | refine l_lt ?_ | refine l_le ?_ | refine l_gt ?_ | refine l_ge ?_ | refine ifT' rfl ?_ | refine ifF' rfl ?_ | refine ⟨_, rfl, ?_⟩ | refine ⟨rfl, ?_⟩ | refine ⟨Nat.le_of_ble_eq_true rfl, ?_⟩ | refine WC_some rfl ?_ | refine W_some rfl ?_))
        refine x_cons ?_
        (repeat (first | refine w_var rfl ?_ | refine w_cst ?_ | refine w_glob ?_ | refine w_nil ?_ | refine w_cons ?_ | refine w_bin ?_ | refine w_ix ?_ | refine w_call ?_ | refine w_blt ?_ | refine w_isi ?_ | refine w_tup ?_ | refine w_lstT ?_ | refine w_lstF ?_ | refine e_and ?_ | refine e_or ?_ | refine w_not ?_ | refine w_neg ?_ | refine w_ite ?_ | refine w_cmp ?_ | refine w_chain ?_ | refine w_slice ?_ | refine w_oN ?_ | refine w_oS ?_ | refine t_val' ?_ | refine t_cmp' ?_ | refine t_chain' ?_ | refine t_not' ?_ | refine t_and' ?_ | refine t_or' ?_ | refine ts_nil ?_ | refine ts_cons ?_ | refine x_nil ?_ | refine x_set ?_ | refine x_expr ?_ | refine x_ret ?_ | refine x_retN ?_ | refine x_ifs ?_ | refine x_setIx ?_ | refine x_unpack ?_ | refine l_add ?_ | refine l_sub ?_ | refine l_eqI ?_ | refine l_neI ?_ | refine l_eqB ?_ | refine l_neB ?_ | refine l_lt ?_ | refine l_le ?_ | refine l_gt ?_ | refine l_ge ?_ | refine ifT' rfl ?_ | refine ifF' rfl ?_ | refine ⟨_, rfl, ?_⟩ | refine ⟨rfl, ?_⟩ | refine ⟨Nat.le_of_ble_eq_true rfl, ?_⟩ | refine WC_some rfl ?_ | refine W_some rfl ?_))
        exact draw_tail rfl (by omega) hR hm hm2 q
    · refine x_nil ?_
      exact draw_tail rfl hp hR hm hm2 q
  · refine ifF' rfl ?_
    refine x_nil ?_
    exact draw_tail rfl hp hR hm hm2 q
/-! values that may be looked at: nothing written, texts short -/
mutual
def gd : D → Bool
  | .non => true
  | .bl _ => true
  | .int _ => true
  | .str s => s.cps.all (· < 0x110000) && decide (s.cps.size ≤ 100)
  | .tup l => decide (l.length ≤ 60) && gds l
  | .lst l => decide (l.length ≤ 60) && gds l
  | .fzl _ => false
  | .ref _ => false
def gds : List D → Bool
  | [] => true
  | d :: r => gd d && gds r
end
mutual
theorem gd_pu : ∀ {d : D}, gd d = true → puD d = true
  | .non, _ => rfl
  | .bl _, _ => rfl
  | .int _, _ => rfl
  | .str _, _ => rfl
  | .tup l, h => by simp only [gd, Bool.and_eq_true] at h; simp only [puD]; exact gds_pu h.2
  | .lst l, h => by simp only [gd, Bool.and_eq_true] at h; simp only [puD]; exact gds_pu h.2
  | .fzl _, h => by simp [gd] at h
  | .ref _, h => by simp [gd] at h
theorem gds_pu : ∀ {l : List D}, gds l = true → puL l = true
  | [], _ => rfl
  | d :: r, h => by
    simp only [gds, Bool.and_eq_true] at h
    simp only [puL, Bool.and_eq_true]
    exact ⟨gd_pu h.1, gds_pu h.2⟩
end
theorem gds_get {l : List D} (h : gds l = true) {i : Nat} {d : D} (e : l[i]? = some d) : gd d = true := by
  induction l generalizing i with
  | nil => simp at e
  | cons a l ih =>
    simp only [gds, Bool.and_eq_true] at h
    cases i with
    | zero => simp at e; subst e; exact h.1
    | succ i => exact ih h.2 (by simpa using e)
theorem fin_same {df : Df} {d : D} {S : Sto} {Q : D → Sto → Prop} (hk : df.keep = false) (hS : S.all puO = true) (hd : puD d = true) (q : Q d S) : W (fin df S.length d S) Q := by
  refine fin_pure hk hd (by rw [List.take_length]; exact hS) ?_
  rw [List.take_length]
  exact q
theorem pick {k : Nat} {rows : D} {l : List D} {o : O} {R : Sto} {Q : D → Sto → Prop} (hr : rows = .lst l ∨ rows = .tup l) (h0 : 0 < l.length) (hz : l.length < 1073741824) (hp : puL l = true) (ho : Stm o) (hR : R.all puO = true)
    (q : ∀ (i : Nat) d o', Stm o' → l[i]? = some d → Q d (o' :: R)) : W (calls pg (k + 2) 8 [.ref 0, rows] (o :: R)) Q := by
  refine call_run (di := d8) rfl (w_run rfl ?_)
  rcases hr with rfl | rfl <;>
  · (repeat (first | refine w_var rfl ?_ | refine w_cst ?_ | refine w_glob ?_ | refine w_nil ?_ | refine w_cons ?_ | refine w_bin ?_ | refine w_ix ?_ | refine w_call ?_ | refine w_blt ?_ | refine w_isi ?_ | refine w_tup ?_ | refine w_lstT ?_ | refine w_lstF ?_ | refine e_and ?_ | refine e_or ?_ | refine w_not ?_ | refine w_neg ?_ | refine w_ite ?_ | refine w_cmp ?_ | refine w_chain ?_ | refine w_slice ?_ | refine w_oN ?_ | refine w_oS ?_ | refine t_val' ?_ | refine t_cmp' ?_ | refine t_chain' ?_ | refine t_not' ?_ | refine t_and' ?_ | refine t_or' ?_ | refine ts_nil ?_ | refine ts_cons ?_ | refine x_nil ?_ | refine x_cons ?_ | refine x_set ?_ | refine x_expr ?_ | refine x_ret ?_ | refine x_retN ?_ | refine x_ifs ?_ | refine x_setIx ?_ | refine x_unpack ?_ | refine l_add ?_ | refine l_sub ?_ | refine l_eqI ?_ | refine l_neI ?_ | refine l_eqB ?_ | refine l_neB ?_ | refine l_lt ?_ | refine l_le ?_ | refine l_gt ?_ | refine l_ge ?_ | refine ifT' rfl ?_ | refine ifF' rfl ?_ | refine ⟨_, rfl, ?_⟩ | refine ⟨rfl, ?_⟩ | refine ⟨Nat.le_of_ble_eq_true rfl, ?_⟩ | refine WC_some rfl ?_ | refine W_some rfl ?_))
    refine draw ho hR (by omega) (by omega) fun r o' ho' h1 h2 => ?_
    have hlt : r.toNat < l.length := by omega
    refine WC_some (d := l[r.toNat]) ?_ ?_
    · show L2.atI l r = _
      simp [L2.atI, L2.ixN, h1, h2, hlt]
    · exact fin_st rfl rfl ho' hR (puL_get hp (List.getElem?_eq_getElem hlt)) (q r.toNat _ o' ho' (List.getElem?_eq_getElem hlt))
theorem same {k : Nat} {x y : Bool} {S : Sto} {Q : D → Sto → Prop} (hS : S.all puO = true) (q : Q (.bl (x == y)) S) : W (calls pg (k + 1) 9 [.bl x, .bl y] S) Q := by
  refine call_run (di := d9) rfl (w_run rfl ?_)
  (repeat (first | refine w_var rfl ?_ | refine w_cst ?_ | refine w_glob ?_ | refine w_nil ?_ | refine w_cons ?_ | refine w_bin ?_ | refine w_ix ?_ | refine w_call ?_ | refine w_blt ?_ | refine w_isi ?_ | refine w_tup ?_ | refine w_lstT ?_ | refine w_lstF ?_ | refine e_and ?_ | refine e_or ?_ | refine w_not ?_ | refine w_neg ?_ | refine w_ite ?_ | refine w_cmp ?_ | refine w_chain ?_ | refine w_slice ?_ | refine w_oN ?_ | refine w_oS ?_ | refine t_val' ?_ | refine t_cmp' ?_ | refine t_chain' ?_ | refine t_not' ?_ | refine t_and' ?_ | refine t_or' ?_ | refine ts_nil ?_ | refine ts_cons ?_ | refine x_nil ?_ | refine x_cons ?_ | refine x_set ?_ | refine x_expr ?_ | refine x_ret ?_ | refine x_retN ?_ | refine x_ifs ?_ | refine x_setIx ?_ | refine x_unpack ?_ | refine l_add ?_ | refine l_sub ?_ | refine l_eqI ?_ | refine l_neI ?_ | refine l_eqB ?_ | refine l_neB ?_ | refine l_lt ?_ | refine l_le ?_ | refine l_gt ?_ | refine l_ge ?_ | refine ifT' rfl ?_ | refine ifF' rfl ?_ | refine ⟨_, rfl, ?_⟩ | refine ⟨rfl, ?_⟩ | refine ⟨Nat.le_of_ble_eq_true rfl, ?_⟩ | refine WC_some rfl ?_ | refine W_some rfl ?_))
  exact fin_same rfl hS rfl q
def wholeB : D → Int → Bool
  | .int i, m => decide (0 ≤ i) && decide (i ≤ m)
  | _, _ => false
theorem whole {k : Nat} {v : D} {m : Int} {S : Sto} {Q : D → Sto → Prop} (hv : gd v = true) (hS : S.all puO = true) (q : Q (.bl (wholeB v m)) S) : W (calls pg (k + 1) 2 [v, .int m] S) Q := by
  refine call_run (di := d2) rfl (w_run rfl ?_)
  cases v with
  | int i =>
    (repeat (first | refine w_var rfl ?_ | refine w_cst ?_ | refine w_glob ?_ | refine w_nil ?_ | refine w_cons ?_ | refine w_bin ?_ | refine w_ix ?_ | refine w_call ?_ | refine w_blt ?_ | refine w_isi ?_ | refine w_tup ?_ | refine w_lstT ?_ | refine w_lstF ?_ | refine e_and ?_ | refine e_or ?_ | refine w_not ?_ | refine w_neg ?_ | refine w_ite ?_ | refine w_cmp ?_ | refine w_chain ?_ | refine w_slice ?_ | refine w_oN ?_ | refine w_oS ?_ | refine t_val' ?_ | refine t_cmp' ?_ | refine t_chain' ?_ | refine t_not' ?_ | refine t_and' ?_ | refine t_or' ?_ | refine ts_nil ?_ | refine ts_cons ?_ | refine x_nil ?_ | refine x_cons ?_ | refine x_set ?_ | refine x_expr ?_ | refine x_ret ?_ | refine x_retN ?_ | refine x_ifs ?_ | refine x_setIx ?_ | refine x_unpack ?_ | refine l_add ?_ | refine l_sub ?_ | refine l_eqI ?_ | refine l_neI ?_ | refine l_eqB ?_ | refine l_neB ?_ | refine l_lt ?_ | refine l_le ?_ | refine l_gt ?_ | refine l_ge ?_ | refine ifT' rfl ?_ | refine ifF' rfl ?_ | refine ⟨_, rfl, ?_⟩ | refine ⟨rfl, ?_⟩ | refine ⟨Nat.le_of_ble_eq_true rfl, ?_⟩ | refine WC_some rfl ?_ | refine W_some rfl ?_))
    refine ifB (fun h => ?_) (fun h => ?_)
    · (repeat (first | refine w_var rfl ?_ | refine w_cst ?_ | refine w_glob ?_ | refine w_nil ?_ | refine w_cons ?_ | refine w_bin ?_ | refine w_ix ?_ | refine w_call ?_ | refine w_blt ?_ | refine w_isi ?_ | refine w_tup ?_ | refine w_lstT ?_ | refine w_lstF ?_ | refine e_and ?_ | refine e_or ?_ | refine w_not ?_ | refine w_neg ?_ | refine w_ite ?_ | refine w_cmp ?_ | refine w_chain ?_ | refine w_slice ?_ | refine w_oN ?_ | refine w_oS ?_ | refine t_val' ?_ | refine t_cmp' ?_ | refine t_chain' ?_ | refine t_not' ?_ | refine t_and' ?_ | refine t_or' ?_ | refine ts_nil ?_ | refine ts_cons ?_ | refine x_nil ?_ | refine x_cons ?_ | refine x_set ?_ | refine x_expr ?_ | refine x_ret ?_ | refine x_retN ?_ | refine x_ifs ?_ | refine x_setIx ?_ | refine x_unpack ?_ | refine l_add ?_ | refine l_sub ?_ | refine l_eqI ?_ | refine l_neI ?_ | refine l_eqB ?_ | refine l_neB ?_ | refine l_lt ?_ | refine l_le ?_ | refine l_gt ?_ | refine l_ge ?_ | refine ifT' rfl ?_ | refine ifF' rfl ?_ | refine ⟨_, rfl, ?_⟩ | refine ⟨rfl, ?_⟩ | refine ⟨Nat.le_of_ble_eq_true rfl, ?_⟩ | refine WC_some rfl ?_ | refine W_some rfl ?_))
      refine fin_same rfl hS rfl ?_
      simpa [wholeB, h] using q
    · refine fin_same rfl hS rfl ?_
      simpa [wholeB, h] using q
  | fzl _ => simp [gd] at hv
  | ref _ => simp [gd] at hv
  | _ =>
    (repeat (first | refine w_var rfl ?_ | refine w_cst ?_ | refine w_glob ?_ | refine w_nil ?_ | refine w_cons ?_ | refine w_bin ?_ | refine w_ix ?_ | refine w_call ?_ | refine w_blt ?_ | refine w_isi ?_ | refine w_tup ?_ | refine w_lstT ?_ | refine w_lstF ?_ | refine e_and ?_ | refine e_or ?_ | refine w_not ?_ | refine w_neg ?_ | refine w_ite ?_ | refine w_cmp ?_ | refine w_chain ?_ | refine w_slice ?_ | refine w_oN ?_ | refine w_oS ?_ | refine t_val' ?_ | refine t_cmp' ?_ | refine t_chain' ?_ | refine t_not' ?_ | refine t_and' ?_ | refine t_or' ?_ | refine ts_nil ?_ | refine ts_cons ?_ | refine x_nil ?_ | refine x_cons ?_ | refine x_set ?_ | refine x_expr ?_ | refine x_ret ?_ | refine x_retN ?_ | refine x_ifs ?_ | refine x_setIx ?_ | refine x_unpack ?_ | refine l_add ?_ | refine l_sub ?_ | refine l_eqI ?_ | refine l_neI ?_ | refine l_eqB ?_ | refine l_neB ?_ | refine l_lt ?_ | refine l_le ?_ | refine l_gt ?_ | refine l_ge ?_ | refine ifT' rfl ?_ | refine ifF' rfl ?_ | refine ⟨_, rfl, ?_⟩ | refine ⟨rfl, ?_⟩ | refine ⟨Nat.le_of_ble_eq_true rfl, ?_⟩ | refine WC_some rfl ?_ | refine W_some rfl ?_))
    exact fin_same rfl hS rfl q
theorem number {k : Nat} {v : D} {m : Int} {S : Sto} {Q : D → Sto → Prop} (hv : gd v = true) (hS : S.all puO = true) (q : Q (.bl (wholeB v m)) S) : W (calls pg (k + 1) 12 [v, .int m] S) Q := by
  refine call_run (di := d12) rfl (w_run rfl ?_)
  cases v with
  | int i =>
    (repeat (first | refine w_var rfl ?_ | refine w_cst ?_ | refine w_glob ?_ | refine w_nil ?_ | refine w_cons ?_ | refine w_bin ?_ | refine w_ix ?_ | refine w_call ?_ | refine w_blt ?_ | refine w_isi ?_ | refine w_tup ?_ | refine w_lstT ?_ | refine w_lstF ?_ | refine e_and ?_ | refine e_or ?_ | refine w_not ?_ | refine w_neg ?_ | refine w_ite ?_ | refine w_cmp ?_ | refine w_chain ?_ | refine w_slice ?_ | refine w_oN ?_ | refine w_oS ?_ | refine t_val' ?_ | refine t_cmp' ?_ | refine t_chain' ?_ | refine t_not' ?_ | refine t_and' ?_ | refine t_or' ?_ | refine ts_nil ?_ | refine ts_cons ?_ | refine x_nil ?_ | refine x_cons ?_ | refine x_set ?_ | refine x_expr ?_ | refine x_ret ?_ | refine x_retN ?_ | refine x_ifs ?_ | refine x_setIx ?_ | refine x_unpack ?_ | refine l_add ?_ | refine l_sub ?_ | refine l_eqI ?_ | refine l_neI ?_ | refine l_eqB ?_ | refine l_neB ?_ | refine l_lt ?_ | refine l_le ?_ | refine l_gt ?_ | refine l_ge ?_ | refine ifT' rfl ?_ | refine ifF' rfl ?_ | refine ⟨_, rfl, ?_⟩ | refine ⟨rfl, ?_⟩ | refine ⟨Nat.le_of_ble_eq_true rfl, ?_⟩ | refine WC_some rfl ?_ | refine W_some rfl ?_))
    refine ifB (fun h => ?_) (fun h => ?_)
    · (repeat (first | refine w_var rfl ?_ | refine w_cst ?_ | refine w_glob ?_ | refine w_nil ?_ | refine w_cons ?_ | refine w_bin ?_ | refine w_ix ?_ | refine w_call ?_ | refine w_blt ?_ | refine w_isi ?_ | refine w_tup ?_ | refine w_lstT ?_ | refine w_lstF ?_ | refine e_and ?_ | refine e_or ?_ | refine w_not ?_ | refine w_neg ?_ | refine w_ite ?_ | refine w_cmp ?_ | refine w_chain ?_ | refine w_slice ?_ | refine w_oN ?_ | refine w_oS ?_ | refine t_val' ?_ | refine t_cmp' ?_ | refine t_chain' ?_ | refine t_not' ?_ | refine t_and' ?_ | refine t_or' ?_ | refine ts_nil ?_ | refine ts_cons ?_ | refine x_nil ?_ | refine x_cons ?_ | refine x_set ?_ | refine x_expr ?_ | refine x_ret ?_ | refine x_retN ?_ | refine x_ifs ?_ | refine x_setIx ?_ | refine x_unpack ?_ | refine l_add ?_ | refine l_sub ?_ | refine l_eqI ?_ | refine l_neI ?_ | refine l_eqB ?_ | refine l_neB ?_ | refine l_lt ?_ | refine l_le ?_ | refine l_gt ?_ | refine l_ge ?_ | refine ifT' rfl ?_ | refine ifF' rfl ?_ | refine ⟨_, rfl, ?_⟩ | refine ⟨rfl, ?_⟩ | refine ⟨Nat.le_of_ble_eq_true rfl, ?_⟩ | refine WC_some rfl ?_ | refine W_some rfl ?_))
      refine fin_same rfl hS rfl ?_
      simpa [wholeB, h] using q
    · refine fin_same rfl hS rfl ?_
      simpa [wholeB, h] using q
  | fzl _ => simp [gd] at hv
  | ref _ => simp [gd] at hv
  | _ =>
    (repeat (first | refine w_var rfl ?_ | refine w_cst ?_ | refine w_glob ?_ | refine w_nil ?_ | refine w_cons ?_ | refine w_bin ?_ | refine w_ix ?_ | refine w_call ?_ | refine w_blt ?_ | refine w_isi ?_ | refine w_tup ?_ | refine w_lstT ?_ | refine w_lstF ?_ | refine e_and ?_ | refine e_or ?_ | refine w_not ?_ | refine w_neg ?_ | refine w_ite ?_ | refine w_cmp ?_ | refine w_chain ?_ | refine w_slice ?_ | refine w_oN ?_ | refine w_oS ?_ | refine t_val' ?_ | refine t_cmp' ?_ | refine t_chain' ?_ | refine t_not' ?_ | refine t_and' ?_ | refine t_or' ?_ | refine ts_nil ?_ | refine ts_cons ?_ | refine x_nil ?_ | refine x_cons ?_ | refine x_set ?_ | refine x_expr ?_ | refine x_ret ?_ | refine x_retN ?_ | refine x_ifs ?_ | refine x_setIx ?_ | refine x_unpack ?_ | refine l_add ?_ | refine l_sub ?_ | refine l_eqI ?_ | refine l_neI ?_ | refine l_eqB ?_ | refine l_neB ?_ | refine l_lt ?_ | refine l_le ?_ | refine l_gt ?_ | refine l_ge ?_ | refine ifT' rfl ?_ | refine ifF' rfl ?_ | refine ⟨_, rfl, ?_⟩ | refine ⟨rfl, ?_⟩ | refine ⟨Nat.le_of_ble_eq_true rfl, ?_⟩ | refine WC_some rfl ?_ | refine W_some rfl ?_))
    exact fin_same rfl hS rfl q
end Tt.L
end

section
/-! k16: names. -/
namespace Tt.L
open PySem Tt Tt.P
def LET : List Nat := ("abcdefghijklmnopqrstuvwxyzABCDEFGHIJKLMNOPQRSTUVWXYZ" : Str).cps.toList
def GO : List Nat := ("abcdefghijklmnopqrstuvwxyzABCDEFGHIJKLMNOPQRSTUVWXYZ0123456789_" : Str).cps.toList
def VAR : List Nat := ("uvwxyz" : Str).cps.toList
def bodyS (w : Str) : Str := if Txt.endswith w "#" = true then L2.cutS w none (some (-1)) else w
def inB (l : List Nat) (c : Nat) : Bool := decide (c ∈ l)
def nameB (w : Str) : Bool := match w.cps.toList with
  | [] => false
  | c :: _ => !decide (8 < (w.length : Int)) && (inB LET c && (bodyS w).cps.toList.all (inB GO))
theorem small100 {n : Nat} (h : n ≤ 100) : n ≤ sizeLine := Nat.le_trans h (by decide)
/-- all signs of a text are among some -/
theorem signs {cal : Cal} {d : Nat} {env : En} {S : Sto} {Q : D → Sto → Prop} {own : List Nat} {tg : Tg} {e elt : E} {w : Str} {g : Nat → Bool} (hz : w.cps.size ≤ sizeLine)
    (he : W (ev cal d e env S) fun x S1 => x = .str w ∧ S1 = S)
    (h : ∀ c, ∃ env1, bindT tg (.str ⟨#[c]⟩) (wipeD env own) = some env1 ∧ W (ev cal d elt env1 S) fun z S2 => z = .bl (g c) ∧ S2 = S)
    (q : Q (.lst (w.cps.toList.map fun c => .bl (g c))) S) : W (ev cal (d + 1) (.comp true own tg (.seq e) [] elt) env S) Q := by
  refine w_mapR (chars w) (w.cps.toList.map fun c => .bl (g c)) (by rw [chars_length]; exact hz) (by simp [chars]) (r_seq (he.mono fun x S1 ⟨e1, e2⟩ => ?_))
  subst e1 e2
  refine WC_some rfl ⟨(chars_length w).symm, rfl, fun i x y hx hy => ?_, q⟩
  simp only [chars, List.getElem?_map, Option.map_eq_some_iff] at hx hy
  obtain ⟨c, hc, rfl⟩ := hx
  obtain ⟨c', hc', rfl⟩ := hy
  rw [hc] at hc'; cases hc'
  exact h c
theorem name {k : Nat} {w : Str} {S : Sto} {Q : D → Sto → Prop} (hw : w.cps.all (· < 0x110000) = true) (hz : w.cps.size ≤ 100) (hS : S.all puO = true) (q : Q (.bl (nameB w)) S) : W (calls pg (k + 1) 0 [.str w] S) Q := by
  refine call_run (di := d0) rfl (w_run rfl ?_)
  have hl : w.length ≤ sizeLine := small100 hz
  refine x_cons ?_
  refine x_ifs ?_
  refine t_or' ?_
  (repeat (first | refine w_var rfl ?_ | refine w_cst ?_ | refine w_glob ?_ | refine w_nil ?_ | refine w_cons ?_ | refine w_bin ?_ | refine w_ix ?_ | refine w_call ?_ | refine w_blt ?_ | refine w_isi ?_ | refine w_tup ?_ | refine w_lstT ?_ | refine w_lstF ?_ | refine e_and ?_ | refine e_or ?_ | refine w_not ?_ | refine w_neg ?_ | refine w_ite ?_ | refine w_cmp ?_ | refine w_chain ?_ | refine w_slice ?_ | refine w_oN ?_ | refine w_oS ?_ | refine t_val' ?_ | refine t_cmp' ?_ | refine t_chain' ?_ | refine t_not' ?_ | refine t_and' ?_ | refine t_or' ?_ | refine ts_nil ?_ | refine ts_cons ?_ | refine x_nil ?_ | refine x_set ?_ | refine x_expr ?_ | refine x_ret ?_ | refine x_retN ?_ | refine x_ifs ?_ | refine x_setIx ?_ | refine x_unpack ?_ | refine l_add ?_ | refine l_sub ?_ | refine l_eqI ?_ | refine l_neI ?_ | refine l_eqB ?_ | refine l_neB ?_ | refine l_lt ?_ | refine l_le ?_ | refine l_gt ?_ | refine l_ge ?_ | refine ifT' rfl ?_ | refine ifF' rfl ?_ | refine ⟨_, rfl, ?_⟩ | refine ⟨rfl, ?_⟩ | refine ⟨Nat.le_of_ble_eq_true rfl, ?_⟩ | refine WC_some rfl ?_ | refine W_some rfl ?_))
  refine l_eqS hw (by decide +kernel) ?_
  refine ifB (fun h => ?_) (fun h => ?_)
  · have : w = "" := by simpa using h
    subst this
    (repeat (first | refine w_var rfl ?_ | refine w_cst ?_ | refine w_glob ?_ | refine w_nil ?_ | refine w_cons ?_ | refine w_bin ?_ | refine w_ix ?_ | refine w_call ?_ | refine w_blt ?_ | refine w_isi ?_ | refine w_tup ?_ | refine w_lstT ?_ | refine w_lstF ?_ | refine e_and ?_ | refine e_or ?_ | refine w_not ?_ | refine w_neg ?_ | refine w_ite ?_ | refine w_cmp ?_ | refine w_chain ?_ | refine w_slice ?_ | refine w_oN ?_ | refine w_oS ?_ | refine t_val' ?_ | refine t_cmp' ?_ | refine t_chain' ?_ | refine t_not' ?_ | refine t_and' ?_ | refine t_or' ?_ | refine ts_nil ?_ | refine ts_cons ?_ | refine x_nil ?_ | refine x_cons ?_ | refine x_set ?_ | refine x_expr ?_ | refine x_ret ?_ | refine x_retN ?_ | refine x_ifs ?_ | refine x_setIx ?_ | refine x_unpack ?_ | refine l_add ?_ | refine l_sub ?_ | refine l_eqI ?_ | refine l_neI ?_ | refine l_eqB ?_ | refine l_neB ?_ | refine l_lt ?_ | refine l_le ?_ | refine l_gt ?_ | refine l_ge ?_ | refine ifT' rfl ?_ | refine ifF' rfl ?_ | refine ⟨_, rfl, ?_⟩ | refine ⟨rfl, ?_⟩ | refine ⟨Nat.le_of_ble_eq_true rfl, ?_⟩ | refine WC_some rfl ?_ | refine W_some rfl ?_))
    exact fin_same rfl hS rfl q
  obtain ⟨c, cs, hc⟩ : ∃ c cs, w.cps.toList = c :: cs := by
    cases e : w.cps.toList with
    | nil =>
      have : w = "" := by
        cases w with
        | mk a => cases a with
          | mk l => have : l = [] := e; subst this; rfl
      simp [this] at h
    | cons c cs => exact ⟨c, cs, rfl⟩
  have e0 : nameB w = (!decide (8 < (w.length : Int)) && (inB LET c && (bodyS w).cps.toList.all (inB GO))) := by unfold nameB; rw [hc]
  (repeat (first | refine w_var rfl ?_ | refine w_cst ?_ | refine w_glob ?_ | refine w_nil ?_ | refine w_cons ?_ | refine w_bin ?_ | refine w_ix ?_ | refine w_call ?_ | refine w_blt ?_ | refine w_isi ?_ | refine w_tup ?_ | refine w_lstT ?_ | refine w_lstF ?_ | refine e_and ?_ | refine e_or ?_ | refine w_not ?_ | refine w_neg ?_ | refine w_ite ?_ | refine w_cmp ?_ | refine w_chain ?_ | refine w_slice ?_ | refine w_oN ?_ | refine w_oS ?_ | refine t_val' ?_ | refine t_cmp' ?_ | refine t_chain' ?_ | refine t_not' ?_ | refine t_and' ?_ | refine t_or' ?_ | refine ts_nil ?_ | refine ts_cons ?_ | refine x_nil ?_ | refine x_set ?_ | refine x_expr ?_ | refine x_ret ?_ | refine x_retN ?_ | refine x_ifs ?_ | refine x_setIx ?_ | refine x_unpack ?_ | refine l_add ?_ | refine l_sub ?_ | refine l_eqI ?_ | refine l_neI ?_ | refine l_eqB ?_ | refine l_neB ?_ | refine l_lt ?_ | refine l_le ?_ | refine l_gt ?_ | refine l_ge ?_ | refine ifT' rfl ?_ | refine ifF' rfl ?_ | refine ⟨_, rfl, ?_⟩ | refine ⟨rfl, ?_⟩ | refine ⟨Nat.le_of_ble_eq_true rfl, ?_⟩ | refine WC_some rfl ?_ | refine W_some rfl ?_))
  refine l_lenS hl ?_
  (repeat (first | refine w_var rfl ?_ | refine w_cst ?_ | refine w_glob ?_ | refine w_nil ?_ | refine w_cons ?_ | refine w_bin ?_ | refine w_ix ?_ | refine w_call ?_ | refine w_blt ?_ | refine w_isi ?_ | refine w_tup ?_ | refine w_lstT ?_ | refine w_lstF ?_ | refine e_and ?_ | refine e_or ?_ | refine w_not ?_ | refine w_neg ?_ | refine w_ite ?_ | refine w_cmp ?_ | refine w_chain ?_ | refine w_slice ?_ | refine w_oN ?_ | refine w_oS ?_ | refine t_val' ?_ | refine t_cmp' ?_ | refine t_chain' ?_ | refine t_not' ?_ | refine t_and' ?_ | refine t_or' ?_ | refine ts_nil ?_ | refine ts_cons ?_ | refine x_nil ?_ | refine x_set ?_ | refine x_expr ?_ | refine x_ret ?_ | refine x_retN ?_ | refine x_ifs ?_ | refine x_setIx ?_ | refine x_unpack ?_ | refine l_add ?_ | refine l_sub ?_ | refine l_eqI ?_ | refine l_neI ?_ | refine l_eqB ?_ | refine l_neB ?_ | refine l_lt ?_ | refine l_le ?_ | refine l_gt ?_ | refine l_ge ?_ | refine ifT' rfl ?_ | refine ifF' rfl ?_ | refine ⟨_, rfl, ?_⟩ | refine ⟨rfl, ?_⟩ | refine ⟨Nat.le_of_ble_eq_true rfl, ?_⟩ | refine WC_some rfl ?_ | refine W_some rfl ?_))
  refine ifB (fun h8 => ?_) (fun h8 => ?_)
  · (repeat (first | refine w_var rfl ?_ | refine w_cst ?_ | refine w_glob ?_ | refine w_nil ?_ | refine w_cons ?_ | refine w_bin ?_ | refine w_ix ?_ | refine w_call ?_ | refine w_blt ?_ | refine w_isi ?_ | refine w_tup ?_ | refine w_lstT ?_ | refine w_lstF ?_ | refine e_and ?_ | refine e_or ?_ | refine w_not ?_ | refine w_neg ?_ | refine w_ite ?_ | refine w_cmp ?_ | refine w_chain ?_ | refine w_slice ?_ | refine w_oN ?_ | refine w_oS ?_ | refine t_val' ?_ | refine t_cmp' ?_ | refine t_chain' ?_ | refine t_not' ?_ | refine t_and' ?_ | refine t_or' ?_ | refine ts_nil ?_ | refine ts_cons ?_ | refine x_nil ?_ | refine x_cons ?_ | refine x_set ?_ | refine x_expr ?_ | refine x_ret ?_ | refine x_retN ?_ | refine x_ifs ?_ | refine x_setIx ?_ | refine x_unpack ?_ | refine l_add ?_ | refine l_sub ?_ | refine l_eqI ?_ | refine l_neI ?_ | refine l_eqB ?_ | refine l_neB ?_ | refine l_lt ?_ | refine l_le ?_ | refine l_gt ?_ | refine l_ge ?_ | refine ifT' rfl ?_ | refine ifF' rfl ?_ | refine ⟨_, rfl, ?_⟩ | refine ⟨rfl, ?_⟩ | refine ⟨Nat.le_of_ble_eq_true rfl, ?_⟩ | refine WC_some rfl ?_ | refine W_some rfl ?_))
    refine fin_same rfl hS rfl ?_
    rw [e0, h8] at q
    exact q
  (repeat (first | refine w_var rfl ?_ | refine w_cst ?_ | refine w_glob ?_ | refine w_nil ?_ | refine w_cons ?_ | refine w_bin ?_ | refine w_ix ?_ | refine w_call ?_ | refine w_blt ?_ | refine w_isi ?_ | refine w_tup ?_ | refine w_lstT ?_ | refine w_lstF ?_ | refine e_and ?_ | refine e_or ?_ | refine w_not ?_ | refine w_neg ?_ | refine w_ite ?_ | refine w_cmp ?_ | refine w_chain ?_ | refine w_slice ?_ | refine w_oN ?_ | refine w_oS ?_ | refine t_val' ?_ | refine t_cmp' ?_ | refine t_chain' ?_ | refine t_not' ?_ | refine t_and' ?_ | refine t_or' ?_ | refine ts_nil ?_ | refine ts_cons ?_ | refine x_nil ?_ | refine x_set ?_ | refine x_expr ?_ | refine x_ret ?_ | refine x_retN ?_ | refine x_ifs ?_ | refine x_setIx ?_ | refine x_unpack ?_ | refine l_add ?_ | refine l_sub ?_ | refine l_eqI ?_ | refine l_neI ?_ | refine l_eqB ?_ | refine l_neB ?_ | refine l_lt ?_ | refine l_le ?_ | refine l_gt ?_ | refine l_ge ?_ | refine ifT' rfl ?_ | refine ifF' rfl ?_ | refine ⟨_, rfl, ?_⟩ | refine ⟨rfl, ?_⟩ | refine ⟨Nat.le_of_ble_eq_true rfl, ?_⟩ | refine WC_some rfl ?_ | refine W_some rfl ?_))
  refine l_ixS (i := 0) (c := c) hl (by rw [hc]; rfl) ?_
  (repeat (first | refine w_var rfl ?_ | refine w_cst ?_ | refine w_glob ?_ | refine w_nil ?_ | refine w_cons ?_ | refine w_bin ?_ | refine w_ix ?_ | refine w_call ?_ | refine w_blt ?_ | refine w_isi ?_ | refine w_tup ?_ | refine w_lstT ?_ | refine w_lstF ?_ | refine e_and ?_ | refine e_or ?_ | refine w_not ?_ | refine w_neg ?_ | refine w_ite ?_ | refine w_cmp ?_ | refine w_chain ?_ | refine w_slice ?_ | refine w_oN ?_ | refine w_oS ?_ | refine t_val' ?_ | refine t_cmp' ?_ | refine t_chain' ?_ | refine t_not' ?_ | refine t_and' ?_ | refine t_or' ?_ | refine ts_nil ?_ | refine ts_cons ?_ | refine x_nil ?_ | refine x_set ?_ | refine x_expr ?_ | refine x_ret ?_ | refine x_retN ?_ | refine x_ifs ?_ | refine x_setIx ?_ | refine x_unpack ?_ | refine l_add ?_ | refine l_sub ?_ | refine l_eqI ?_ | refine l_neI ?_ | refine l_eqB ?_ | refine l_neB ?_ | refine l_lt ?_ | refine l_le ?_ | refine l_gt ?_ | refine l_ge ?_ | refine ifT' rfl ?_ | refine ifF' rfl ?_ | refine ⟨_, rfl, ?_⟩ | refine ⟨rfl, ?_⟩ | refine ⟨Nat.le_of_ble_eq_true rfl, ?_⟩ | refine WC_some rfl ?_ | refine W_some rfl ?_))
  refine ifB (fun hc1 => ?_) (fun hc1 => ?_)
  · (repeat (first | refine w_var rfl ?_ | refine w_cst ?_ | refine w_glob ?_ | refine w_nil ?_ | refine w_cons ?_ | refine w_bin ?_ | refine w_ix ?_ | refine w_call ?_ | refine w_blt ?_ | refine w_isi ?_ | refine w_tup ?_ | refine w_lstT ?_ | refine w_lstF ?_ | refine e_and ?_ | refine e_or ?_ | refine w_not ?_ | refine w_neg ?_ | refine w_ite ?_ | refine w_cmp ?_ | refine w_chain ?_ | refine w_slice ?_ | refine w_oN ?_ | refine w_oS ?_ | refine t_val' ?_ | refine t_cmp' ?_ | refine t_chain' ?_ | refine t_not' ?_ | refine t_and' ?_ | refine t_or' ?_ | refine ts_nil ?_ | refine ts_cons ?_ | refine x_nil ?_ | refine x_cons ?_ | refine x_set ?_ | refine x_expr ?_ | refine x_ret ?_ | refine x_retN ?_ | refine x_ifs ?_ | refine x_setIx ?_ | refine x_unpack ?_ | refine l_add ?_ | refine l_sub ?_ | refine l_eqI ?_ | refine l_neI ?_ | refine l_eqB ?_ | refine l_neB ?_ | refine l_lt ?_ | refine l_le ?_ | refine l_gt ?_ | refine l_ge ?_ | refine ifT' rfl ?_ | refine ifF' rfl ?_ | refine ⟨_, rfl, ?_⟩ | refine ⟨rfl, ?_⟩ | refine ⟨Nat.le_of_ble_eq_true rfl, ?_⟩ | refine WC_some rfl ?_ | refine W_some rfl ?_))
    refine fin_same rfl hS rfl ?_
    have : inB LET c = false := by simpa [inB, LET] using hc1
    rw [e0, this] at q
    simpa using q
  have hc2 : inB LET c = true := by simpa [inB, LET] using hc1
  rw [e0, h8, hc2] at q
  refine x_nil ?_
  refine x_cons ?_
  refine x_set ?_
  have body : ∀ {Q' : D → Sto → Prop}, Q' (.str (bodyS w)) S → W (ev (calls pg k) 59 (.ite (.val (.meth .endswith (.var 0) [(.cst (.str ("#" : Str)))])) (.slice (.var 0) none (some (.neg (.cst (.int 1))))) (.var 0)) [some (.str w), none, none] S) Q' := by
    intro Q' q'
    refine w_ite ?_
    refine t_val' ?_
    refine w_meth ?_
    (repeat (first | refine w_var rfl ?_ | refine w_cst ?_ | refine w_glob ?_ | refine w_nil ?_ | refine w_cons ?_ | refine w_bin ?_ | refine w_ix ?_ | refine w_call ?_ | refine w_blt ?_ | refine w_isi ?_ | refine w_tup ?_ | refine w_lstT ?_ | refine w_lstF ?_ | refine e_and ?_ | refine e_or ?_ | refine w_not ?_ | refine w_neg ?_ | refine w_ite ?_ | refine w_cmp ?_ | refine w_chain ?_ | refine w_slice ?_ | refine w_oN ?_ | refine w_oS ?_ | refine t_val' ?_ | refine t_cmp' ?_ | refine t_chain' ?_ | refine t_not' ?_ | refine t_and' ?_ | refine t_or' ?_ | refine ts_nil ?_ | refine ts_cons ?_ | refine x_nil ?_ | refine x_set ?_ | refine x_expr ?_ | refine x_ret ?_ | refine x_retN ?_ | refine x_ifs ?_ | refine x_setIx ?_ | refine x_unpack ?_ | refine l_add ?_ | refine l_sub ?_ | refine l_eqI ?_ | refine l_neI ?_ | refine l_eqB ?_ | refine l_neB ?_ | refine l_lt ?_ | refine l_le ?_ | refine l_gt ?_ | refine l_ge ?_ | refine ifT' rfl ?_ | refine ifF' rfl ?_ | refine ⟨_, rfl, ?_⟩ | refine ⟨rfl, ?_⟩ | refine ⟨Nat.le_of_ble_eq_true rfl, ?_⟩ | refine WC_some rfl ?_ | refine W_some rfl ?_))
    refine ifB (fun h => ?_) (fun h => ?_)
    · (repeat (first | refine w_var rfl ?_ | refine w_cst ?_ | refine w_glob ?_ | refine w_nil ?_ | refine w_cons ?_ | refine w_bin ?_ | refine w_ix ?_ | refine w_call ?_ | refine w_blt ?_ | refine w_isi ?_ | refine w_tup ?_ | refine w_lstT ?_ | refine w_lstF ?_ | refine e_and ?_ | refine e_or ?_ | refine w_not ?_ | refine w_neg ?_ | refine w_ite ?_ | refine w_cmp ?_ | refine w_chain ?_ | refine w_slice ?_ | refine w_oN ?_ | refine w_oS ?_ | refine t_val' ?_ | refine t_cmp' ?_ | refine t_chain' ?_ | refine t_not' ?_ | refine t_and' ?_ | refine t_or' ?_ | refine ts_nil ?_ | refine ts_cons ?_ | refine x_nil ?_ | refine x_set ?_ | refine x_expr ?_ | refine x_ret ?_ | refine x_retN ?_ | refine x_ifs ?_ | refine x_setIx ?_ | refine x_unpack ?_ | refine l_add ?_ | refine l_sub ?_ | refine l_eqI ?_ | refine l_neI ?_ | refine l_eqB ?_ | refine l_neB ?_ | refine l_lt ?_ | refine l_le ?_ | refine l_gt ?_ | refine l_ge ?_ | refine ifT' rfl ?_ | refine ifF' rfl ?_ | refine ⟨_, rfl, ?_⟩ | refine ⟨rfl, ?_⟩ | refine ⟨Nat.le_of_ble_eq_true rfl, ?_⟩ | refine WC_some rfl ?_ | refine W_some rfl ?_))
      refine l_slS hl ?_
      have : bodyS w = L2.cutS w none (some (-1)) := by unfold bodyS; rw [if_pos h]
      rw [this] at q'
      exact q'
    · (repeat (first | refine w_var rfl ?_ | refine w_cst ?_ | refine w_glob ?_ | refine w_nil ?_ | refine w_cons ?_ | refine w_bin ?_ | refine w_ix ?_ | refine w_call ?_ | refine w_blt ?_ | refine w_isi ?_ | refine w_tup ?_ | refine w_lstT ?_ | refine w_lstF ?_ | refine e_and ?_ | refine e_or ?_ | refine w_not ?_ | refine w_neg ?_ | refine w_ite ?_ | refine w_cmp ?_ | refine w_chain ?_ | refine w_slice ?_ | refine w_oN ?_ | refine w_oS ?_ | refine t_val' ?_ | refine t_cmp' ?_ | refine t_chain' ?_ | refine t_not' ?_ | refine t_and' ?_ | refine t_or' ?_ | refine ts_nil ?_ | refine ts_cons ?_ | refine x_nil ?_ | refine x_set ?_ | refine x_expr ?_ | refine x_ret ?_ | refine x_retN ?_ | refine x_ifs ?_ | refine x_setIx ?_ | refine x_unpack ?_ | refine l_add ?_ | refine l_sub ?_ | refine l_eqI ?_ | refine l_neI ?_ | refine l_eqB ?_ | refine l_neB ?_ | refine l_lt ?_ | refine l_le ?_ | refine l_gt ?_ | refine l_ge ?_ | refine ifT' rfl ?_ | refine ifF' rfl ?_ | refine ⟨_, rfl, ?_⟩ | refine ⟨rfl, ?_⟩ | refine ⟨Nat.le_of_ble_eq_true rfl, ?_⟩ | refine WC_some rfl ?_ | refine W_some rfl ?_))
      have : bodyS w = w := by unfold bodyS; rw [if_neg (by rw [h]; exact Bool.false_ne_true)]
      rw [this] at q'
      exact q'
  refine body ?_
  have hb : (bodyS w).cps.size ≤ sizeLine := by
    unfold bodyS
    split
    · exact Nat.le_trans (L2.cutS_length w _ _) hl
    · exact hl
  refine x_cons ?_
  refine x_ret ?_
  refine w_blt ?_
  refine w_cons ?_
  refine signs (w := bodyS w) (g := inB GO) hb (by (repeat (first | refine w_var rfl ?_ | refine w_cst ?_ | refine w_glob ?_ | refine w_nil ?_ | refine w_cons ?_ | refine w_bin ?_ | refine w_ix ?_ | refine w_call ?_ | refine w_blt ?_ | refine w_isi ?_ | refine w_tup ?_ | refine w_lstT ?_ | refine w_lstF ?_ | refine e_and ?_ | refine e_or ?_ | refine w_not ?_ | refine w_neg ?_ | refine w_ite ?_ | refine w_cmp ?_ | refine w_chain ?_ | refine w_slice ?_ | refine w_oN ?_ | refine w_oS ?_ | refine t_val' ?_ | refine t_cmp' ?_ | refine t_chain' ?_ | refine t_not' ?_ | refine t_and' ?_ | refine t_or' ?_ | refine ts_nil ?_ | refine ts_cons ?_ | refine x_nil ?_ | refine x_set ?_ | refine x_expr ?_ | refine x_ret ?_ | refine x_retN ?_ | refine x_ifs ?_ | refine x_setIx ?_ | refine x_unpack ?_ | refine l_add ?_ | refine l_sub ?_ | refine l_eqI ?_ | refine l_neI ?_ | refine l_eqB ?_ | refine l_neB ?_ | refine l_lt ?_ | refine l_le ?_ | refine l_gt ?_ | refine l_ge ?_ | refine ifT' rfl ?_ | refine ifF' rfl ?_ | refine ⟨_, rfl, ?_⟩ | refine ⟨rfl, ?_⟩ | refine ⟨Nat.le_of_ble_eq_true rfl, ?_⟩ | refine WC_some rfl ?_ | refine W_some rfl ?_)); exact rfl) (fun c => ⟨_, rfl, ?_⟩) ?_
  · (repeat (first | refine w_var rfl ?_ | refine w_cst ?_ | refine w_glob ?_ | refine w_nil ?_ | refine w_cons ?_ | refine w_bin ?_ | refine w_ix ?_ | refine w_call ?_ | refine w_blt ?_ | refine w_isi ?_ | refine w_tup ?_ | refine w_lstT ?_ | refine w_lstF ?_ | refine e_and ?_ | refine e_or ?_ | refine w_not ?_ | refine w_neg ?_ | refine w_ite ?_ | refine w_cmp ?_ | refine w_chain ?_ | refine w_slice ?_ | refine w_oN ?_ | refine w_oS ?_ | refine t_val' ?_ | refine t_cmp' ?_ | refine t_chain' ?_ | refine t_not' ?_ | refine t_and' ?_ | refine t_or' ?_ | refine ts_nil ?_ | refine ts_cons ?_ | refine x_nil ?_ | refine x_set ?_ | refine x_expr ?_ | refine x_ret ?_ | refine x_retN ?_ | refine x_ifs ?_ | refine x_setIx ?_ | refine x_unpack ?_ | refine l_add ?_ | refine l_sub ?_ | refine l_eqI ?_ | refine l_neI ?_ | refine l_eqB ?_ | refine l_neB ?_ | refine l_lt ?_ | refine l_le ?_ | refine l_gt ?_ | refine l_ge ?_ | refine ifT' rfl ?_ | refine ifF' rfl ?_ | refine ⟨_, rfl, ?_⟩ | refine ⟨rfl, ?_⟩ | refine ⟨Nat.le_of_ble_eq_true rfl, ?_⟩ | refine WC_some rfl ?_ | refine W_some rfl ?_))
    exact rfl
  · (repeat (first | refine w_var rfl ?_ | refine w_cst ?_ | refine w_glob ?_ | refine w_nil ?_ | refine w_cons ?_ | refine w_bin ?_ | refine w_ix ?_ | refine w_call ?_ | refine w_blt ?_ | refine w_isi ?_ | refine w_tup ?_ | refine w_lstT ?_ | refine w_lstF ?_ | refine e_and ?_ | refine e_or ?_ | refine w_not ?_ | refine w_neg ?_ | refine w_ite ?_ | refine w_cmp ?_ | refine w_chain ?_ | refine w_slice ?_ | refine w_oN ?_ | refine w_oS ?_ | refine t_val' ?_ | refine t_cmp' ?_ | refine t_chain' ?_ | refine t_not' ?_ | refine t_and' ?_ | refine t_or' ?_ | refine ts_nil ?_ | refine ts_cons ?_ | refine x_nil ?_ | refine x_set ?_ | refine x_expr ?_ | refine x_ret ?_ | refine x_retN ?_ | refine x_ifs ?_ | refine x_setIx ?_ | refine x_unpack ?_ | refine l_add ?_ | refine l_sub ?_ | refine l_eqI ?_ | refine l_neI ?_ | refine l_eqB ?_ | refine l_neB ?_ | refine l_lt ?_ | refine l_le ?_ | refine l_gt ?_ | refine l_ge ?_ | refine ifT' rfl ?_ | refine ifF' rfl ?_ | refine ⟨_, rfl, ?_⟩ | refine ⟨rfl, ?_⟩ | refine ⟨Nat.le_of_ble_eq_true rfl, ?_⟩ | refine WC_some rfl ?_ | refine W_some rfl ?_))
    refine l_all ?_
    exact fin_same rfl hS rfl q
end Tt.L
end

section
/-! k16: symbols. -/
namespace Tt.L
open PySem Tt Tt.P
def headIn (l : List Nat) (w : Str) : Bool := match w.cps.toList with
  | [] => false
  | c :: _ => inB l c
theorem head_cases (w : Str) : w = "" ∨ ∃ c cs, w.cps.toList = c :: cs := by
  cases e : w.cps.toList with
  | nil =>
    left
    cases w with
    | mk a => cases a with
      | mk l => have : l = [] := e; subst this; rfl
  | cons c cs => exact .inr ⟨c, cs, rfl⟩
theorem symP {k : Nat} {w : Str} {S : Sto} {Q : D → Sto → Prop} (hw : w.cps.all (· < 0x110000) = true) (hz : w.cps.size ≤ 100) (hS : S.all puO = true) (q : Q (.bl (nameB w && !headIn VAR w)) S) : W (calls pg (k + 2) 1 [.str w] S) Q := by
  refine call_run (di := d1) rfl (w_run rfl ?_)
  (repeat (first | refine w_var rfl ?_ | refine w_cst ?_ | refine w_glob ?_ | refine w_nil ?_ | refine w_cons ?_ | refine w_bin ?_ | refine w_ix ?_ | refine w_call ?_ | refine w_blt ?_ | refine w_isi ?_ | refine w_tup ?_ | refine w_lstT ?_ | refine w_lstF ?_ | refine e_and ?_ | refine e_or ?_ | refine w_not ?_ | refine w_neg ?_ | refine w_ite ?_ | refine w_cmp ?_ | refine w_chain ?_ | refine w_slice ?_ | refine w_oN ?_ | refine w_oS ?_ | refine t_val' ?_ | refine t_cmp' ?_ | refine t_chain' ?_ | refine t_not' ?_ | refine t_and' ?_ | refine t_or' ?_ | refine ts_nil ?_ | refine ts_cons ?_ | refine x_nil ?_ | refine x_cons ?_ | refine x_set ?_ | refine x_expr ?_ | refine x_ret ?_ | refine x_retN ?_ | refine x_ifs ?_ | refine x_setIx ?_ | refine x_unpack ?_ | refine l_add ?_ | refine l_sub ?_ | refine l_eqI ?_ | refine l_neI ?_ | refine l_eqB ?_ | refine l_neB ?_ | refine l_lt ?_ | refine l_le ?_ | refine l_gt ?_ | refine l_ge ?_ | refine ifT' rfl ?_ | refine ifF' rfl ?_ | refine ⟨_, rfl, ?_⟩ | refine ⟨rfl, ?_⟩ | refine ⟨Nat.le_of_ble_eq_true rfl, ?_⟩ | refine WC_some rfl ?_ | refine W_some rfl ?_))
  refine name hw hz hS ?_
  refine ⟨_, rfl, ?_⟩
  refine ifB (fun h => ?_) (fun h => ?_)
  · rcases head_cases w with e | ⟨c, cs, hc⟩
    · subst e; cases h
    · (repeat (first | refine w_var rfl ?_ | refine w_cst ?_ | refine w_glob ?_ | refine w_nil ?_ | refine w_cons ?_ | refine w_bin ?_ | refine w_ix ?_ | refine w_call ?_ | refine w_blt ?_ | refine w_isi ?_ | refine w_tup ?_ | refine w_lstT ?_ | refine w_lstF ?_ | refine e_and ?_ | refine e_or ?_ | refine w_not ?_ | refine w_neg ?_ | refine w_ite ?_ | refine w_cmp ?_ | refine w_chain ?_ | refine w_slice ?_ | refine w_oN ?_ | refine w_oS ?_ | refine t_val' ?_ | refine t_cmp' ?_ | refine t_chain' ?_ | refine t_not' ?_ | refine t_and' ?_ | refine t_or' ?_ | refine ts_nil ?_ | refine ts_cons ?_ | refine x_nil ?_ | refine x_set ?_ | refine x_expr ?_ | refine x_ret ?_ | refine x_retN ?_ | refine x_ifs ?_ | refine x_setIx ?_ | refine x_unpack ?_ | refine l_add ?_ | refine l_sub ?_ | refine l_eqI ?_ | refine l_neI ?_ | refine l_eqB ?_ | refine l_neB ?_ | refine l_lt ?_ | refine l_le ?_ | refine l_gt ?_ | refine l_ge ?_ | refine ifT' rfl ?_ | refine ifF' rfl ?_ | refine ⟨_, rfl, ?_⟩ | refine ⟨rfl, ?_⟩ | refine ⟨Nat.le_of_ble_eq_true rfl, ?_⟩ | refine WC_some rfl ?_ | refine W_some rfl ?_))
      refine l_ixS (i := 0) (c := c) (small100 hz) (by rw [hc]; rfl) ?_
      (repeat (first | refine w_var rfl ?_ | refine w_cst ?_ | refine w_glob ?_ | refine w_nil ?_ | refine w_cons ?_ | refine w_bin ?_ | refine w_ix ?_ | refine w_call ?_ | refine w_blt ?_ | refine w_isi ?_ | refine w_tup ?_ | refine w_lstT ?_ | refine w_lstF ?_ | refine e_and ?_ | refine e_or ?_ | refine w_not ?_ | refine w_neg ?_ | refine w_ite ?_ | refine w_cmp ?_ | refine w_chain ?_ | refine w_slice ?_ | refine w_oN ?_ | refine w_oS ?_ | refine t_val' ?_ | refine t_cmp' ?_ | refine t_chain' ?_ | refine t_not' ?_ | refine t_and' ?_ | refine t_or' ?_ | refine ts_nil ?_ | refine ts_cons ?_ | refine x_nil ?_ | refine x_set ?_ | refine x_expr ?_ | refine x_ret ?_ | refine x_retN ?_ | refine x_ifs ?_ | refine x_setIx ?_ | refine x_unpack ?_ | refine l_add ?_ | refine l_sub ?_ | refine l_eqI ?_ | refine l_neI ?_ | refine l_eqB ?_ | refine l_neB ?_ | refine l_lt ?_ | refine l_le ?_ | refine l_gt ?_ | refine l_ge ?_ | refine ifT' rfl ?_ | refine ifF' rfl ?_ | refine ⟨_, rfl, ?_⟩ | refine ⟨rfl, ?_⟩ | refine ⟨Nat.le_of_ble_eq_true rfl, ?_⟩ | refine WC_some rfl ?_ | refine W_some rfl ?_))
      refine fin_same rfl hS rfl ?_
      have : headIn VAR w = inB VAR c := by unfold headIn; rw [hc]
      rw [h, this] at q
      exact q
  · refine fin_same rfl hS rfl ?_
    rw [h] at q
    exact q
def symB (w : Str) : Bool := decide (1 ≤ (w.length : Int)) && decide ((w.length : Int) ≤ 8) && headIn LET w && !headIn VAR w && w.cps.toList.all (inB GO)
def symD : D → Bool
  | .str w => symB w
  | _ => false
theorem symL {k : Nat} {v : D} {S : Sto} {Q : D → Sto → Prop} (hv : gd v = true) (hS : S.all puO = true) (q : Q (.bl (symD v)) S) : W (calls pg (k + 1) 13 [v] S) Q := by
  refine call_run (di := d13) rfl (w_run rfl ?_)
  cases v with
  | str w =>
    simp only [gd, Bool.and_eq_true, decide_eq_true_eq] at hv
    have hl : w.length ≤ sizeLine := small100 hv.2
    simp only [symD, symB] at q
    (repeat (first | refine w_var rfl ?_ | refine w_cst ?_ | refine w_glob ?_ | refine w_nil ?_ | refine w_cons ?_ | refine w_bin ?_ | refine w_ix ?_ | refine w_call ?_ | refine w_blt ?_ | refine w_isi ?_ | refine w_tup ?_ | refine w_lstT ?_ | refine w_lstF ?_ | refine e_and ?_ | refine e_or ?_ | refine w_not ?_ | refine w_neg ?_ | refine w_ite ?_ | refine w_cmp ?_ | refine w_chain ?_ | refine w_slice ?_ | refine w_oN ?_ | refine w_oS ?_ | refine t_val' ?_ | refine t_cmp' ?_ | refine t_chain' ?_ | refine t_not' ?_ | refine t_and' ?_ | refine t_or' ?_ | refine ts_nil ?_ | refine ts_cons ?_ | refine x_nil ?_ | refine x_set ?_ | refine x_expr ?_ | refine x_ret ?_ | refine x_retN ?_ | refine x_ifs ?_ | refine x_setIx ?_ | refine x_unpack ?_ | refine l_add ?_ | refine l_sub ?_ | refine l_eqI ?_ | refine l_neI ?_ | refine l_eqB ?_ | refine l_neB ?_ | refine l_lt ?_ | refine l_le ?_ | refine l_gt ?_ | refine l_ge ?_ | refine ifT' rfl ?_ | refine ifF' rfl ?_ | refine ⟨_, rfl, ?_⟩ | refine ⟨rfl, ?_⟩ | refine ⟨Nat.le_of_ble_eq_true rfl, ?_⟩ | refine WC_some rfl ?_ | refine W_some rfl ?_))
    refine x_cons ?_
    (repeat (first | refine w_var rfl ?_ | refine w_cst ?_ | refine w_glob ?_ | refine w_nil ?_ | refine w_cons ?_ | refine w_bin ?_ | refine w_ix ?_ | refine w_call ?_ | refine w_blt ?_ | refine w_isi ?_ | refine w_tup ?_ | refine w_lstT ?_ | refine w_lstF ?_ | refine e_and ?_ | refine e_or ?_ | refine w_not ?_ | refine w_neg ?_ | refine w_ite ?_ | refine w_cmp ?_ | refine w_chain ?_ | refine w_slice ?_ | refine w_oN ?_ | refine w_oS ?_ | refine t_val' ?_ | refine t_cmp' ?_ | refine t_chain' ?_ | refine t_not' ?_ | refine t_and' ?_ | refine t_or' ?_ | refine ts_nil ?_ | refine ts_cons ?_ | refine x_nil ?_ | refine x_set ?_ | refine x_expr ?_ | refine x_ret ?_ | refine x_retN ?_ | refine x_ifs ?_ | refine x_setIx ?_ | refine x_unpack ?_ | refine l_add ?_ | refine l_sub ?_ | refine l_eqI ?_ | refine l_neI ?_ | refine l_eqB ?_ | refine l_neB ?_ | refine l_lt ?_ | refine l_le ?_ | refine l_gt ?_ | refine l_ge ?_ | refine ifT' rfl ?_ | refine ifF' rfl ?_ | refine ⟨_, rfl, ?_⟩ | refine ⟨rfl, ?_⟩ | refine ⟨Nat.le_of_ble_eq_true rfl, ?_⟩ | refine WC_some rfl ?_ | refine W_some rfl ?_))
    refine l_lenS hl ?_
    (repeat (first | refine w_var rfl ?_ | refine w_cst ?_ | refine w_glob ?_ | refine w_nil ?_ | refine w_cons ?_ | refine w_bin ?_ | refine w_ix ?_ | refine w_call ?_ | refine w_blt ?_ | refine w_isi ?_ | refine w_tup ?_ | refine w_lstT ?_ | refine w_lstF ?_ | refine e_and ?_ | refine e_or ?_ | refine w_not ?_ | refine w_neg ?_ | refine w_ite ?_ | refine w_cmp ?_ | refine w_chain ?_ | refine w_slice ?_ | refine w_oN ?_ | refine w_oS ?_ | refine t_val' ?_ | refine t_cmp' ?_ | refine t_chain' ?_ | refine t_not' ?_ | refine t_and' ?_ | refine t_or' ?_ | refine ts_nil ?_ | refine ts_cons ?_ | refine x_nil ?_ | refine x_set ?_ | refine x_expr ?_ | refine x_ret ?_ | refine x_retN ?_ | refine x_ifs ?_ | refine x_setIx ?_ | refine x_unpack ?_ | refine l_add ?_ | refine l_sub ?_ | refine l_eqI ?_ | refine l_neI ?_ | refine l_eqB ?_ | refine l_neB ?_ | refine l_lt ?_ | refine l_le ?_ | refine l_gt ?_ | refine l_ge ?_ | refine ifT' rfl ?_ | refine ifF' rfl ?_ | refine ⟨_, rfl, ?_⟩ | refine ⟨rfl, ?_⟩ | refine ⟨Nat.le_of_ble_eq_true rfl, ?_⟩ | refine WC_some rfl ?_ | refine W_some rfl ?_))
    refine ifB (fun h1 => ?_) (fun h1 => ?_)
    · (repeat (first | refine w_var rfl ?_ | refine w_cst ?_ | refine w_glob ?_ | refine w_nil ?_ | refine w_cons ?_ | refine w_bin ?_ | refine w_ix ?_ | refine w_call ?_ | refine w_blt ?_ | refine w_isi ?_ | refine w_tup ?_ | refine w_lstT ?_ | refine w_lstF ?_ | refine e_and ?_ | refine e_or ?_ | refine w_not ?_ | refine w_neg ?_ | refine w_ite ?_ | refine w_cmp ?_ | refine w_chain ?_ | refine w_slice ?_ | refine w_oN ?_ | refine w_oS ?_ | refine t_val' ?_ | refine t_cmp' ?_ | refine t_chain' ?_ | refine t_not' ?_ | refine t_and' ?_ | refine t_or' ?_ | refine ts_nil ?_ | refine ts_cons ?_ | refine x_nil ?_ | refine x_set ?_ | refine x_expr ?_ | refine x_ret ?_ | refine x_retN ?_ | refine x_ifs ?_ | refine x_setIx ?_ | refine x_unpack ?_ | refine l_add ?_ | refine l_sub ?_ | refine l_eqI ?_ | refine l_neI ?_ | refine l_eqB ?_ | refine l_neB ?_ | refine l_lt ?_ | refine l_le ?_ | refine l_gt ?_ | refine l_ge ?_ | refine ifT' rfl ?_ | refine ifF' rfl ?_ | refine ⟨_, rfl, ?_⟩ | refine ⟨rfl, ?_⟩ | refine ⟨Nat.le_of_ble_eq_true rfl, ?_⟩ | refine WC_some rfl ?_ | refine W_some rfl ?_))
      refine ifB (fun h8 => ?_) (fun h8 => ?_)
      · have h8' : decide ((w.length : Int) ≤ 8) = false := by simpa using h8
        (repeat (first | refine w_var rfl ?_ | refine w_cst ?_ | refine w_glob ?_ | refine w_nil ?_ | refine w_cons ?_ | refine w_bin ?_ | refine w_ix ?_ | refine w_call ?_ | refine w_blt ?_ | refine w_isi ?_ | refine w_tup ?_ | refine w_lstT ?_ | refine w_lstF ?_ | refine e_and ?_ | refine e_or ?_ | refine w_not ?_ | refine w_neg ?_ | refine w_ite ?_ | refine w_cmp ?_ | refine w_chain ?_ | refine w_slice ?_ | refine w_oN ?_ | refine w_oS ?_ | refine t_val' ?_ | refine t_cmp' ?_ | refine t_chain' ?_ | refine t_not' ?_ | refine t_and' ?_ | refine t_or' ?_ | refine ts_nil ?_ | refine ts_cons ?_ | refine x_nil ?_ | refine x_cons ?_ | refine x_set ?_ | refine x_expr ?_ | refine x_ret ?_ | refine x_retN ?_ | refine x_ifs ?_ | refine x_setIx ?_ | refine x_unpack ?_ | refine l_add ?_ | refine l_sub ?_ | refine l_eqI ?_ | refine l_neI ?_ | refine l_eqB ?_ | refine l_neB ?_ | refine l_lt ?_ | refine l_le ?_ | refine l_gt ?_ | refine l_ge ?_ | refine ifT' rfl ?_ | refine ifF' rfl ?_ | refine ⟨_, rfl, ?_⟩ | refine ⟨rfl, ?_⟩ | refine ⟨Nat.le_of_ble_eq_true rfl, ?_⟩ | refine WC_some rfl ?_ | refine W_some rfl ?_))
        refine fin_same rfl hS rfl ?_
        rw [h8'] at q
        simpa using q
      have h8' : decide ((w.length : Int) ≤ 8) = true := by simpa using h8
      rcases head_cases w with e | ⟨c, cs, hc⟩
      · subst e
        exact absurd h1 (by decide)
      have e1 : ∀ l, headIn l w = inB l c := fun l => by unfold headIn; rw [hc]
      rw [h1, h8', e1, e1] at q
      refine x_nil ?_
      refine x_cons ?_
      (repeat (first | refine w_var rfl ?_ | refine w_cst ?_ | refine w_glob ?_ | refine w_nil ?_ | refine w_cons ?_ | refine w_bin ?_ | refine w_ix ?_ | refine w_call ?_ | refine w_blt ?_ | refine w_isi ?_ | refine w_tup ?_ | refine w_lstT ?_ | refine w_lstF ?_ | refine e_and ?_ | refine e_or ?_ | refine w_not ?_ | refine w_neg ?_ | refine w_ite ?_ | refine w_cmp ?_ | refine w_chain ?_ | refine w_slice ?_ | refine w_oN ?_ | refine w_oS ?_ | refine t_val' ?_ | refine t_cmp' ?_ | refine t_chain' ?_ | refine t_not' ?_ | refine t_and' ?_ | refine t_or' ?_ | refine ts_nil ?_ | refine ts_cons ?_ | refine x_nil ?_ | refine x_set ?_ | refine x_expr ?_ | refine x_ret ?_ | refine x_retN ?_ | refine x_ifs ?_ | refine x_setIx ?_ | refine x_unpack ?_ | refine l_add ?_ | refine l_sub ?_ | refine l_eqI ?_ | refine l_neI ?_ | refine l_eqB ?_ | refine l_neB ?_ | refine l_lt ?_ | refine l_le ?_ | refine l_gt ?_ | refine l_ge ?_ | refine ifT' rfl ?_ | refine ifF' rfl ?_ | refine ⟨_, rfl, ?_⟩ | refine ⟨rfl, ?_⟩ | refine ⟨Nat.le_of_ble_eq_true rfl, ?_⟩ | refine WC_some rfl ?_ | refine W_some rfl ?_))
      refine x_cons ?_
      (repeat (first | refine w_var rfl ?_ | refine w_cst ?_ | refine w_glob ?_ | refine w_nil ?_ | refine w_cons ?_ | refine w_bin ?_ | refine w_ix ?_ | refine w_call ?_ | refine w_blt ?_ | refine w_isi ?_ | refine w_tup ?_ | refine w_lstT ?_ | refine w_lstF ?_ | refine e_and ?_ | refine e_or ?_ | refine w_not ?_ | refine w_neg ?_ | refine w_ite ?_ | refine w_cmp ?_ | refine w_chain ?_ | refine w_slice ?_ | refine w_oN ?_ | refine w_oS ?_ | refine t_val' ?_ | refine t_cmp' ?_ | refine t_chain' ?_ | refine t_not' ?_ | refine t_and' ?_ | refine t_or' ?_ | refine ts_nil ?_ | refine ts_cons ?_ | refine x_nil ?_ | refine x_set ?_ | refine x_expr ?_ | refine x_ret ?_ | refine x_retN ?_ | refine x_ifs ?_ | refine x_setIx ?_ | refine x_unpack ?_ | refine l_add ?_ | refine l_sub ?_ | refine l_eqI ?_ | refine l_neI ?_ | refine l_eqB ?_ | refine l_neB ?_ | refine l_lt ?_ | refine l_le ?_ | refine l_gt ?_ | refine l_ge ?_ | refine ifT' rfl ?_ | refine ifF' rfl ?_ | refine ⟨_, rfl, ?_⟩ | refine ⟨rfl, ?_⟩ | refine ⟨Nat.le_of_ble_eq_true rfl, ?_⟩ | refine WC_some rfl ?_ | refine W_some rfl ?_))
      refine l_ixS (i := 0) (c := c) hl (by rw [hc]; rfl) ?_
      (repeat (first | refine w_var rfl ?_ | refine w_cst ?_ | refine w_glob ?_ | refine w_nil ?_ | refine w_cons ?_ | refine w_bin ?_ | refine w_ix ?_ | refine w_call ?_ | refine w_blt ?_ | refine w_isi ?_ | refine w_tup ?_ | refine w_lstT ?_ | refine w_lstF ?_ | refine e_and ?_ | refine e_or ?_ | refine w_not ?_ | refine w_neg ?_ | refine w_ite ?_ | refine w_cmp ?_ | refine w_chain ?_ | refine w_slice ?_ | refine w_oN ?_ | refine w_oS ?_ | refine t_val' ?_ | refine t_cmp' ?_ | refine t_chain' ?_ | refine t_not' ?_ | refine t_and' ?_ | refine t_or' ?_ | refine ts_nil ?_ | refine ts_cons ?_ | refine x_nil ?_ | refine x_set ?_ | refine x_expr ?_ | refine x_ret ?_ | refine x_retN ?_ | refine x_ifs ?_ | refine x_setIx ?_ | refine x_unpack ?_ | refine l_add ?_ | refine l_sub ?_ | refine l_eqI ?_ | refine l_neI ?_ | refine l_eqB ?_ | refine l_neB ?_ | refine l_lt ?_ | refine l_le ?_ | refine l_gt ?_ | refine l_ge ?_ | refine ifT' rfl ?_ | refine ifF' rfl ?_ | refine ⟨_, rfl, ?_⟩ | refine ⟨rfl, ?_⟩ | refine ⟨Nat.le_of_ble_eq_true rfl, ?_⟩ | refine WC_some rfl ?_ | refine W_some rfl ?_))
      refine ifB (fun hc1 => ?_) (fun hc1 => ?_)
      · (repeat (first | refine w_var rfl ?_ | refine w_cst ?_ | refine w_glob ?_ | refine w_nil ?_ | refine w_cons ?_ | refine w_bin ?_ | refine w_ix ?_ | refine w_call ?_ | refine w_blt ?_ | refine w_isi ?_ | refine w_tup ?_ | refine w_lstT ?_ | refine w_lstF ?_ | refine e_and ?_ | refine e_or ?_ | refine w_not ?_ | refine w_neg ?_ | refine w_ite ?_ | refine w_cmp ?_ | refine w_chain ?_ | refine w_slice ?_ | refine w_oN ?_ | refine w_oS ?_ | refine t_val' ?_ | refine t_cmp' ?_ | refine t_chain' ?_ | refine t_not' ?_ | refine t_and' ?_ | refine t_or' ?_ | refine ts_nil ?_ | refine ts_cons ?_ | refine x_nil ?_ | refine x_cons ?_ | refine x_set ?_ | refine x_expr ?_ | refine x_ret ?_ | refine x_retN ?_ | refine x_ifs ?_ | refine x_setIx ?_ | refine x_unpack ?_ | refine l_add ?_ | refine l_sub ?_ | refine l_eqI ?_ | refine l_neI ?_ | refine l_eqB ?_ | refine l_neB ?_ | refine l_lt ?_ | refine l_le ?_ | refine l_gt ?_ | refine l_ge ?_ | refine ifT' rfl ?_ | refine ifF' rfl ?_ | refine ⟨_, rfl, ?_⟩ | refine ⟨rfl, ?_⟩ | refine ⟨Nat.le_of_ble_eq_true rfl, ?_⟩ | refine WC_some rfl ?_ | refine W_some rfl ?_))
        refine fin_same rfl hS rfl ?_
        have : inB LET c = false := by simpa [inB, LET] using hc1
        rw [this] at q
        simpa using q
      have hc2 : inB LET c = true := by simpa [inB, LET] using hc1
      rw [hc2] at q
      (repeat (first | refine w_var rfl ?_ | refine w_cst ?_ | refine w_glob ?_ | refine w_nil ?_ | refine w_cons ?_ | refine w_bin ?_ | refine w_ix ?_ | refine w_call ?_ | refine w_blt ?_ | refine w_isi ?_ | refine w_tup ?_ | refine w_lstT ?_ | refine w_lstF ?_ | refine e_and ?_ | refine e_or ?_ | refine w_not ?_ | refine w_neg ?_ | refine w_ite ?_ | refine w_cmp ?_ | refine w_chain ?_ | refine w_slice ?_ | refine w_oN ?_ | refine w_oS ?_ | refine t_val' ?_ | refine t_cmp' ?_ | refine t_chain' ?_ | refine t_not' ?_ | refine t_and' ?_ | refine t_or' ?_ | refine ts_nil ?_ | refine ts_cons ?_ | refine x_nil ?_ | refine x_set ?_ | refine x_expr ?_ | refine x_ret ?_ | refine x_retN ?_ | refine x_ifs ?_ | refine x_setIx ?_ | refine x_unpack ?_ | refine l_add ?_ | refine l_sub ?_ | refine l_eqI ?_ | refine l_neI ?_ | refine l_eqB ?_ | refine l_neB ?_ | refine l_lt ?_ | refine l_le ?_ | refine l_gt ?_ | refine l_ge ?_ | refine ifT' rfl ?_ | refine ifF' rfl ?_ | refine ⟨_, rfl, ?_⟩ | refine ⟨rfl, ?_⟩ | refine ⟨Nat.le_of_ble_eq_true rfl, ?_⟩ | refine WC_some rfl ?_ | refine W_some rfl ?_))
      refine l_ixS (i := 0) (c := c) hl (by rw [hc]; rfl) ?_
      (repeat (first | refine w_var rfl ?_ | refine w_cst ?_ | refine w_glob ?_ | refine w_nil ?_ | refine w_cons ?_ | refine w_bin ?_ | refine w_ix ?_ | refine w_call ?_ | refine w_blt ?_ | refine w_isi ?_ | refine w_tup ?_ | refine w_lstT ?_ | refine w_lstF ?_ | refine e_and ?_ | refine e_or ?_ | refine w_not ?_ | refine w_neg ?_ | refine w_ite ?_ | refine w_cmp ?_ | refine w_chain ?_ | refine w_slice ?_ | refine w_oN ?_ | refine w_oS ?_ | refine t_val' ?_ | refine t_cmp' ?_ | refine t_chain' ?_ | refine t_not' ?_ | refine t_and' ?_ | refine t_or' ?_ | refine ts_nil ?_ | refine ts_cons ?_ | refine x_nil ?_ | refine x_set ?_ | refine x_expr ?_ | refine x_ret ?_ | refine x_retN ?_ | refine x_ifs ?_ | refine x_setIx ?_ | refine x_unpack ?_ | refine l_add ?_ | refine l_sub ?_ | refine l_eqI ?_ | refine l_neI ?_ | refine l_eqB ?_ | refine l_neB ?_ | refine l_lt ?_ | refine l_le ?_ | refine l_gt ?_ | refine l_ge ?_ | refine ifT' rfl ?_ | refine ifF' rfl ?_ | refine ⟨_, rfl, ?_⟩ | refine ⟨rfl, ?_⟩ | refine ⟨Nat.le_of_ble_eq_true rfl, ?_⟩ | refine WC_some rfl ?_ | refine W_some rfl ?_))
      refine ifB (fun hc3 => ?_) (fun hc3 => ?_)
      · (repeat (first | refine w_var rfl ?_ | refine w_cst ?_ | refine w_glob ?_ | refine w_nil ?_ | refine w_cons ?_ | refine w_bin ?_ | refine w_ix ?_ | refine w_call ?_ | refine w_blt ?_ | refine w_isi ?_ | refine w_tup ?_ | refine w_lstT ?_ | refine w_lstF ?_ | refine e_and ?_ | refine e_or ?_ | refine w_not ?_ | refine w_neg ?_ | refine w_ite ?_ | refine w_cmp ?_ | refine w_chain ?_ | refine w_slice ?_ | refine w_oN ?_ | refine w_oS ?_ | refine t_val' ?_ | refine t_cmp' ?_ | refine t_chain' ?_ | refine t_not' ?_ | refine t_and' ?_ | refine t_or' ?_ | refine ts_nil ?_ | refine ts_cons ?_ | refine x_nil ?_ | refine x_cons ?_ | refine x_set ?_ | refine x_expr ?_ | refine x_ret ?_ | refine x_retN ?_ | refine x_ifs ?_ | refine x_setIx ?_ | refine x_unpack ?_ | refine l_add ?_ | refine l_sub ?_ | refine l_eqI ?_ | refine l_neI ?_ | refine l_eqB ?_ | refine l_neB ?_ | refine l_lt ?_ | refine l_le ?_ | refine l_gt ?_ | refine l_ge ?_ | refine ifT' rfl ?_ | refine ifF' rfl ?_ | refine ⟨_, rfl, ?_⟩ | refine ⟨rfl, ?_⟩ | refine ⟨Nat.le_of_ble_eq_true rfl, ?_⟩ | refine WC_some rfl ?_ | refine W_some rfl ?_))
        refine fin_same rfl hS rfl ?_
        have : inB VAR c = true := by simpa [inB, VAR] using hc3
        rw [this] at q
        simpa using q
      have hc4 : inB VAR c = false := by simpa [inB, VAR] using hc3
      rw [hc4] at q
      refine x_nil ?_
      refine x_cons ?_
      refine x_ret ?_
      refine w_blt ?_
      refine w_cons ?_
      refine signs (w := w) (g := inB GO) hl (by (repeat (first | refine w_var rfl ?_ | refine w_cst ?_ | refine w_glob ?_ | refine w_nil ?_ | refine w_cons ?_ | refine w_bin ?_ | refine w_ix ?_ | refine w_call ?_ | refine w_blt ?_ | refine w_isi ?_ | refine w_tup ?_ | refine w_lstT ?_ | refine w_lstF ?_ | refine e_and ?_ | refine e_or ?_ | refine w_not ?_ | refine w_neg ?_ | refine w_ite ?_ | refine w_cmp ?_ | refine w_chain ?_ | refine w_slice ?_ | refine w_oN ?_ | refine w_oS ?_ | refine t_val' ?_ | refine t_cmp' ?_ | refine t_chain' ?_ | refine t_not' ?_ | refine t_and' ?_ | refine t_or' ?_ | refine ts_nil ?_ | refine ts_cons ?_ | refine x_nil ?_ | refine x_set ?_ | refine x_expr ?_ | refine x_ret ?_ | refine x_retN ?_ | refine x_ifs ?_ | refine x_setIx ?_ | refine x_unpack ?_ | refine l_add ?_ | refine l_sub ?_ | refine l_eqI ?_ | refine l_neI ?_ | refine l_eqB ?_ | refine l_neB ?_ | refine l_lt ?_ | refine l_le ?_ | refine l_gt ?_ | refine l_ge ?_ | refine ifT' rfl ?_ | refine ifF' rfl ?_ | refine ⟨_, rfl, ?_⟩ | refine ⟨rfl, ?_⟩ | refine ⟨Nat.le_of_ble_eq_true rfl, ?_⟩ | refine WC_some rfl ?_ | refine W_some rfl ?_)); exact rfl) (fun c => ⟨_, rfl, ?_⟩) ?_
      · (repeat (first | refine w_var rfl ?_ | refine w_cst ?_ | refine w_glob ?_ | refine w_nil ?_ | refine w_cons ?_ | refine w_bin ?_ | refine w_ix ?_ | refine w_call ?_ | refine w_blt ?_ | refine w_isi ?_ | refine w_tup ?_ | refine w_lstT ?_ | refine w_lstF ?_ | refine e_and ?_ | refine e_or ?_ | refine w_not ?_ | refine w_neg ?_ | refine w_ite ?_ | refine w_cmp ?_ | refine w_chain ?_ | refine w_slice ?_ | refine w_oN ?_ | refine w_oS ?_ | refine t_val' ?_ | refine t_cmp' ?_ | refine t_chain' ?_ | refine t_not' ?_ | refine t_and' ?_ | refine t_or' ?_ | refine ts_nil ?_ | refine ts_cons ?_ | refine x_nil ?_ | refine x_set ?_ | refine x_expr ?_ | refine x_ret ?_ | refine x_retN ?_ | refine x_ifs ?_ | refine x_setIx ?_ | refine x_unpack ?_ | refine l_add ?_ | refine l_sub ?_ | refine l_eqI ?_ | refine l_neI ?_ | refine l_eqB ?_ | refine l_neB ?_ | refine l_lt ?_ | refine l_le ?_ | refine l_gt ?_ | refine l_ge ?_ | refine ifT' rfl ?_ | refine ifF' rfl ?_ | refine ⟨_, rfl, ?_⟩ | refine ⟨rfl, ?_⟩ | refine ⟨Nat.le_of_ble_eq_true rfl, ?_⟩ | refine WC_some rfl ?_ | refine W_some rfl ?_))
        exact rfl
      · (repeat (first | refine w_var rfl ?_ | refine w_cst ?_ | refine w_glob ?_ | refine w_nil ?_ | refine w_cons ?_ | refine w_bin ?_ | refine w_ix ?_ | refine w_call ?_ | refine w_blt ?_ | refine w_isi ?_ | refine w_tup ?_ | refine w_lstT ?_ | refine w_lstF ?_ | refine e_and ?_ | refine e_or ?_ | refine w_not ?_ | refine w_neg ?_ | refine w_ite ?_ | refine w_cmp ?_ | refine w_chain ?_ | refine w_slice ?_ | refine w_oN ?_ | refine w_oS ?_ | refine t_val' ?_ | refine t_cmp' ?_ | refine t_chain' ?_ | refine t_not' ?_ | refine t_and' ?_ | refine t_or' ?_ | refine ts_nil ?_ | refine ts_cons ?_ | refine x_nil ?_ | refine x_set ?_ | refine x_expr ?_ | refine x_ret ?_ | refine x_retN ?_ | refine x_ifs ?_ | refine x_setIx ?_ | refine x_unpack ?_ | refine l_add ?_ | refine l_sub ?_ | refine l_eqI ?_ | refine l_neI ?_ | refine l_eqB ?_ | refine l_neB ?_ | refine l_lt ?_ | refine l_le ?_ | refine l_gt ?_ | refine l_ge ?_ | refine ifT' rfl ?_ | refine ifF' rfl ?_ | refine ⟨_, rfl, ?_⟩ | refine ⟨rfl, ?_⟩ | refine ⟨Nat.le_of_ble_eq_true rfl, ?_⟩ | refine WC_some rfl ?_ | refine W_some rfl ?_))
        refine l_all ?_
        refine fin_same rfl hS rfl ?_
        simpa using q
    · (repeat (first | refine w_var rfl ?_ | refine w_cst ?_ | refine w_glob ?_ | refine w_nil ?_ | refine w_cons ?_ | refine w_bin ?_ | refine w_ix ?_ | refine w_call ?_ | refine w_blt ?_ | refine w_isi ?_ | refine w_tup ?_ | refine w_lstT ?_ | refine w_lstF ?_ | refine e_and ?_ | refine e_or ?_ | refine w_not ?_ | refine w_neg ?_ | refine w_ite ?_ | refine w_cmp ?_ | refine w_chain ?_ | refine w_slice ?_ | refine w_oN ?_ | refine w_oS ?_ | refine t_val' ?_ | refine t_cmp' ?_ | refine t_chain' ?_ | refine t_not' ?_ | refine t_and' ?_ | refine t_or' ?_ | refine ts_nil ?_ | refine ts_cons ?_ | refine x_nil ?_ | refine x_cons ?_ | refine x_set ?_ | refine x_expr ?_ | refine x_ret ?_ | refine x_retN ?_ | refine x_ifs ?_ | refine x_setIx ?_ | refine x_unpack ?_ | refine l_add ?_ | refine l_sub ?_ | refine l_eqI ?_ | refine l_neI ?_ | refine l_eqB ?_ | refine l_neB ?_ | refine l_lt ?_ | refine l_le ?_ | refine l_gt ?_ | refine l_ge ?_ | refine ifT' rfl ?_ | refine ifF' rfl ?_ | refine ⟨_, rfl, ?_⟩ | refine ⟨rfl, ?_⟩ | refine ⟨Nat.le_of_ble_eq_true rfl, ?_⟩ | refine WC_some rfl ?_ | refine W_some rfl ?_))
      refine fin_same rfl hS rfl ?_
      rw [h1] at q
      simpa using q
  | fzl _ => simp [gd] at hv
  | ref _ => simp [gd] at hv
  | _ =>
    (repeat (first | refine w_var rfl ?_ | refine w_cst ?_ | refine w_glob ?_ | refine w_nil ?_ | refine w_cons ?_ | refine w_bin ?_ | refine w_ix ?_ | refine w_call ?_ | refine w_blt ?_ | refine w_isi ?_ | refine w_tup ?_ | refine w_lstT ?_ | refine w_lstF ?_ | refine e_and ?_ | refine e_or ?_ | refine w_not ?_ | refine w_neg ?_ | refine w_ite ?_ | refine w_cmp ?_ | refine w_chain ?_ | refine w_slice ?_ | refine w_oN ?_ | refine w_oS ?_ | refine t_val' ?_ | refine t_cmp' ?_ | refine t_chain' ?_ | refine t_not' ?_ | refine t_and' ?_ | refine t_or' ?_ | refine ts_nil ?_ | refine ts_cons ?_ | refine x_nil ?_ | refine x_cons ?_ | refine x_set ?_ | refine x_expr ?_ | refine x_ret ?_ | refine x_retN ?_ | refine x_ifs ?_ | refine x_setIx ?_ | refine x_unpack ?_ | refine l_add ?_ | refine l_sub ?_ | refine l_eqI ?_ | refine l_neI ?_ | refine l_eqB ?_ | refine l_neB ?_ | refine l_lt ?_ | refine l_le ?_ | refine l_gt ?_ | refine l_ge ?_ | refine ifT' rfl ?_ | refine ifF' rfl ?_ | refine ⟨_, rfl, ?_⟩ | refine ⟨rfl, ?_⟩ | refine ⟨Nat.le_of_ble_eq_true rfl, ?_⟩ | refine WC_some rfl ?_ | refine W_some rfl ?_))
    exact fin_same rfl hS rfl q
/-- a text that ends with the sign of a number has it -/
theorem ends_mem {w : Str} (h : Txt.endswith w "#" = true) : (35 : Nat) ∈ w.cps.toList := by
  unfold Txt.endswith at h
  rw [Bool.and_eq_true] at h
  obtain ⟨h1, h2⟩ := h
  unfold Builtin.Str.subAt at h2
  have h3 := eq_of_beq h2
  have h4 : (w.cps.extract (w.length - ("#" : Str).length) (w.length - ("#" : Str).length + ("#" : Str).length)).toList = [35] := by
    rw [h3]; decide +kernel
  rw [Array.toList_extract] at h4
  have h5 : (35 : Nat) ∈ w.cps.toList.extract (w.length - ("#" : Str).length) (w.length - ("#" : Str).length + ("#" : Str).length) := by rw [h4]; simp
  unfold List.extract at h5
  exact List.mem_of_mem_drop (List.mem_of_mem_take h5)
/-- the program's look at a symbol is the law's -/
theorem sym_eq (w : Str) : (nameB w && !headIn VAR w && !Txt.endswith w "#") = symB w := by
  cases he : Txt.endswith w "#" with
  | false =>
    have hb : bodyS w = w := by unfold bodyS; rw [if_neg (by rw [he]; exact Bool.false_ne_true)]
    rcases head_cases w with e | ⟨c, cs, hc⟩
    · subst e; rfl
    · unfold nameB symB headIn
      rw [hb, hc]
      have h1 : decide (1 ≤ (w.length : Int)) = true := by
        have : w.cps.toList.length = w.length := by simp [Str.length]
        rw [hc] at this
        simp at this
        simp
        omega
      have h2 : (!decide (8 < (w.length : Int))) = decide ((w.length : Int) ≤ 8) := by
        by_cases h : 8 < (w.length : Int)
        · simp [h]
        · simp [h]; omega
      rw [h1, h2]
      dsimp only
      generalize decide ((w.length : Int) ≤ 8) = a
      generalize inB LET c = b
      generalize inB VAR c = e
      generalize (c :: cs).all (inB GO) = f
      cases a <;> cases b <;> cases e <;> cases f <;> rfl
  | true =>
    have hm := ends_mem he
    have : w.cps.toList.all (inB GO) = false := by
      rw [List.all_eq_false]
      exact ⟨35, hm, by decide +kernel⟩
    unfold symB
    rw [this]
    simp
end Tt.L
end

section
/-! k16: signatures. -/
namespace Tt.L
open PySem Tt Tt.P L2
def pairB : D → Bool
  | .tup [.str w, n] => symB w && wholeB n 3
  | _ => false
def nmOf : D → Str
  | .tup (.str w :: _) => w
  | _ => ""
def sigB : D → Bool
  | .tup l => decide (1 ≤ (l.length : Int)) && decide ((l.length : Int) ≤ 6) && l.all pairB && decide (l.map nmOf).Nodup
  | _ => false
theorem fin_drop {df : Df} {d : D} {S R : Sto} {Q : D → Sto → Prop} (hk : df.keep = false) (hS : S.all puO = true) (hd : puD d = true) (q : Q d S) : W (fin df S.length d (S ++ R)) Q := by
  have e : (S ++ R).take S.length = S := by simp
  refine fin_pure hk hd (by rw [e]; exact hS) ?_
  rw [e]
  exact q
theorem pair_cases {x : D} (h : pairB x = true) : ∃ w n, x = .tup [.str w, n] ∧ symB w = true ∧ wholeB n 3 = true := by
  unfold pairB at h
  split at h
  · rw [Bool.and_eq_true] at h
    exact ⟨_, _, rfl, h.1, h.2⟩
  · cases h
theorem gds_mem {l : List D} (h : gds l = true) {x : D} (hx : x ∈ l) : gd x = true := by
  obtain ⟨i, hi, e⟩ := List.getElem_of_mem hx
  exact gds_get h (by rw [List.getElem?_eq_getElem hi, e])
theorem sig_bad {l : List D} {i : Nat} {x : D} (hx : l[i]? = some x) (h : pairB x = false) : sigB (.tup l) = false := by
  have : l.all pairB = false := by
    rw [List.all_eq_false]
    exact ⟨x, List.mem_of_getElem? hx, by rw [h]; exact Bool.false_ne_true⟩
  simp [sigB, this]
theorem nodup_inr {ws : List Str} : (ws.map (Sum.inr : Str → Key)).Nodup ↔ ws.Nodup := by
  induction ws with
  | nil => simp
  | cons a r ih =>
    rw [List.map_cons, List.nodup_cons, List.nodup_cons, ih]
    refine and_congr_left fun _ => not_congr ⟨fun h => ?_, fun h => List.mem_map_of_mem h⟩
    obtain ⟨b, hb, e⟩ := List.mem_map.mp h
    cases e; exact hb
theorem l_lenD {fz : Bool} {n : Nat} {kvs : List (Key × D)} {S : Sto} {Q : D → Sto → Prop} (h : S[n]? = some (.dic kvs)) (q : Q (.int kvs.length) S) : W (bltD fz .len [.ref n] S) Q := ⟨_, _, by simp only [bltD]; rw [h], q⟩
theorem sigP {k : Nat} {v : D} {S : Sto} {Q : D → Sto → Prop} (hv : gd v = true) (hS : S.all puO = true) (q : Q (.bl (sigB v)) S) : W (calls pg (k + 3) 3 [v] S) Q := by
  refine call_run (di := d3) rfl (w_run rfl ?_)
  cases v with
  | tup l =>
    simp only [gd, Bool.and_eq_true, decide_eq_true_eq] at hv
    obtain ⟨hl, hg⟩ := hv
    refine x_cons ?_
    (repeat (first | refine w_var rfl ?_ | refine w_cst ?_ | refine w_glob ?_ | refine w_nil ?_ | refine w_cons ?_ | refine w_bin ?_ | refine w_ix ?_ | refine w_call ?_ | refine w_blt ?_ | refine w_isi ?_ | refine w_tup ?_ | refine w_lstT ?_ | refine w_lstF ?_ | refine e_and ?_ | refine e_or ?_ | refine w_not ?_ | refine w_neg ?_ | refine w_ite ?_ | refine w_cmp ?_ | refine w_chain ?_ | refine w_slice ?_ | refine w_oN ?_ | refine w_oS ?_ | refine t_val' ?_ | refine t_cmp' ?_ | refine t_chain' ?_ | refine t_not' ?_ | refine t_and' ?_ | refine t_or' ?_ | refine ts_nil ?_ | refine ts_cons ?_ | refine x_nil ?_ | refine x_set ?_ | refine x_expr ?_ | refine x_ret ?_ | refine x_retN ?_ | refine x_ifs ?_ | refine x_setIx ?_ | refine x_unpack ?_ | refine l_add ?_ | refine l_sub ?_ | refine l_eqI ?_ | refine l_neI ?_ | refine l_eqB ?_ | refine l_neB ?_ | refine l_lt ?_ | refine l_le ?_ | refine l_gt ?_ | refine l_ge ?_ | refine ifT' rfl ?_ | refine ifF' rfl ?_ | refine ⟨_, rfl, ?_⟩ | refine ⟨rfl, ?_⟩ | refine ⟨Nat.le_of_ble_eq_true rfl, ?_⟩ | refine WC_some rfl ?_ | refine W_some rfl ?_))
    refine ifB (fun h1 => ?_) (fun h1 => ?_)
    case refine_2 =>
      (repeat (first | refine w_var rfl ?_ | refine w_cst ?_ | refine w_glob ?_ | refine w_nil ?_ | refine w_cons ?_ | refine w_bin ?_ | refine w_ix ?_ | refine w_call ?_ | refine w_blt ?_ | refine w_isi ?_ | refine w_tup ?_ | refine w_lstT ?_ | refine w_lstF ?_ | refine e_and ?_ | refine e_or ?_ | refine w_not ?_ | refine w_neg ?_ | refine w_ite ?_ | refine w_cmp ?_ | refine w_chain ?_ | refine w_slice ?_ | refine w_oN ?_ | refine w_oS ?_ | refine t_val' ?_ | refine t_cmp' ?_ | refine t_chain' ?_ | refine t_not' ?_ | refine t_and' ?_ | refine t_or' ?_ | refine ts_nil ?_ | refine ts_cons ?_ | refine x_nil ?_ | refine x_cons ?_ | refine x_set ?_ | refine x_expr ?_ | refine x_ret ?_ | refine x_retN ?_ | refine x_ifs ?_ | refine x_setIx ?_ | refine x_unpack ?_ | refine l_add ?_ | refine l_sub ?_ | refine l_eqI ?_ | refine l_neI ?_ | refine l_eqB ?_ | refine l_neB ?_ | refine l_lt ?_ | refine l_le ?_ | refine l_gt ?_ | refine l_ge ?_ | refine ifT' rfl ?_ | refine ifF' rfl ?_ | refine ⟨_, rfl, ?_⟩ | refine ⟨rfl, ?_⟩ | refine ⟨Nat.le_of_ble_eq_true rfl, ?_⟩ | refine WC_some rfl ?_ | refine W_some rfl ?_))
      refine fin_same rfl hS rfl ?_
      simpa [sigB, h1] using q
    (repeat (first | refine w_var rfl ?_ | refine w_cst ?_ | refine w_glob ?_ | refine w_nil ?_ | refine w_cons ?_ | refine w_bin ?_ | refine w_ix ?_ | refine w_call ?_ | refine w_blt ?_ | refine w_isi ?_ | refine w_tup ?_ | refine w_lstT ?_ | refine w_lstF ?_ | refine e_and ?_ | refine e_or ?_ | refine w_not ?_ | refine w_neg ?_ | refine w_ite ?_ | refine w_cmp ?_ | refine w_chain ?_ | refine w_slice ?_ | refine w_oN ?_ | refine w_oS ?_ | refine t_val' ?_ | refine t_cmp' ?_ | refine t_chain' ?_ | refine t_not' ?_ | refine t_and' ?_ | refine t_or' ?_ | refine ts_nil ?_ | refine ts_cons ?_ | refine x_nil ?_ | refine x_set ?_ | refine x_expr ?_ | refine x_ret ?_ | refine x_retN ?_ | refine x_ifs ?_ | refine x_setIx ?_ | refine x_unpack ?_ | refine l_add ?_ | refine l_sub ?_ | refine l_eqI ?_ | refine l_neI ?_ | refine l_eqB ?_ | refine l_neB ?_ | refine l_lt ?_ | refine l_le ?_ | refine l_gt ?_ | refine l_ge ?_ | refine ifT' rfl ?_ | refine ifF' rfl ?_ | refine ⟨_, rfl, ?_⟩ | refine ⟨rfl, ?_⟩ | refine ⟨Nat.le_of_ble_eq_true rfl, ?_⟩ | refine WC_some rfl ?_ | refine W_some rfl ?_))
    refine ifB (fun h6 => ?_) (fun h6 => ?_)
    · have h6' : decide ((l.length : Int) ≤ 6) = false := by simpa using h6
      (repeat (first | refine w_var rfl ?_ | refine w_cst ?_ | refine w_glob ?_ | refine w_nil ?_ | refine w_cons ?_ | refine w_bin ?_ | refine w_ix ?_ | refine w_call ?_ | refine w_blt ?_ | refine w_isi ?_ | refine w_tup ?_ | refine w_lstT ?_ | refine w_lstF ?_ | refine e_and ?_ | refine e_or ?_ | refine w_not ?_ | refine w_neg ?_ | refine w_ite ?_ | refine w_cmp ?_ | refine w_chain ?_ | refine w_slice ?_ | refine w_oN ?_ | refine w_oS ?_ | refine t_val' ?_ | refine t_cmp' ?_ | refine t_chain' ?_ | refine t_not' ?_ | refine t_and' ?_ | refine t_or' ?_ | refine ts_nil ?_ | refine ts_cons ?_ | refine x_nil ?_ | refine x_cons ?_ | refine x_set ?_ | refine x_expr ?_ | refine x_ret ?_ | refine x_retN ?_ | refine x_ifs ?_ | refine x_setIx ?_ | refine x_unpack ?_ | refine l_add ?_ | refine l_sub ?_ | refine l_eqI ?_ | refine l_neI ?_ | refine l_eqB ?_ | refine l_neB ?_ | refine l_lt ?_ | refine l_le ?_ | refine l_gt ?_ | refine l_ge ?_ | refine ifT' rfl ?_ | refine ifF' rfl ?_ | refine ⟨_, rfl, ?_⟩ | refine ⟨rfl, ?_⟩ | refine ⟨Nat.le_of_ble_eq_true rfl, ?_⟩ | refine WC_some rfl ?_ | refine W_some rfl ?_))
      refine fin_same rfl hS rfl ?_
      simpa [sigB, h6'] using q
    have h6' : decide ((l.length : Int) ≤ 6) = true := by simpa using h6
    refine x_nil ?_
    refine x_cons ?_
    refine x_for ?_
    refine r_seq ?_
    refine w_var rfl ?_
    refine WC_some rfl ?_
    refine for_inv (l := l) (fun i env S2 => S2 = S ∧ (∃ y, env = [some (.tup l), y]) ∧ ∀ j x, j < i → l[j]? = some x → pairB x = true) rfl ⟨rfl, ⟨_, rfl⟩, fun j x h => by omega⟩ (fun i env S2 ⟨e, _, _⟩ => rfl) ?_ ?_
    · rintro i x env S2 hx ⟨rfl, ⟨y, rfl⟩, hall⟩
      refine ⟨_, rfl, ?_⟩
      have hxg : gd x = true := gds_get hg hx
      have bad : pairB x = false → W (fin d3.df S2.length (.bl false) S2) Q := fun h => by
        refine fin_same rfl hS rfl ?_
        rw [sig_bad hx h] at q
        exact q
      have good : pairB x = true → ∀ j z, j < i + 1 → l[j]? = some z → pairB z = true := fun h j z hj hz => by
        by_cases e : j = i
        · subst e; rw [hx] at hz; cases hz; exact h
        · exact hall j z (by omega) hz
      cases x with
      | tup p =>
        simp only [gd, Bool.and_eq_true, decide_eq_true_eq] at hxg
        by_cases hp : p.length = 2
        · obtain ⟨a, b, rfl⟩ : ∃ a b, p = [a, b] := by
            match p, hp with
            | [a, b], _ => exact ⟨a, b, rfl⟩
          have ha : gd a = true := by have := hxg.2; simp only [gds, Bool.and_eq_true] at this; exact this.1
          have hb : gd b = true := by have := hxg.2; simp only [gds, Bool.and_eq_true] at this; exact this.2.1
          cases a with
          | str w =>
            simp only [gd, Bool.and_eq_true, decide_eq_true_eq] at ha
            refine x_cons ?_
            (repeat (first | refine w_var rfl ?_ | refine w_cst ?_ | refine w_glob ?_ | refine w_nil ?_ | refine w_cons ?_ | refine w_bin ?_ | refine w_ix ?_ | refine w_call ?_ | refine w_blt ?_ | refine w_isi ?_ | refine w_tup ?_ | refine w_lstT ?_ | refine w_lstF ?_ | refine e_and ?_ | refine e_or ?_ | refine w_not ?_ | refine w_neg ?_ | refine w_ite ?_ | refine w_cmp ?_ | refine w_chain ?_ | refine w_slice ?_ | refine w_oN ?_ | refine w_oS ?_ | refine t_val' ?_ | refine t_cmp' ?_ | refine t_chain' ?_ | refine t_not' ?_ | refine t_and' ?_ | refine t_or' ?_ | refine ts_nil ?_ | refine ts_cons ?_ | refine x_nil ?_ | refine x_set ?_ | refine x_expr ?_ | refine x_ret ?_ | refine x_retN ?_ | refine x_ifs ?_ | refine x_setIx ?_ | refine x_unpack ?_ | refine l_add ?_ | refine l_sub ?_ | refine l_eqI ?_ | refine l_neI ?_ | refine l_eqB ?_ | refine l_neB ?_ | refine l_lt ?_ | refine l_le ?_ | refine l_gt ?_ | refine l_ge ?_ | refine ifT' rfl ?_ | refine ifF' rfl ?_ | refine ⟨_, rfl, ?_⟩ | refine ⟨rfl, ?_⟩ | refine ⟨Nat.le_of_ble_eq_true rfl, ?_⟩ | refine WC_some rfl ?_ | refine W_some rfl ?_))
            refine symP ha.1 ha.2 hS ?_
            (repeat (first | refine w_var rfl ?_ | refine w_cst ?_ | refine w_glob ?_ | refine w_nil ?_ | refine w_cons ?_ | refine w_bin ?_ | refine w_ix ?_ | refine w_call ?_ | refine w_blt ?_ | refine w_isi ?_ | refine w_tup ?_ | refine w_lstT ?_ | refine w_lstF ?_ | refine e_and ?_ | refine e_or ?_ | refine w_not ?_ | refine w_neg ?_ | refine w_ite ?_ | refine w_cmp ?_ | refine w_chain ?_ | refine w_slice ?_ | refine w_oN ?_ | refine w_oS ?_ | refine t_val' ?_ | refine t_cmp' ?_ | refine t_chain' ?_ | refine t_not' ?_ | refine t_and' ?_ | refine t_or' ?_ | refine ts_nil ?_ | refine ts_cons ?_ | refine x_nil ?_ | refine x_set ?_ | refine x_expr ?_ | refine x_ret ?_ | refine x_retN ?_ | refine x_ifs ?_ | refine x_setIx ?_ | refine x_unpack ?_ | refine l_add ?_ | refine l_sub ?_ | refine l_eqI ?_ | refine l_neI ?_ | refine l_eqB ?_ | refine l_neB ?_ | refine l_lt ?_ | refine l_le ?_ | refine l_gt ?_ | refine l_ge ?_ | refine ifT' rfl ?_ | refine ifF' rfl ?_ | refine ⟨_, rfl, ?_⟩ | refine ⟨rfl, ?_⟩ | refine ⟨Nat.le_of_ble_eq_true rfl, ?_⟩ | refine WC_some rfl ?_ | refine W_some rfl ?_))
            refine ifB (fun hs => ?_) (fun hs => ?_)
            · (repeat (first | refine w_var rfl ?_ | refine w_cst ?_ | refine w_glob ?_ | refine w_nil ?_ | refine w_cons ?_ | refine w_bin ?_ | refine w_ix ?_ | refine w_call ?_ | refine w_blt ?_ | refine w_isi ?_ | refine w_tup ?_ | refine w_lstT ?_ | refine w_lstF ?_ | refine e_and ?_ | refine e_or ?_ | refine w_not ?_ | refine w_neg ?_ | refine w_ite ?_ | refine w_cmp ?_ | refine w_chain ?_ | refine w_slice ?_ | refine w_oN ?_ | refine w_oS ?_ | refine t_val' ?_ | refine t_cmp' ?_ | refine t_chain' ?_ | refine t_not' ?_ | refine t_and' ?_ | refine t_or' ?_ | refine ts_nil ?_ | refine ts_cons ?_ | refine x_nil ?_ | refine x_cons ?_ | refine x_set ?_ | refine x_expr ?_ | refine x_ret ?_ | refine x_retN ?_ | refine x_ifs ?_ | refine x_setIx ?_ | refine x_unpack ?_ | refine l_add ?_ | refine l_sub ?_ | refine l_eqI ?_ | refine l_neI ?_ | refine l_eqB ?_ | refine l_neB ?_ | refine l_lt ?_ | refine l_le ?_ | refine l_gt ?_ | refine l_ge ?_ | refine ifT' rfl ?_ | refine ifF' rfl ?_ | refine ⟨_, rfl, ?_⟩ | refine ⟨rfl, ?_⟩ | refine ⟨Nat.le_of_ble_eq_true rfl, ?_⟩ | refine WC_some rfl ?_ | refine W_some rfl ?_))
              refine bad ?_
              have : symB w = false := by rw [← sym_eq]; simp only [Bool.not_eq_true'] at hs; rw [hs]; rfl
              simp [pairB, this]
            have hs' : (nameB w && !headIn VAR w) = true := by simpa using hs
            refine x_nil ?_
            refine x_cons ?_
            (repeat (first | refine w_var rfl ?_ | refine w_cst ?_ | refine w_glob ?_ | refine w_nil ?_ | refine w_cons ?_ | refine w_bin ?_ | refine w_ix ?_ | refine w_call ?_ | refine w_blt ?_ | refine w_isi ?_ | refine w_tup ?_ | refine w_lstT ?_ | refine w_lstF ?_ | refine e_and ?_ | refine e_or ?_ | refine w_not ?_ | refine w_neg ?_ | refine w_ite ?_ | refine w_cmp ?_ | refine w_chain ?_ | refine w_slice ?_ | refine w_oN ?_ | refine w_oS ?_ | refine t_val' ?_ | refine t_cmp' ?_ | refine t_chain' ?_ | refine t_not' ?_ | refine t_and' ?_ | refine t_or' ?_ | refine ts_nil ?_ | refine ts_cons ?_ | refine x_nil ?_ | refine x_set ?_ | refine x_expr ?_ | refine x_ret ?_ | refine x_retN ?_ | refine x_ifs ?_ | refine x_setIx ?_ | refine x_unpack ?_ | refine l_add ?_ | refine l_sub ?_ | refine l_eqI ?_ | refine l_neI ?_ | refine l_eqB ?_ | refine l_neB ?_ | refine l_lt ?_ | refine l_le ?_ | refine l_gt ?_ | refine l_ge ?_ | refine ifT' rfl ?_ | refine ifF' rfl ?_ | refine ⟨_, rfl, ?_⟩ | refine ⟨rfl, ?_⟩ | refine ⟨Nat.le_of_ble_eq_true rfl, ?_⟩ | refine WC_some rfl ?_ | refine W_some rfl ?_))
            refine whole hb hS ?_
            (repeat (first | refine w_var rfl ?_ | refine w_cst ?_ | refine w_glob ?_ | refine w_nil ?_ | refine w_cons ?_ | refine w_bin ?_ | refine w_ix ?_ | refine w_call ?_ | refine w_blt ?_ | refine w_isi ?_ | refine w_tup ?_ | refine w_lstT ?_ | refine w_lstF ?_ | refine e_and ?_ | refine e_or ?_ | refine w_not ?_ | refine w_neg ?_ | refine w_ite ?_ | refine w_cmp ?_ | refine w_chain ?_ | refine w_slice ?_ | refine w_oN ?_ | refine w_oS ?_ | refine t_val' ?_ | refine t_cmp' ?_ | refine t_chain' ?_ | refine t_not' ?_ | refine t_and' ?_ | refine t_or' ?_ | refine ts_nil ?_ | refine ts_cons ?_ | refine x_nil ?_ | refine x_set ?_ | refine x_expr ?_ | refine x_ret ?_ | refine x_retN ?_ | refine x_ifs ?_ | refine x_setIx ?_ | refine x_unpack ?_ | refine l_add ?_ | refine l_sub ?_ | refine l_eqI ?_ | refine l_neI ?_ | refine l_eqB ?_ | refine l_neB ?_ | refine l_lt ?_ | refine l_le ?_ | refine l_gt ?_ | refine l_ge ?_ | refine ifT' rfl ?_ | refine ifF' rfl ?_ | refine ⟨_, rfl, ?_⟩ | refine ⟨rfl, ?_⟩ | refine ⟨Nat.le_of_ble_eq_true rfl, ?_⟩ | refine WC_some rfl ?_ | refine W_some rfl ?_))
            refine ifB (fun hn => ?_) (fun hn => ?_)
            · (repeat (first | refine w_var rfl ?_ | refine w_cst ?_ | refine w_glob ?_ | refine w_nil ?_ | refine w_cons ?_ | refine w_bin ?_ | refine w_ix ?_ | refine w_call ?_ | refine w_blt ?_ | refine w_isi ?_ | refine w_tup ?_ | refine w_lstT ?_ | refine w_lstF ?_ | refine e_and ?_ | refine e_or ?_ | refine w_not ?_ | refine w_neg ?_ | refine w_ite ?_ | refine w_cmp ?_ | refine w_chain ?_ | refine w_slice ?_ | refine w_oN ?_ | refine w_oS ?_ | refine t_val' ?_ | refine t_cmp' ?_ | refine t_chain' ?_ | refine t_not' ?_ | refine t_and' ?_ | refine t_or' ?_ | refine ts_nil ?_ | refine ts_cons ?_ | refine x_nil ?_ | refine x_cons ?_ | refine x_set ?_ | refine x_expr ?_ | refine x_ret ?_ | refine x_retN ?_ | refine x_ifs ?_ | refine x_setIx ?_ | refine x_unpack ?_ | refine l_add ?_ | refine l_sub ?_ | refine l_eqI ?_ | refine l_neI ?_ | refine l_eqB ?_ | refine l_neB ?_ | refine l_lt ?_ | refine l_le ?_ | refine l_gt ?_ | refine l_ge ?_ | refine ifT' rfl ?_ | refine ifF' rfl ?_ | refine ⟨_, rfl, ?_⟩ | refine ⟨rfl, ?_⟩ | refine ⟨Nat.le_of_ble_eq_true rfl, ?_⟩ | refine WC_some rfl ?_ | refine W_some rfl ?_))
              refine bad ?_
              have : wholeB b 3 = false := by simpa using hn
              simp [pairB, this]
            have hn' : wholeB b 3 = true := by simpa using hn
            (repeat (first | refine w_var rfl ?_ | refine w_cst ?_ | refine w_glob ?_ | refine w_nil ?_ | refine w_cons ?_ | refine w_bin ?_ | refine w_ix ?_ | refine w_call ?_ | refine w_blt ?_ | refine w_isi ?_ | refine w_tup ?_ | refine w_lstT ?_ | refine w_lstF ?_ | refine e_and ?_ | refine e_or ?_ | refine w_not ?_ | refine w_neg ?_ | refine w_ite ?_ | refine w_cmp ?_ | refine w_chain ?_ | refine w_slice ?_ | refine w_oN ?_ | refine w_oS ?_ | refine t_val' ?_ | refine t_cmp' ?_ | refine t_chain' ?_ | refine t_not' ?_ | refine t_and' ?_ | refine t_or' ?_ | refine ts_nil ?_ | refine ts_cons ?_ | refine x_nil ?_ | refine x_set ?_ | refine x_expr ?_ | refine x_ret ?_ | refine x_retN ?_ | refine x_ifs ?_ | refine x_setIx ?_ | refine x_unpack ?_ | refine l_add ?_ | refine l_sub ?_ | refine l_eqI ?_ | refine l_neI ?_ | refine l_eqB ?_ | refine l_neB ?_ | refine l_lt ?_ | refine l_le ?_ | refine l_gt ?_ | refine l_ge ?_ | refine ifT' rfl ?_ | refine ifF' rfl ?_ | refine ⟨_, rfl, ?_⟩ | refine ⟨rfl, ?_⟩ | refine ⟨Nat.le_of_ble_eq_true rfl, ?_⟩ | refine WC_some rfl ?_ | refine W_some rfl ?_))
            refine ifB (fun he => ?_) (fun he => ?_)
            · (repeat (first | refine w_var rfl ?_ | refine w_cst ?_ | refine w_glob ?_ | refine w_nil ?_ | refine w_cons ?_ | refine w_bin ?_ | refine w_ix ?_ | refine w_call ?_ | refine w_blt ?_ | refine w_isi ?_ | refine w_tup ?_ | refine w_lstT ?_ | refine w_lstF ?_ | refine e_and ?_ | refine e_or ?_ | refine w_not ?_ | refine w_neg ?_ | refine w_ite ?_ | refine w_cmp ?_ | refine w_chain ?_ | refine w_slice ?_ | refine w_oN ?_ | refine w_oS ?_ | refine t_val' ?_ | refine t_cmp' ?_ | refine t_chain' ?_ | refine t_not' ?_ | refine t_and' ?_ | refine t_or' ?_ | refine ts_nil ?_ | refine ts_cons ?_ | refine x_nil ?_ | refine x_cons ?_ | refine x_set ?_ | refine x_expr ?_ | refine x_ret ?_ | refine x_retN ?_ | refine x_ifs ?_ | refine x_setIx ?_ | refine x_unpack ?_ | refine l_add ?_ | refine l_sub ?_ | refine l_eqI ?_ | refine l_neI ?_ | refine l_eqB ?_ | refine l_neB ?_ | refine l_lt ?_ | refine l_le ?_ | refine l_gt ?_ | refine l_ge ?_ | refine ifT' rfl ?_ | refine ifF' rfl ?_ | refine ⟨_, rfl, ?_⟩ | refine ⟨rfl, ?_⟩ | refine ⟨Nat.le_of_ble_eq_true rfl, ?_⟩ | refine WC_some rfl ?_ | refine W_some rfl ?_))
              refine bad ?_
              have : symB w = false := by rw [← sym_eq, he]; simp
              simp [pairB, this]
            have hs2 : symB w = true := by rw [← sym_eq, he, hs']; rfl
            (repeat (first | refine w_var rfl ?_ | refine w_cst ?_ | refine w_glob ?_ | refine w_nil ?_ | refine w_cons ?_ | refine w_bin ?_ | refine w_ix ?_ | refine w_call ?_ | refine w_blt ?_ | refine w_isi ?_ | refine w_tup ?_ | refine w_lstT ?_ | refine w_lstF ?_ | refine e_and ?_ | refine e_or ?_ | refine w_not ?_ | refine w_neg ?_ | refine w_ite ?_ | refine w_cmp ?_ | refine w_chain ?_ | refine w_slice ?_ | refine w_oN ?_ | refine w_oS ?_ | refine t_val' ?_ | refine t_cmp' ?_ | refine t_chain' ?_ | refine t_not' ?_ | refine t_and' ?_ | refine t_or' ?_ | refine ts_nil ?_ | refine ts_cons ?_ | refine x_nil ?_ | refine x_cons ?_ | refine x_set ?_ | refine x_expr ?_ | refine x_ret ?_ | refine x_retN ?_ | refine x_ifs ?_ | refine x_setIx ?_ | refine x_unpack ?_ | refine l_add ?_ | refine l_sub ?_ | refine l_eqI ?_ | refine l_neI ?_ | refine l_eqB ?_ | refine l_neB ?_ | refine l_lt ?_ | refine l_le ?_ | refine l_gt ?_ | refine l_ge ?_ | refine ifT' rfl ?_ | refine ifF' rfl ?_ | refine ⟨_, rfl, ?_⟩ | refine ⟨rfl, ?_⟩ | refine ⟨Nat.le_of_ble_eq_true rfl, ?_⟩ | refine WC_some rfl ?_ | refine W_some rfl ?_))
            refine ⟨⟨_, rfl⟩, good ?_⟩
            simp [pairB, hs2, hn']
          | fzl _ => simp [gd] at ha
          | ref _ => simp [gd] at ha
          | _ =>
            (repeat (first | refine w_var rfl ?_ | refine w_cst ?_ | refine w_glob ?_ | refine w_nil ?_ | refine w_cons ?_ | refine w_bin ?_ | refine w_ix ?_ | refine w_call ?_ | refine w_blt ?_ | refine w_isi ?_ | refine w_tup ?_ | refine w_lstT ?_ | refine w_lstF ?_ | refine e_and ?_ | refine e_or ?_ | refine w_not ?_ | refine w_neg ?_ | refine w_ite ?_ | refine w_cmp ?_ | refine w_chain ?_ | refine w_slice ?_ | refine w_oN ?_ | refine w_oS ?_ | refine t_val' ?_ | refine t_cmp' ?_ | refine t_chain' ?_ | refine t_not' ?_ | refine t_and' ?_ | refine t_or' ?_ | refine ts_nil ?_ | refine ts_cons ?_ | refine x_nil ?_ | refine x_cons ?_ | refine x_set ?_ | refine x_expr ?_ | refine x_ret ?_ | refine x_retN ?_ | refine x_ifs ?_ | refine x_setIx ?_ | refine x_unpack ?_ | refine l_add ?_ | refine l_sub ?_ | refine l_eqI ?_ | refine l_neI ?_ | refine l_eqB ?_ | refine l_neB ?_ | refine l_lt ?_ | refine l_le ?_ | refine l_gt ?_ | refine l_ge ?_ | refine ifT' rfl ?_ | refine ifF' rfl ?_ | refine ⟨_, rfl, ?_⟩ | refine ⟨rfl, ?_⟩ | refine ⟨Nat.le_of_ble_eq_true rfl, ?_⟩ | refine WC_some rfl ?_ | refine W_some rfl ?_))
            exact bad rfl
        · refine x_cons ?_
          (repeat (first | refine w_var rfl ?_ | refine w_cst ?_ | refine w_glob ?_ | refine w_nil ?_ | refine w_cons ?_ | refine w_bin ?_ | refine w_ix ?_ | refine w_call ?_ | refine w_blt ?_ | refine w_isi ?_ | refine w_tup ?_ | refine w_lstT ?_ | refine w_lstF ?_ | refine e_and ?_ | refine e_or ?_ | refine w_not ?_ | refine w_neg ?_ | refine w_ite ?_ | refine w_cmp ?_ | refine w_chain ?_ | refine w_slice ?_ | refine w_oN ?_ | refine w_oS ?_ | refine t_val' ?_ | refine t_cmp' ?_ | refine t_chain' ?_ | refine t_not' ?_ | refine t_and' ?_ | refine t_or' ?_ | refine ts_nil ?_ | refine ts_cons ?_ | refine x_nil ?_ | refine x_set ?_ | refine x_expr ?_ | refine x_ret ?_ | refine x_retN ?_ | refine x_ifs ?_ | refine x_setIx ?_ | refine x_unpack ?_ | refine l_add ?_ | refine l_sub ?_ | refine l_eqI ?_ | refine l_neI ?_ | refine l_eqB ?_ | refine l_neB ?_ | refine l_lt ?_ | refine l_le ?_ | refine l_gt ?_ | refine l_ge ?_ | refine ifT' rfl ?_ | refine ifF' rfl ?_ | refine ⟨_, rfl, ?_⟩ | refine ⟨rfl, ?_⟩ | refine ⟨Nat.le_of_ble_eq_true rfl, ?_⟩ | refine WC_some rfl ?_ | refine W_some rfl ?_))
          refine ifT' (by simp; omega) ?_
          (repeat (first | refine w_var rfl ?_ | refine w_cst ?_ | refine w_glob ?_ | refine w_nil ?_ | refine w_cons ?_ | refine w_bin ?_ | refine w_ix ?_ | refine w_call ?_ | refine w_blt ?_ | refine w_isi ?_ | refine w_tup ?_ | refine w_lstT ?_ | refine w_lstF ?_ | refine e_and ?_ | refine e_or ?_ | refine w_not ?_ | refine w_neg ?_ | refine w_ite ?_ | refine w_cmp ?_ | refine w_chain ?_ | refine w_slice ?_ | refine w_oN ?_ | refine w_oS ?_ | refine t_val' ?_ | refine t_cmp' ?_ | refine t_chain' ?_ | refine t_not' ?_ | refine t_and' ?_ | refine t_or' ?_ | refine ts_nil ?_ | refine ts_cons ?_ | refine x_nil ?_ | refine x_cons ?_ | refine x_set ?_ | refine x_expr ?_ | refine x_ret ?_ | refine x_retN ?_ | refine x_ifs ?_ | refine x_setIx ?_ | refine x_unpack ?_ | refine l_add ?_ | refine l_sub ?_ | refine l_eqI ?_ | refine l_neI ?_ | refine l_eqB ?_ | refine l_neB ?_ | refine l_lt ?_ | refine l_le ?_ | refine l_gt ?_ | refine l_ge ?_ | refine ifT' rfl ?_ | refine ifF' rfl ?_ | refine ⟨_, rfl, ?_⟩ | refine ⟨rfl, ?_⟩ | refine ⟨Nat.le_of_ble_eq_true rfl, ?_⟩ | refine WC_some rfl ?_ | refine W_some rfl ?_))
          refine bad ?_
          unfold pairB
          split
          · rename_i e; cases e; exact absurd rfl hp
          · rfl
      | fzl _ => simp [gd] at hxg
      | ref _ => simp [gd] at hxg
      | _ =>
        (repeat (first | refine w_var rfl ?_ | refine w_cst ?_ | refine w_glob ?_ | refine w_nil ?_ | refine w_cons ?_ | refine w_bin ?_ | refine w_ix ?_ | refine w_call ?_ | refine w_blt ?_ | refine w_isi ?_ | refine w_tup ?_ | refine w_lstT ?_ | refine w_lstF ?_ | refine e_and ?_ | refine e_or ?_ | refine w_not ?_ | refine w_neg ?_ | refine w_ite ?_ | refine w_cmp ?_ | refine w_chain ?_ | refine w_slice ?_ | refine w_oN ?_ | refine w_oS ?_ | refine t_val' ?_ | refine t_cmp' ?_ | refine t_chain' ?_ | refine t_not' ?_ | refine t_and' ?_ | refine t_or' ?_ | refine ts_nil ?_ | refine ts_cons ?_ | refine x_nil ?_ | refine x_cons ?_ | refine x_set ?_ | refine x_expr ?_ | refine x_ret ?_ | refine x_retN ?_ | refine x_ifs ?_ | refine x_setIx ?_ | refine x_unpack ?_ | refine l_add ?_ | refine l_sub ?_ | refine l_eqI ?_ | refine l_neI ?_ | refine l_eqB ?_ | refine l_neB ?_ | refine l_lt ?_ | refine l_le ?_ | refine l_gt ?_ | refine l_ge ?_ | refine ifT' rfl ?_ | refine ifF' rfl ?_ | refine ⟨_, rfl, ?_⟩ | refine ⟨rfl, ?_⟩ | refine ⟨Nat.le_of_ble_eq_true rfl, ?_⟩ | refine WC_some rfl ?_ | refine W_some rfl ?_))
        exact bad rfl
    · rintro env S2 ⟨rfl, ⟨y, rfl⟩, hall⟩
      have hp : l.all pairB = true := List.all_eq_true.mpr fun x hx => by
        obtain ⟨i, hi, e⟩ := List.getElem_of_mem hx
        exact hall i x hi (by rw [List.getElem?_eq_getElem hi, e])
      refine x_cons ?_
      refine x_ret ?_
      refine w_cmp ?_
      refine w_blt ?_
      refine w_cons ?_
      refine w_keyed l ((l.map nmOf).map Sum.inr) (.bl true) (Nat.lt_of_le_of_lt hl (by decide)) (by simp) (r_seq (w_var rfl (WC_some rfl ⟨rfl, rfl, fun i x key hx hk => ?_, ?_⟩)))
      · refine ⟨_, rfl, ?_⟩
        obtain ⟨w, n, rfl, _, _⟩ := pair_cases (List.all_eq_true.mp hp x (List.mem_of_getElem? hx))
        simp only [List.getElem?_map, hx, Option.map_some, Option.some.injEq] at hk
        subst hk
        (repeat (first | refine w_var rfl ?_ | refine w_cst ?_ | refine w_glob ?_ | refine w_nil ?_ | refine w_cons ?_ | refine w_bin ?_ | refine w_ix ?_ | refine w_call ?_ | refine w_blt ?_ | refine w_isi ?_ | refine w_tup ?_ | refine w_lstT ?_ | refine w_lstF ?_ | refine e_and ?_ | refine e_or ?_ | refine w_not ?_ | refine w_neg ?_ | refine w_ite ?_ | refine w_cmp ?_ | refine w_chain ?_ | refine w_slice ?_ | refine w_oN ?_ | refine w_oS ?_ | refine t_val' ?_ | refine t_cmp' ?_ | refine t_chain' ?_ | refine t_not' ?_ | refine t_and' ?_ | refine t_or' ?_ | refine ts_nil ?_ | refine ts_cons ?_ | refine x_nil ?_ | refine x_cons ?_ | refine x_set ?_ | refine x_expr ?_ | refine x_ret ?_ | refine x_retN ?_ | refine x_ifs ?_ | refine x_setIx ?_ | refine x_unpack ?_ | refine l_add ?_ | refine l_sub ?_ | refine l_eqI ?_ | refine l_neI ?_ | refine l_eqB ?_ | refine l_neB ?_ | refine l_lt ?_ | refine l_le ?_ | refine l_gt ?_ | refine l_ge ?_ | refine ifT' rfl ?_ | refine ifF' rfl ?_ | refine ⟨_, rfl, ?_⟩ | refine ⟨rfl, ?_⟩ | refine ⟨Nat.le_of_ble_eq_true rfl, ?_⟩ | refine WC_some rfl ?_ | refine W_some rfl ?_))
        exact rfl
      · refine w_nil ?_
        refine l_lenD (kvs := keyed (.bl true) ((l.map nmOf).map Sum.inr)) (by simp) ?_
        (repeat (first | refine w_var rfl ?_ | refine w_cst ?_ | refine w_glob ?_ | refine w_nil ?_ | refine w_cons ?_ | refine w_bin ?_ | refine w_ix ?_ | refine w_call ?_ | refine w_blt ?_ | refine w_isi ?_ | refine w_tup ?_ | refine w_lstT ?_ | refine w_lstF ?_ | refine e_and ?_ | refine e_or ?_ | refine w_not ?_ | refine w_neg ?_ | refine w_ite ?_ | refine w_cmp ?_ | refine w_chain ?_ | refine w_slice ?_ | refine w_oN ?_ | refine w_oS ?_ | refine t_val' ?_ | refine t_cmp' ?_ | refine t_chain' ?_ | refine t_not' ?_ | refine t_and' ?_ | refine t_or' ?_ | refine ts_nil ?_ | refine ts_cons ?_ | refine x_nil ?_ | refine x_set ?_ | refine x_expr ?_ | refine x_ret ?_ | refine x_retN ?_ | refine x_ifs ?_ | refine x_setIx ?_ | refine x_unpack ?_ | refine l_add ?_ | refine l_sub ?_ | refine l_eqI ?_ | refine l_neI ?_ | refine l_eqB ?_ | refine l_neB ?_ | refine l_lt ?_ | refine l_le ?_ | refine l_gt ?_ | refine l_ge ?_ | refine ifT' rfl ?_ | refine ifF' rfl ?_ | refine ⟨_, rfl, ?_⟩ | refine ⟨rfl, ?_⟩ | refine ⟨Nat.le_of_ble_eq_true rfl, ?_⟩ | refine WC_some rfl ?_ | refine W_some rfl ?_))
        refine fin_drop rfl hS rfl ?_
        have e : (((keyed (.bl true) ((l.map nmOf).map Sum.inr)).length : Int) == (l.length : Int)) = decide (l.map nmOf).Nodup := by
          have h := (keyed_len (v := .bl true) (ks := (l.map nmOf).map Sum.inr)).2
          rw [nodup_inr] at h
          simp only [List.length_map] at h
          by_cases hd : (l.map nmOf).Nodup
          · rw [h.mpr hd]; simp [hd]
          · simp only [hd, decide_false, beq_eq_false_iff_ne, ne_eq]
            intro z
            exact hd (h.mp (by omega))
        rw [e]
        simpa [sigB, h1, h6', hp] using q
  | fzl _ => simp [gd] at hv
  | ref _ => simp [gd] at hv
  | _ =>
    (repeat (first | refine w_var rfl ?_ | refine w_cst ?_ | refine w_glob ?_ | refine w_nil ?_ | refine w_cons ?_ | refine w_bin ?_ | refine w_ix ?_ | refine w_call ?_ | refine w_blt ?_ | refine w_isi ?_ | refine w_tup ?_ | refine w_lstT ?_ | refine w_lstF ?_ | refine e_and ?_ | refine e_or ?_ | refine w_not ?_ | refine w_neg ?_ | refine w_ite ?_ | refine w_cmp ?_ | refine w_chain ?_ | refine w_slice ?_ | refine w_oN ?_ | refine w_oS ?_ | refine t_val' ?_ | refine t_cmp' ?_ | refine t_chain' ?_ | refine t_not' ?_ | refine t_and' ?_ | refine t_or' ?_ | refine ts_nil ?_ | refine ts_cons ?_ | refine x_nil ?_ | refine x_cons ?_ | refine x_set ?_ | refine x_expr ?_ | refine x_ret ?_ | refine x_retN ?_ | refine x_ifs ?_ | refine x_setIx ?_ | refine x_unpack ?_ | refine l_add ?_ | refine l_sub ?_ | refine l_eqI ?_ | refine l_neI ?_ | refine l_eqB ?_ | refine l_neB ?_ | refine l_lt ?_ | refine l_le ?_ | refine l_gt ?_ | refine l_ge ?_ | refine ifT' rfl ?_ | refine ifF' rfl ?_ | refine ⟨_, rfl, ?_⟩ | refine ⟨rfl, ?_⟩ | refine ⟨Nat.le_of_ble_eq_true rfl, ?_⟩ | refine WC_some rfl ?_ | refine W_some rfl ?_))
    exact fin_same rfl hS rfl q
end Tt.L
end

section
/-! k16: signatures, as the law sees them. -/
namespace Tt.L
open PySem Tt Tt.P L2
/-- a name's number among names -/
theorem count_one (ws : List Str) : (ws.all fun w => decide (((ws.countP fun y => y == w : Nat) : Int) = 1)) = decide ws.Nodup := by
  have key : (∀ w ∈ ws, ws.countP (fun y => y == w) = 1) ↔ ws.Nodup := by
    constructor
    · intro h
      rw [List.nodup_iff_count]
      intro a
      by_cases ha : a ∈ ws
      · exact Nat.le_of_eq (h a ha)
      · rw [List.count_eq_zero_of_not_mem ha]; omega
    · intro h w hw
      have h1 := List.nodup_iff_count.mp h w
      have h2 : 0 < ws.count w := List.count_pos_iff.mpr hw
      show ws.count w = 1
      omega
  by_cases hd : ws.Nodup
  · rw [decide_eq_true hd, List.all_eq_true]
    intro w hw
    rw [key.mpr hd w hw]
    rfl
  · rw [decide_eq_false hd, Bool.eq_false_iff]
    intro z
    rw [List.all_eq_true] at z
    refine hd (key.mp fun w hw => ?_)
    have := of_decide_eq_true (z w hw)
    omega
theorem l_count {names : List Str} {w : Str} {S : Sto} {Q : D → Sto → Prop} (q : Q (.int ((names.countP fun y => y == w : Nat) : Int)) S) : W (mthD .count (.lst (names.map .str)) [.str w] S) Q := by
  refine ⟨_, _, ?_, q⟩
  have h1 : (names.map D.str).all flatD = true := by simp [List.all_map, flatD]
  simp only [mthD, litems, Option.bind_some, h1, flatD, Bool.and_self, if_true]
  rw [List.map_map, List.countP_map]
  rfl
theorem sigL {k : Nat} {v : D} {S : Sto} {Q : D → Sto → Prop} (hv : gd v = true) (hS : S.all puO = true) (q : Q (.bl (sigB v)) S) : W (calls pg (k + 3) 14 [v] S) Q := by
  refine call_run (di := d14) rfl (w_run rfl ?_)
  cases v with
  | tup l =>
    simp only [gd, Bool.and_eq_true, decide_eq_true_eq] at hv
    obtain ⟨hl, hg⟩ := hv
    refine x_cons ?_
    (repeat (first | refine w_var rfl ?_ | refine w_cst ?_ | refine w_glob ?_ | refine w_nil ?_ | refine w_cons ?_ | refine w_bin ?_ | refine w_ix ?_ | refine w_call ?_ | refine w_blt ?_ | refine w_isi ?_ | refine w_tup ?_ | refine w_lstT ?_ | refine w_lstF ?_ | refine e_and ?_ | refine e_or ?_ | refine w_not ?_ | refine w_neg ?_ | refine w_ite ?_ | refine w_cmp ?_ | refine w_chain ?_ | refine w_slice ?_ | refine w_oN ?_ | refine w_oS ?_ | refine t_val' ?_ | refine t_cmp' ?_ | refine t_chain' ?_ | refine t_not' ?_ | refine t_and' ?_ | refine t_or' ?_ | refine ts_nil ?_ | refine ts_cons ?_ | refine x_nil ?_ | refine x_set ?_ | refine x_expr ?_ | refine x_ret ?_ | refine x_retN ?_ | refine x_ifs ?_ | refine x_setIx ?_ | refine x_unpack ?_ | refine l_add ?_ | refine l_sub ?_ | refine l_eqI ?_ | refine l_neI ?_ | refine l_eqB ?_ | refine l_neB ?_ | refine l_lt ?_ | refine l_le ?_ | refine l_gt ?_ | refine l_ge ?_ | refine ifT' rfl ?_ | refine ifF' rfl ?_ | refine ⟨_, rfl, ?_⟩ | refine ⟨rfl, ?_⟩ | refine ⟨Nat.le_of_ble_eq_true rfl, ?_⟩ | refine WC_some rfl ?_ | refine W_some rfl ?_))
    refine ifB (fun h1 => ?_) (fun h1 => ?_)
    case refine_2 =>
      (repeat (first | refine w_var rfl ?_ | refine w_cst ?_ | refine w_glob ?_ | refine w_nil ?_ | refine w_cons ?_ | refine w_bin ?_ | refine w_ix ?_ | refine w_call ?_ | refine w_blt ?_ | refine w_isi ?_ | refine w_tup ?_ | refine w_lstT ?_ | refine w_lstF ?_ | refine e_and ?_ | refine e_or ?_ | refine w_not ?_ | refine w_neg ?_ | refine w_ite ?_ | refine w_cmp ?_ | refine w_chain ?_ | refine w_slice ?_ | refine w_oN ?_ | refine w_oS ?_ | refine t_val' ?_ | refine t_cmp' ?_ | refine t_chain' ?_ | refine t_not' ?_ | refine t_and' ?_ | refine t_or' ?_ | refine ts_nil ?_ | refine ts_cons ?_ | refine x_nil ?_ | refine x_cons ?_ | refine x_set ?_ | refine x_expr ?_ | refine x_ret ?_ | refine x_retN ?_ | refine x_ifs ?_ | refine x_setIx ?_ | refine x_unpack ?_ | refine l_add ?_ | refine l_sub ?_ | refine l_eqI ?_ | refine l_neI ?_ | refine l_eqB ?_ | refine l_neB ?_ | refine l_lt ?_ | refine l_le ?_ | refine l_gt ?_ | refine l_ge ?_ | refine ifT' rfl ?_ | refine ifF' rfl ?_ | refine ⟨_, rfl, ?_⟩ | refine ⟨rfl, ?_⟩ | refine ⟨Nat.le_of_ble_eq_true rfl, ?_⟩ | refine WC_some rfl ?_ | refine W_some rfl ?_))
      refine fin_same rfl hS rfl ?_
      simpa [sigB, h1] using q
    (repeat (first | refine w_var rfl ?_ | refine w_cst ?_ | refine w_glob ?_ | refine w_nil ?_ | refine w_cons ?_ | refine w_bin ?_ | refine w_ix ?_ | refine w_call ?_ | refine w_blt ?_ | refine w_isi ?_ | refine w_tup ?_ | refine w_lstT ?_ | refine w_lstF ?_ | refine e_and ?_ | refine e_or ?_ | refine w_not ?_ | refine w_neg ?_ | refine w_ite ?_ | refine w_cmp ?_ | refine w_chain ?_ | refine w_slice ?_ | refine w_oN ?_ | refine w_oS ?_ | refine t_val' ?_ | refine t_cmp' ?_ | refine t_chain' ?_ | refine t_not' ?_ | refine t_and' ?_ | refine t_or' ?_ | refine ts_nil ?_ | refine ts_cons ?_ | refine x_nil ?_ | refine x_set ?_ | refine x_expr ?_ | refine x_ret ?_ | refine x_retN ?_ | refine x_ifs ?_ | refine x_setIx ?_ | refine x_unpack ?_ | refine l_add ?_ | refine l_sub ?_ | refine l_eqI ?_ | refine l_neI ?_ | refine l_eqB ?_ | refine l_neB ?_ | refine l_lt ?_ | refine l_le ?_ | refine l_gt ?_ | refine l_ge ?_ | refine ifT' rfl ?_ | refine ifF' rfl ?_ | refine ⟨_, rfl, ?_⟩ | refine ⟨rfl, ?_⟩ | refine ⟨Nat.le_of_ble_eq_true rfl, ?_⟩ | refine WC_some rfl ?_ | refine W_some rfl ?_))
    refine ifB (fun h6 => ?_) (fun h6 => ?_)
    · have h6' : decide ((l.length : Int) ≤ 6) = false := by simpa using h6
      (repeat (first | refine w_var rfl ?_ | refine w_cst ?_ | refine w_glob ?_ | refine w_nil ?_ | refine w_cons ?_ | refine w_bin ?_ | refine w_ix ?_ | refine w_call ?_ | refine w_blt ?_ | refine w_isi ?_ | refine w_tup ?_ | refine w_lstT ?_ | refine w_lstF ?_ | refine e_and ?_ | refine e_or ?_ | refine w_not ?_ | refine w_neg ?_ | refine w_ite ?_ | refine w_cmp ?_ | refine w_chain ?_ | refine w_slice ?_ | refine w_oN ?_ | refine w_oS ?_ | refine t_val' ?_ | refine t_cmp' ?_ | refine t_chain' ?_ | refine t_not' ?_ | refine t_and' ?_ | refine t_or' ?_ | refine ts_nil ?_ | refine ts_cons ?_ | refine x_nil ?_ | refine x_cons ?_ | refine x_set ?_ | refine x_expr ?_ | refine x_ret ?_ | refine x_retN ?_ | refine x_ifs ?_ | refine x_setIx ?_ | refine x_unpack ?_ | refine l_add ?_ | refine l_sub ?_ | refine l_eqI ?_ | refine l_neI ?_ | refine l_eqB ?_ | refine l_neB ?_ | refine l_lt ?_ | refine l_le ?_ | refine l_gt ?_ | refine l_ge ?_ | refine ifT' rfl ?_ | refine ifF' rfl ?_ | refine ⟨_, rfl, ?_⟩ | refine ⟨rfl, ?_⟩ | refine ⟨Nat.le_of_ble_eq_true rfl, ?_⟩ | refine WC_some rfl ?_ | refine W_some rfl ?_))
      refine fin_same rfl hS rfl ?_
      simpa [sigB, h6'] using q
    have h6' : decide ((l.length : Int) ≤ 6) = true := by simpa using h6
    refine x_nil ?_
    refine x_cons ?_
    refine x_for ?_
    refine r_seq ?_
    refine w_var rfl ?_
    refine WC_some rfl ?_
    refine for_inv (l := l) (fun i env S2 => S2 = S ∧ (∃ y, env = [some (.tup l), y, none, none]) ∧ ∀ j x, j < i → l[j]? = some x → pairB x = true) rfl ⟨rfl, ⟨_, rfl⟩, fun j x h => by omega⟩ (fun i env S2 ⟨e, _, _⟩ => rfl) ?_ ?_
    · rintro i x env S2 hx ⟨rfl, ⟨y, rfl⟩, hall⟩
      refine ⟨_, rfl, ?_⟩
      have hxg : gd x = true := gds_get hg hx
      have bad : pairB x = false → W (fin d14.df S2.length (.bl false) S2) Q := fun h => by
        refine fin_same rfl hS rfl ?_
        rw [sig_bad hx h] at q
        exact q
      have good : pairB x = true → ∀ j z, j < i + 1 → l[j]? = some z → pairB z = true := fun h j z hj hz => by
        by_cases e : j = i
        · subst e; rw [hx] at hz; cases hz; exact h
        · exact hall j z (by omega) hz
      cases x with
      | tup p =>
        simp only [gd, Bool.and_eq_true, decide_eq_true_eq] at hxg
        by_cases hp : p.length = 2
        · obtain ⟨a, b, rfl⟩ : ∃ a b, p = [a, b] := by
            match p, hp with
            | [a, b], _ => exact ⟨a, b, rfl⟩
          have ha : gd a = true := by have := hxg.2; simp only [gds, Bool.and_eq_true] at this; exact this.1
          have hb : gd b = true := by have := hxg.2; simp only [gds, Bool.and_eq_true] at this; exact this.2.1
          refine x_cons ?_
          (repeat (first | refine w_var rfl ?_ | refine w_cst ?_ | refine w_glob ?_ | refine w_nil ?_ | refine w_cons ?_ | refine w_bin ?_ | refine w_ix ?_ | refine w_call ?_ | refine w_blt ?_ | refine w_isi ?_ | refine w_tup ?_ | refine w_lstT ?_ | refine w_lstF ?_ | refine e_and ?_ | refine e_or ?_ | refine w_not ?_ | refine w_neg ?_ | refine w_ite ?_ | refine w_cmp ?_ | refine w_chain ?_ | refine w_slice ?_ | refine w_oN ?_ | refine w_oS ?_ | refine t_val' ?_ | refine t_cmp' ?_ | refine t_chain' ?_ | refine t_not' ?_ | refine t_and' ?_ | refine t_or' ?_ | refine ts_nil ?_ | refine ts_cons ?_ | refine x_nil ?_ | refine x_set ?_ | refine x_expr ?_ | refine x_ret ?_ | refine x_retN ?_ | refine x_ifs ?_ | refine x_setIx ?_ | refine x_unpack ?_ | refine l_add ?_ | refine l_sub ?_ | refine l_eqI ?_ | refine l_neI ?_ | refine l_eqB ?_ | refine l_neB ?_ | refine l_lt ?_ | refine l_le ?_ | refine l_gt ?_ | refine l_ge ?_ | refine ifT' rfl ?_ | refine ifF' rfl ?_ | refine ⟨_, rfl, ?_⟩ | refine ⟨rfl, ?_⟩ | refine ⟨Nat.le_of_ble_eq_true rfl, ?_⟩ | refine WC_some rfl ?_ | refine W_some rfl ?_))
          refine symL ha hS ?_
          (repeat (first | refine w_var rfl ?_ | refine w_cst ?_ | refine w_glob ?_ | refine w_nil ?_ | refine w_cons ?_ | refine w_bin ?_ | refine w_ix ?_ | refine w_call ?_ | refine w_blt ?_ | refine w_isi ?_ | refine w_tup ?_ | refine w_lstT ?_ | refine w_lstF ?_ | refine e_and ?_ | refine e_or ?_ | refine w_not ?_ | refine w_neg ?_ | refine w_ite ?_ | refine w_cmp ?_ | refine w_chain ?_ | refine w_slice ?_ | refine w_oN ?_ | refine w_oS ?_ | refine t_val' ?_ | refine t_cmp' ?_ | refine t_chain' ?_ | refine t_not' ?_ | refine t_and' ?_ | refine t_or' ?_ | refine ts_nil ?_ | refine ts_cons ?_ | refine x_nil ?_ | refine x_set ?_ | refine x_expr ?_ | refine x_ret ?_ | refine x_retN ?_ | refine x_ifs ?_ | refine x_setIx ?_ | refine x_unpack ?_ | refine l_add ?_ | refine l_sub ?_ | refine l_eqI ?_ | refine l_neI ?_ | refine l_eqB ?_ | refine l_neB ?_ | refine l_lt ?_ | refine l_le ?_ | refine l_gt ?_ | refine l_ge ?_ | refine ifT' rfl ?_ | refine ifF' rfl ?_ | refine ⟨_, rfl, ?_⟩ | refine ⟨rfl, ?_⟩ | refine ⟨Nat.le_of_ble_eq_true rfl, ?_⟩ | refine WC_some rfl ?_ | refine W_some rfl ?_))
          refine ifB (fun hs => ?_) (fun hs => ?_)
          · (repeat (first | refine w_var rfl ?_ | refine w_cst ?_ | refine w_glob ?_ | refine w_nil ?_ | refine w_cons ?_ | refine w_bin ?_ | refine w_ix ?_ | refine w_call ?_ | refine w_blt ?_ | refine w_isi ?_ | refine w_tup ?_ | refine w_lstT ?_ | refine w_lstF ?_ | refine e_and ?_ | refine e_or ?_ | refine w_not ?_ | refine w_neg ?_ | refine w_ite ?_ | refine w_cmp ?_ | refine w_chain ?_ | refine w_slice ?_ | refine w_oN ?_ | refine w_oS ?_ | refine t_val' ?_ | refine t_cmp' ?_ | refine t_chain' ?_ | refine t_not' ?_ | refine t_and' ?_ | refine t_or' ?_ | refine ts_nil ?_ | refine ts_cons ?_ | refine x_nil ?_ | refine x_cons ?_ | refine x_set ?_ | refine x_expr ?_ | refine x_ret ?_ | refine x_retN ?_ | refine x_ifs ?_ | refine x_setIx ?_ | refine x_unpack ?_ | refine l_add ?_ | refine l_sub ?_ | refine l_eqI ?_ | refine l_neI ?_ | refine l_eqB ?_ | refine l_neB ?_ | refine l_lt ?_ | refine l_le ?_ | refine l_gt ?_ | refine l_ge ?_ | refine ifT' rfl ?_ | refine ifF' rfl ?_ | refine ⟨_, rfl, ?_⟩ | refine ⟨rfl, ?_⟩ | refine ⟨Nat.le_of_ble_eq_true rfl, ?_⟩ | refine WC_some rfl ?_ | refine W_some rfl ?_))
            refine bad ?_
            have hs : symD a = false := by simpa using hs
            unfold pairB
            split
            · rename_i w n e
              cases e
              simp only [symD] at hs
              rw [hs]; rfl
            · rfl
          have hs' : symD a = true := by simpa using hs
          obtain ⟨w, rfl⟩ : ∃ w, a = .str w := by cases a <;> first | exact ⟨_, rfl⟩ | simp [symD] at hs'
          (repeat (first | refine w_var rfl ?_ | refine w_cst ?_ | refine w_glob ?_ | refine w_nil ?_ | refine w_cons ?_ | refine w_bin ?_ | refine w_ix ?_ | refine w_call ?_ | refine w_blt ?_ | refine w_isi ?_ | refine w_tup ?_ | refine w_lstT ?_ | refine w_lstF ?_ | refine e_and ?_ | refine e_or ?_ | refine w_not ?_ | refine w_neg ?_ | refine w_ite ?_ | refine w_cmp ?_ | refine w_chain ?_ | refine w_slice ?_ | refine w_oN ?_ | refine w_oS ?_ | refine t_val' ?_ | refine t_cmp' ?_ | refine t_chain' ?_ | refine t_not' ?_ | refine t_and' ?_ | refine t_or' ?_ | refine ts_nil ?_ | refine ts_cons ?_ | refine x_nil ?_ | refine x_set ?_ | refine x_expr ?_ | refine x_ret ?_ | refine x_retN ?_ | refine x_ifs ?_ | refine x_setIx ?_ | refine x_unpack ?_ | refine l_add ?_ | refine l_sub ?_ | refine l_eqI ?_ | refine l_neI ?_ | refine l_eqB ?_ | refine l_neB ?_ | refine l_lt ?_ | refine l_le ?_ | refine l_gt ?_ | refine l_ge ?_ | refine ifT' rfl ?_ | refine ifF' rfl ?_ | refine ⟨_, rfl, ?_⟩ | refine ⟨rfl, ?_⟩ | refine ⟨Nat.le_of_ble_eq_true rfl, ?_⟩ | refine WC_some rfl ?_ | refine W_some rfl ?_))
          refine number hb hS ?_
          (repeat (first | refine w_var rfl ?_ | refine w_cst ?_ | refine w_glob ?_ | refine w_nil ?_ | refine w_cons ?_ | refine w_bin ?_ | refine w_ix ?_ | refine w_call ?_ | refine w_blt ?_ | refine w_isi ?_ | refine w_tup ?_ | refine w_lstT ?_ | refine w_lstF ?_ | refine e_and ?_ | refine e_or ?_ | refine w_not ?_ | refine w_neg ?_ | refine w_ite ?_ | refine w_cmp ?_ | refine w_chain ?_ | refine w_slice ?_ | refine w_oN ?_ | refine w_oS ?_ | refine t_val' ?_ | refine t_cmp' ?_ | refine t_chain' ?_ | refine t_not' ?_ | refine t_and' ?_ | refine t_or' ?_ | refine ts_nil ?_ | refine ts_cons ?_ | refine x_nil ?_ | refine x_set ?_ | refine x_expr ?_ | refine x_ret ?_ | refine x_retN ?_ | refine x_ifs ?_ | refine x_setIx ?_ | refine x_unpack ?_ | refine l_add ?_ | refine l_sub ?_ | refine l_eqI ?_ | refine l_neI ?_ | refine l_eqB ?_ | refine l_neB ?_ | refine l_lt ?_ | refine l_le ?_ | refine l_gt ?_ | refine l_ge ?_ | refine ifT' rfl ?_ | refine ifF' rfl ?_ | refine ⟨_, rfl, ?_⟩ | refine ⟨rfl, ?_⟩ | refine ⟨Nat.le_of_ble_eq_true rfl, ?_⟩ | refine WC_some rfl ?_ | refine W_some rfl ?_))
          refine ifB (fun hn => ?_) (fun hn => ?_)
          · (repeat (first | refine w_var rfl ?_ | refine w_cst ?_ | refine w_glob ?_ | refine w_nil ?_ | refine w_cons ?_ | refine w_bin ?_ | refine w_ix ?_ | refine w_call ?_ | refine w_blt ?_ | refine w_isi ?_ | refine w_tup ?_ | refine w_lstT ?_ | refine w_lstF ?_ | refine e_and ?_ | refine e_or ?_ | refine w_not ?_ | refine w_neg ?_ | refine w_ite ?_ | refine w_cmp ?_ | refine w_chain ?_ | refine w_slice ?_ | refine w_oN ?_ | refine w_oS ?_ | refine t_val' ?_ | refine t_cmp' ?_ | refine t_chain' ?_ | refine t_not' ?_ | refine t_and' ?_ | refine t_or' ?_ | refine ts_nil ?_ | refine ts_cons ?_ | refine x_nil ?_ | refine x_cons ?_ | refine x_set ?_ | refine x_expr ?_ | refine x_ret ?_ | refine x_retN ?_ | refine x_ifs ?_ | refine x_setIx ?_ | refine x_unpack ?_ | refine l_add ?_ | refine l_sub ?_ | refine l_eqI ?_ | refine l_neI ?_ | refine l_eqB ?_ | refine l_neB ?_ | refine l_lt ?_ | refine l_le ?_ | refine l_gt ?_ | refine l_ge ?_ | refine ifT' rfl ?_ | refine ifF' rfl ?_ | refine ⟨_, rfl, ?_⟩ | refine ⟨rfl, ?_⟩ | refine ⟨Nat.le_of_ble_eq_true rfl, ?_⟩ | refine WC_some rfl ?_ | refine W_some rfl ?_))
            refine bad ?_
            have : wholeB b 3 = false := by simpa using hn
            simp [pairB, this]
          have hn' : wholeB b 3 = true := by simpa using hn
          (repeat (first | refine w_var rfl ?_ | refine w_cst ?_ | refine w_glob ?_ | refine w_nil ?_ | refine w_cons ?_ | refine w_bin ?_ | refine w_ix ?_ | refine w_call ?_ | refine w_blt ?_ | refine w_isi ?_ | refine w_tup ?_ | refine w_lstT ?_ | refine w_lstF ?_ | refine e_and ?_ | refine e_or ?_ | refine w_not ?_ | refine w_neg ?_ | refine w_ite ?_ | refine w_cmp ?_ | refine w_chain ?_ | refine w_slice ?_ | refine w_oN ?_ | refine w_oS ?_ | refine t_val' ?_ | refine t_cmp' ?_ | refine t_chain' ?_ | refine t_not' ?_ | refine t_and' ?_ | refine t_or' ?_ | refine ts_nil ?_ | refine ts_cons ?_ | refine x_nil ?_ | refine x_cons ?_ | refine x_set ?_ | refine x_expr ?_ | refine x_ret ?_ | refine x_retN ?_ | refine x_ifs ?_ | refine x_setIx ?_ | refine x_unpack ?_ | refine l_add ?_ | refine l_sub ?_ | refine l_eqI ?_ | refine l_neI ?_ | refine l_eqB ?_ | refine l_neB ?_ | refine l_lt ?_ | refine l_le ?_ | refine l_gt ?_ | refine l_ge ?_ | refine ifT' rfl ?_ | refine ifF' rfl ?_ | refine ⟨_, rfl, ?_⟩ | refine ⟨rfl, ?_⟩ | refine ⟨Nat.le_of_ble_eq_true rfl, ?_⟩ | refine WC_some rfl ?_ | refine W_some rfl ?_))
          refine ⟨⟨_, rfl⟩, good ?_⟩
          simp only [symD] at hs'
          simp [pairB, hs', hn']
        · refine x_cons ?_
          (repeat (first | refine w_var rfl ?_ | refine w_cst ?_ | refine w_glob ?_ | refine w_nil ?_ | refine w_cons ?_ | refine w_bin ?_ | refine w_ix ?_ | refine w_call ?_ | refine w_blt ?_ | refine w_isi ?_ | refine w_tup ?_ | refine w_lstT ?_ | refine w_lstF ?_ | refine e_and ?_ | refine e_or ?_ | refine w_not ?_ | refine w_neg ?_ | refine w_ite ?_ | refine w_cmp ?_ | refine w_chain ?_ | refine w_slice ?_ | refine w_oN ?_ | refine w_oS ?_ | refine t_val' ?_ | refine t_cmp' ?_ | refine t_chain' ?_ | refine t_not' ?_ | refine t_and' ?_ | refine t_or' ?_ | refine ts_nil ?_ | refine ts_cons ?_ | refine x_nil ?_ | refine x_set ?_ | refine x_expr ?_ | refine x_ret ?_ | refine x_retN ?_ | refine x_ifs ?_ | refine x_setIx ?_ | refine x_unpack ?_ | refine l_add ?_ | refine l_sub ?_ | refine l_eqI ?_ | refine l_neI ?_ | refine l_eqB ?_ | refine l_neB ?_ | refine l_lt ?_ | refine l_le ?_ | refine l_gt ?_ | refine l_ge ?_ | refine ifT' rfl ?_ | refine ifF' rfl ?_ | refine ⟨_, rfl, ?_⟩ | refine ⟨rfl, ?_⟩ | refine ⟨Nat.le_of_ble_eq_true rfl, ?_⟩ | refine WC_some rfl ?_ | refine W_some rfl ?_))
          refine ifT' (by simp; omega) ?_
          (repeat (first | refine w_var rfl ?_ | refine w_cst ?_ | refine w_glob ?_ | refine w_nil ?_ | refine w_cons ?_ | refine w_bin ?_ | refine w_ix ?_ | refine w_call ?_ | refine w_blt ?_ | refine w_isi ?_ | refine w_tup ?_ | refine w_lstT ?_ | refine w_lstF ?_ | refine e_and ?_ | refine e_or ?_ | refine w_not ?_ | refine w_neg ?_ | refine w_ite ?_ | refine w_cmp ?_ | refine w_chain ?_ | refine w_slice ?_ | refine w_oN ?_ | refine w_oS ?_ | refine t_val' ?_ | refine t_cmp' ?_ | refine t_chain' ?_ | refine t_not' ?_ | refine t_and' ?_ | refine t_or' ?_ | refine ts_nil ?_ | refine ts_cons ?_ | refine x_nil ?_ | refine x_cons ?_ | refine x_set ?_ | refine x_expr ?_ | refine x_ret ?_ | refine x_retN ?_ | refine x_ifs ?_ | refine x_setIx ?_ | refine x_unpack ?_ | refine l_add ?_ | refine l_sub ?_ | refine l_eqI ?_ | refine l_neI ?_ | refine l_eqB ?_ | refine l_neB ?_ | refine l_lt ?_ | refine l_le ?_ | refine l_gt ?_ | refine l_ge ?_ | refine ifT' rfl ?_ | refine ifF' rfl ?_ | refine ⟨_, rfl, ?_⟩ | refine ⟨rfl, ?_⟩ | refine ⟨Nat.le_of_ble_eq_true rfl, ?_⟩ | refine WC_some rfl ?_ | refine W_some rfl ?_))
          refine bad ?_
          unfold pairB
          split
          · rename_i e; cases e; exact absurd rfl hp
          · rfl
      | fzl _ => simp [gd] at hxg
      | ref _ => simp [gd] at hxg
      | _ =>
        (repeat (first | refine w_var rfl ?_ | refine w_cst ?_ | refine w_glob ?_ | refine w_nil ?_ | refine w_cons ?_ | refine w_bin ?_ | refine w_ix ?_ | refine w_call ?_ | refine w_blt ?_ | refine w_isi ?_ | refine w_tup ?_ | refine w_lstT ?_ | refine w_lstF ?_ | refine e_and ?_ | refine e_or ?_ | refine w_not ?_ | refine w_neg ?_ | refine w_ite ?_ | refine w_cmp ?_ | refine w_chain ?_ | refine w_slice ?_ | refine w_oN ?_ | refine w_oS ?_ | refine t_val' ?_ | refine t_cmp' ?_ | refine t_chain' ?_ | refine t_not' ?_ | refine t_and' ?_ | refine t_or' ?_ | refine ts_nil ?_ | refine ts_cons ?_ | refine x_nil ?_ | refine x_cons ?_ | refine x_set ?_ | refine x_expr ?_ | refine x_ret ?_ | refine x_retN ?_ | refine x_ifs ?_ | refine x_setIx ?_ | refine x_unpack ?_ | refine l_add ?_ | refine l_sub ?_ | refine l_eqI ?_ | refine l_neI ?_ | refine l_eqB ?_ | refine l_neB ?_ | refine l_lt ?_ | refine l_le ?_ | refine l_gt ?_ | refine l_ge ?_ | refine ifT' rfl ?_ | refine ifF' rfl ?_ | refine ⟨_, rfl, ?_⟩ | refine ⟨rfl, ?_⟩ | refine ⟨Nat.le_of_ble_eq_true rfl, ?_⟩ | refine WC_some rfl ?_ | refine W_some rfl ?_))
        exact bad rfl
    · rintro env S2 ⟨rfl, ⟨y, rfl⟩, hall⟩
      have hp : l.all pairB = true := List.all_eq_true.mpr fun x hx => by
        obtain ⟨i, hi, e⟩ := List.getElem_of_mem hx
        exact hall i x hi (by rw [List.getElem?_eq_getElem hi, e])
      refine x_cons ?_
      refine x_set ?_
      refine w_mapR l ((l.map nmOf).map .str) (Nat.le_trans hl (by decide)) (by simp) (r_seq (w_var rfl (WC_some rfl ⟨rfl, rfl, fun i x z hx hz => ?_, ?_⟩)))
      · refine ⟨_, rfl, ?_⟩
        obtain ⟨w, n, rfl, _, _⟩ := pair_cases (List.all_eq_true.mp hp x (List.mem_of_getElem? hx))
        simp only [List.getElem?_map, hx, Option.map_some, Option.some.injEq] at hz
        subst hz
        (repeat (first | refine w_var rfl ?_ | refine w_cst ?_ | refine w_glob ?_ | refine w_nil ?_ | refine w_cons ?_ | refine w_bin ?_ | refine w_ix ?_ | refine w_call ?_ | refine w_blt ?_ | refine w_isi ?_ | refine w_tup ?_ | refine w_lstT ?_ | refine w_lstF ?_ | refine e_and ?_ | refine e_or ?_ | refine w_not ?_ | refine w_neg ?_ | refine w_ite ?_ | refine w_cmp ?_ | refine w_chain ?_ | refine w_slice ?_ | refine w_oN ?_ | refine w_oS ?_ | refine t_val' ?_ | refine t_cmp' ?_ | refine t_chain' ?_ | refine t_not' ?_ | refine t_and' ?_ | refine t_or' ?_ | refine ts_nil ?_ | refine ts_cons ?_ | refine x_nil ?_ | refine x_cons ?_ | refine x_set ?_ | refine x_expr ?_ | refine x_ret ?_ | refine x_retN ?_ | refine x_ifs ?_ | refine x_setIx ?_ | refine x_unpack ?_ | refine l_add ?_ | refine l_sub ?_ | refine l_eqI ?_ | refine l_neI ?_ | refine l_eqB ?_ | refine l_neB ?_ | refine l_lt ?_ | refine l_le ?_ | refine l_gt ?_ | refine l_ge ?_ | refine ifT' rfl ?_ | refine ifF' rfl ?_ | refine ⟨_, rfl, ?_⟩ | refine ⟨rfl, ?_⟩ | refine ⟨Nat.le_of_ble_eq_true rfl, ?_⟩ | refine WC_some rfl ?_ | refine W_some rfl ?_))
        exact rfl
      · generalize hws : l.map nmOf = ws
        have hwl : ws.length ≤ 60 := by rw [← hws, List.length_map]; exact hl
        refine x_cons ?_
        refine x_ret ?_
        refine w_blt ?_
        refine w_cons ?_
        refine w_mapR (ws.map .str) (ws.map fun w => .bl (((ws.countP fun y => y == w : Nat) : Int) == 1)) (by rw [List.length_map]; exact Nat.le_trans hwl (by decide)) (by simp) (r_seq (w_var rfl (WC_some rfl ⟨rfl, rfl, fun i x z hx hz => ?_, ?_⟩)))
        · refine ⟨_, rfl, ?_⟩
          simp only [List.getElem?_map, Option.map_eq_some_iff] at hx hz
          obtain ⟨w, hw, rfl⟩ := hx
          obtain ⟨w', hw', rfl⟩ := hz
          rw [hw] at hw'; cases hw'
          refine w_cmp ?_
          refine w_meth ?_
          (repeat (first | refine w_var rfl ?_ | refine w_cst ?_ | refine w_glob ?_ | refine w_nil ?_ | refine w_cons ?_ | refine w_bin ?_ | refine w_ix ?_ | refine w_call ?_ | refine w_blt ?_ | refine w_isi ?_ | refine w_tup ?_ | refine w_lstT ?_ | refine w_lstF ?_ | refine e_and ?_ | refine e_or ?_ | refine w_not ?_ | refine w_neg ?_ | refine w_ite ?_ | refine w_cmp ?_ | refine w_chain ?_ | refine w_slice ?_ | refine w_oN ?_ | refine w_oS ?_ | refine t_val' ?_ | refine t_cmp' ?_ | refine t_chain' ?_ | refine t_not' ?_ | refine t_and' ?_ | refine t_or' ?_ | refine ts_nil ?_ | refine ts_cons ?_ | refine x_nil ?_ | refine x_set ?_ | refine x_expr ?_ | refine x_ret ?_ | refine x_retN ?_ | refine x_ifs ?_ | refine x_setIx ?_ | refine x_unpack ?_ | refine l_add ?_ | refine l_sub ?_ | refine l_eqI ?_ | refine l_neI ?_ | refine l_eqB ?_ | refine l_neB ?_ | refine l_lt ?_ | refine l_le ?_ | refine l_gt ?_ | refine l_ge ?_ | refine ifT' rfl ?_ | refine ifF' rfl ?_ | refine ⟨_, rfl, ?_⟩ | refine ⟨rfl, ?_⟩ | refine ⟨Nat.le_of_ble_eq_true rfl, ?_⟩ | refine WC_some rfl ?_ | refine W_some rfl ?_))
          refine l_count ?_
          (repeat (first | refine w_var rfl ?_ | refine w_cst ?_ | refine w_glob ?_ | refine w_nil ?_ | refine w_cons ?_ | refine w_bin ?_ | refine w_ix ?_ | refine w_call ?_ | refine w_blt ?_ | refine w_isi ?_ | refine w_tup ?_ | refine w_lstT ?_ | refine w_lstF ?_ | refine e_and ?_ | refine e_or ?_ | refine w_not ?_ | refine w_neg ?_ | refine w_ite ?_ | refine w_cmp ?_ | refine w_chain ?_ | refine w_slice ?_ | refine w_oN ?_ | refine w_oS ?_ | refine t_val' ?_ | refine t_cmp' ?_ | refine t_chain' ?_ | refine t_not' ?_ | refine t_and' ?_ | refine t_or' ?_ | refine ts_nil ?_ | refine ts_cons ?_ | refine x_nil ?_ | refine x_set ?_ | refine x_expr ?_ | refine x_ret ?_ | refine x_retN ?_ | refine x_ifs ?_ | refine x_setIx ?_ | refine x_unpack ?_ | refine l_add ?_ | refine l_sub ?_ | refine l_eqI ?_ | refine l_neI ?_ | refine l_eqB ?_ | refine l_neB ?_ | refine l_lt ?_ | refine l_le ?_ | refine l_gt ?_ | refine l_ge ?_ | refine ifT' rfl ?_ | refine ifF' rfl ?_ | refine ⟨_, rfl, ?_⟩ | refine ⟨rfl, ?_⟩ | refine ⟨Nat.le_of_ble_eq_true rfl, ?_⟩ | refine WC_some rfl ?_ | refine W_some rfl ?_))
          exact rfl
        · (repeat (first | refine w_var rfl ?_ | refine w_cst ?_ | refine w_glob ?_ | refine w_nil ?_ | refine w_cons ?_ | refine w_bin ?_ | refine w_ix ?_ | refine w_call ?_ | refine w_blt ?_ | refine w_isi ?_ | refine w_tup ?_ | refine w_lstT ?_ | refine w_lstF ?_ | refine e_and ?_ | refine e_or ?_ | refine w_not ?_ | refine w_neg ?_ | refine w_ite ?_ | refine w_cmp ?_ | refine w_chain ?_ | refine w_slice ?_ | refine w_oN ?_ | refine w_oS ?_ | refine t_val' ?_ | refine t_cmp' ?_ | refine t_chain' ?_ | refine t_not' ?_ | refine t_and' ?_ | refine t_or' ?_ | refine ts_nil ?_ | refine ts_cons ?_ | refine x_nil ?_ | refine x_set ?_ | refine x_expr ?_ | refine x_ret ?_ | refine x_retN ?_ | refine x_ifs ?_ | refine x_setIx ?_ | refine x_unpack ?_ | refine l_add ?_ | refine l_sub ?_ | refine l_eqI ?_ | refine l_neI ?_ | refine l_eqB ?_ | refine l_neB ?_ | refine l_lt ?_ | refine l_le ?_ | refine l_gt ?_ | refine l_ge ?_ | refine ifT' rfl ?_ | refine ifF' rfl ?_ | refine ⟨_, rfl, ?_⟩ | refine ⟨rfl, ?_⟩ | refine ⟨Nat.le_of_ble_eq_true rfl, ?_⟩ | refine WC_some rfl ?_ | refine W_some rfl ?_))
          refine l_all ?_
          refine fin_same rfl hS rfl ?_
          have e : (ws.all fun w => (((ws.countP fun y => y == w : Nat) : Int) == 1)) = decide ws.Nodup := count_one ws
          rw [e]
          simpa [sigB, h1, h6', hp, hws] using q
  | fzl _ => simp [gd] at hv
  | ref _ => simp [gd] at hv
  | _ =>
    (repeat (first | refine w_var rfl ?_ | refine w_cst ?_ | refine w_glob ?_ | refine w_nil ?_ | refine w_cons ?_ | refine w_bin ?_ | refine w_ix ?_ | refine w_call ?_ | refine w_blt ?_ | refine w_isi ?_ | refine w_tup ?_ | refine w_lstT ?_ | refine w_lstF ?_ | refine e_and ?_ | refine e_or ?_ | refine w_not ?_ | refine w_neg ?_ | refine w_ite ?_ | refine w_cmp ?_ | refine w_chain ?_ | refine w_slice ?_ | refine w_oN ?_ | refine w_oS ?_ | refine t_val' ?_ | refine t_cmp' ?_ | refine t_chain' ?_ | refine t_not' ?_ | refine t_and' ?_ | refine t_or' ?_ | refine ts_nil ?_ | refine ts_cons ?_ | refine x_nil ?_ | refine x_cons ?_ | refine x_set ?_ | refine x_expr ?_ | refine x_ret ?_ | refine x_retN ?_ | refine x_ifs ?_ | refine x_setIx ?_ | refine x_unpack ?_ | refine l_add ?_ | refine l_sub ?_ | refine l_eqI ?_ | refine l_neI ?_ | refine l_eqB ?_ | refine l_neB ?_ | refine l_lt ?_ | refine l_le ?_ | refine l_gt ?_ | refine l_ge ?_ | refine ifT' rfl ?_ | refine ifF' rfl ?_ | refine ⟨_, rfl, ?_⟩ | refine ⟨rfl, ?_⟩ | refine ⟨Nat.le_of_ble_eq_true rfl, ?_⟩ | refine WC_some rfl ?_ | refine W_some rfl ?_))
    exact fin_same rfl hS rfl q
end Tt.L
end

section
/-! k16: moves. -/
namespace Tt.L
open PySem Tt Tt.P L2
def tabOk (tab : List (Key × D)) : Prop := ∀ k d, lookK tab k = some d → ∃ m : Int, d = .int m
def moveB (tab : List (Key × D)) (many : Int) : D → Bool
  | .tup [.str w, .tup args, st] => (match lookK tab (.inr w) with
      | some (.int m) => ((args.length : Int) == m) && (args ++ [st]).all fun s => wholeB s (many - 1)
      | _ => false)
  | _ => false
theorem l_notInD {n : Nat} {tab : List (Key × D)} {w : Str} {S : Sto} {QC : Bool → Prop} (h : S[n]? = some (.dic tab)) (q : QC (!(lookK tab (.inr w)).isSome)) : WC (cmpD .notIn (.str w) (.ref n) S) QC := by
  refine ⟨_, ?_, q⟩
  simp only [cmpD, isIn, h, kD, Option.map_some]
theorem l_ixD {n : Nat} {tab : List (Key × D)} {w : Str} {d : D} {S : Sto} {QC : D → Prop} (h : S[n]? = some (.dic tab)) (hd : lookK tab (.inr w) = some d) (q : QC d) : WC (ixD (.ref n) (.str w) S) QC := by
  refine ⟨_, ?_, q⟩
  simp only [ixD, h, kD, Option.bind_some, hd]
theorem gds_append {l r : List D} : gds (l ++ r) = (gds l && gds r) := by
  induction l with
  | nil => rfl
  | cons a l ih => simp [gds, ih, Bool.and_assoc]
theorem moveP {k n : Nat} {x : D} {tab : List (Key × D)} {many : Int} {S : Sto} {Q : D → Sto → Prop} (hx : gd x = true) (hS : S.all puO = true) (hn : S[n]? = some (.dic tab)) (ht : tabOk tab) (q : Q (.bl (moveB tab many x)) S) :
    W (calls pg (k + 2) 4 [x, .ref n, .int many] S) Q := by
  refine call_run (di := d4) rfl (w_run rfl ?_)
  cases x with
  | tup p =>
    simp only [gd, Bool.and_eq_true, decide_eq_true_eq] at hx
    by_cases hp : p.length = 3
    · obtain ⟨a, b, c, rfl⟩ : ∃ a b c, p = [a, b, c] := by
        match p, hp with
        | [a, b, c], _ => exact ⟨a, b, c, rfl⟩
      have hg := hx.2
      simp only [gds, Bool.and_eq_true] at hg
      obtain ⟨ga, gb, gc, _⟩ := hg
      cases a with
      | str w =>
        refine x_cons ?_
        (repeat (first | refine w_var rfl ?_ | refine w_cst ?_ | refine w_glob ?_ | refine w_nil ?_ | refine w_cons ?_ | refine w_bin ?_ | refine w_ix ?_ | refine w_call ?_ | refine w_blt ?_ | refine w_isi ?_ | refine w_tup ?_ | refine w_lstT ?_ | refine w_lstF ?_ | refine e_and ?_ | refine e_or ?_ | refine w_not ?_ | refine w_neg ?_ | refine w_ite ?_ | refine w_cmp ?_ | refine w_chain ?_ | refine w_slice ?_ | refine w_oN ?_ | refine w_oS ?_ | refine t_val' ?_ | refine t_cmp' ?_ | refine t_chain' ?_ | refine t_not' ?_ | refine t_and' ?_ | refine t_or' ?_ | refine ts_nil ?_ | refine ts_cons ?_ | refine x_nil ?_ | refine x_set ?_ | refine x_expr ?_ | refine x_ret ?_ | refine x_retN ?_ | refine x_ifs ?_ | refine x_setIx ?_ | refine x_unpack ?_ | refine l_add ?_ | refine l_sub ?_ | refine l_eqI ?_ | refine l_neI ?_ | refine l_eqB ?_ | refine l_neB ?_ | refine l_lt ?_ | refine l_le ?_ | refine l_gt ?_ | refine l_ge ?_ | refine ifT' rfl ?_ | refine ifF' rfl ?_ | refine ⟨_, rfl, ?_⟩ | refine ⟨rfl, ?_⟩ | refine ⟨Nat.le_of_ble_eq_true rfl, ?_⟩ | refine WC_some rfl ?_ | refine W_some rfl ?_))
        refine l_notInD hn ?_
        cases hk : lookK tab (.inr w) with
        | none =>
          (repeat (first | refine w_var rfl ?_ | refine w_cst ?_ | refine w_glob ?_ | refine w_nil ?_ | refine w_cons ?_ | refine w_bin ?_ | refine w_ix ?_ | refine w_call ?_ | refine w_blt ?_ | refine w_isi ?_ | refine w_tup ?_ | refine w_lstT ?_ | refine w_lstF ?_ | refine e_and ?_ | refine e_or ?_ | refine w_not ?_ | refine w_neg ?_ | refine w_ite ?_ | refine w_cmp ?_ | refine w_chain ?_ | refine w_slice ?_ | refine w_oN ?_ | refine w_oS ?_ | refine t_val' ?_ | refine t_cmp' ?_ | refine t_chain' ?_ | refine t_not' ?_ | refine t_and' ?_ | refine t_or' ?_ | refine ts_nil ?_ | refine ts_cons ?_ | refine x_nil ?_ | refine x_cons ?_ | refine x_set ?_ | refine x_expr ?_ | refine x_ret ?_ | refine x_retN ?_ | refine x_ifs ?_ | refine x_setIx ?_ | refine x_unpack ?_ | refine l_add ?_ | refine l_sub ?_ | refine l_eqI ?_ | refine l_neI ?_ | refine l_eqB ?_ | refine l_neB ?_ | refine l_lt ?_ | refine l_le ?_ | refine l_gt ?_ | refine l_ge ?_ | refine ifT' rfl ?_ | refine ifF' rfl ?_ | refine ⟨_, rfl, ?_⟩ | refine ⟨rfl, ?_⟩ | refine ⟨Nat.le_of_ble_eq_true rfl, ?_⟩ | refine WC_some rfl ?_ | refine W_some rfl ?_))
          refine fin_same rfl hS rfl ?_
          have : moveB tab many (.tup [.str w, b, c]) = false := by
            cases b <;> simp [moveB, hk]
          rw [this] at q
          exact q
        | some d =>
          obtain ⟨m, rfl⟩ := ht _ _ hk
          (repeat (first | refine w_var rfl ?_ | refine w_cst ?_ | refine w_glob ?_ | refine w_nil ?_ | refine w_cons ?_ | refine w_bin ?_ | refine w_ix ?_ | refine w_call ?_ | refine w_blt ?_ | refine w_isi ?_ | refine w_tup ?_ | refine w_lstT ?_ | refine w_lstF ?_ | refine e_and ?_ | refine e_or ?_ | refine w_not ?_ | refine w_neg ?_ | refine w_ite ?_ | refine w_cmp ?_ | refine w_chain ?_ | refine w_slice ?_ | refine w_oN ?_ | refine w_oS ?_ | refine t_val' ?_ | refine t_cmp' ?_ | refine t_chain' ?_ | refine t_not' ?_ | refine t_and' ?_ | refine t_or' ?_ | refine ts_nil ?_ | refine ts_cons ?_ | refine x_nil ?_ | refine x_set ?_ | refine x_expr ?_ | refine x_ret ?_ | refine x_retN ?_ | refine x_ifs ?_ | refine x_setIx ?_ | refine x_unpack ?_ | refine l_add ?_ | refine l_sub ?_ | refine l_eqI ?_ | refine l_neI ?_ | refine l_eqB ?_ | refine l_neB ?_ | refine l_lt ?_ | refine l_le ?_ | refine l_gt ?_ | refine l_ge ?_ | refine ifT' rfl ?_ | refine ifF' rfl ?_ | refine ⟨_, rfl, ?_⟩ | refine ⟨rfl, ?_⟩ | refine ⟨Nat.le_of_ble_eq_true rfl, ?_⟩ | refine WC_some rfl ?_ | refine W_some rfl ?_))
          refine x_cons ?_
          cases b with
          | tup args =>
            simp only [gd, Bool.and_eq_true, decide_eq_true_eq] at gb
            (repeat (first | refine w_var rfl ?_ | refine w_cst ?_ | refine w_glob ?_ | refine w_nil ?_ | refine w_cons ?_ | refine w_bin ?_ | refine w_ix ?_ | refine w_call ?_ | refine w_blt ?_ | refine w_isi ?_ | refine w_tup ?_ | refine w_lstT ?_ | refine w_lstF ?_ | refine e_and ?_ | refine e_or ?_ | refine w_not ?_ | refine w_neg ?_ | refine w_ite ?_ | refine w_cmp ?_ | refine w_chain ?_ | refine w_slice ?_ | refine w_oN ?_ | refine w_oS ?_ | refine t_val' ?_ | refine t_cmp' ?_ | refine t_chain' ?_ | refine t_not' ?_ | refine t_and' ?_ | refine t_or' ?_ | refine ts_nil ?_ | refine ts_cons ?_ | refine x_nil ?_ | refine x_set ?_ | refine x_expr ?_ | refine x_ret ?_ | refine x_retN ?_ | refine x_ifs ?_ | refine x_setIx ?_ | refine x_unpack ?_ | refine l_add ?_ | refine l_sub ?_ | refine l_eqI ?_ | refine l_neI ?_ | refine l_eqB ?_ | refine l_neB ?_ | refine l_lt ?_ | refine l_le ?_ | refine l_gt ?_ | refine l_ge ?_ | refine ifT' rfl ?_ | refine ifF' rfl ?_ | refine ⟨_, rfl, ?_⟩ | refine ⟨rfl, ?_⟩ | refine ⟨Nat.le_of_ble_eq_true rfl, ?_⟩ | refine WC_some rfl ?_ | refine W_some rfl ?_))
            refine l_ixD hn hk ?_
            (repeat (first | refine w_var rfl ?_ | refine w_cst ?_ | refine w_glob ?_ | refine w_nil ?_ | refine w_cons ?_ | refine w_bin ?_ | refine w_ix ?_ | refine w_call ?_ | refine w_blt ?_ | refine w_isi ?_ | refine w_tup ?_ | refine w_lstT ?_ | refine w_lstF ?_ | refine e_and ?_ | refine e_or ?_ | refine w_not ?_ | refine w_neg ?_ | refine w_ite ?_ | refine w_cmp ?_ | refine w_chain ?_ | refine w_slice ?_ | refine w_oN ?_ | refine w_oS ?_ | refine t_val' ?_ | refine t_cmp' ?_ | refine t_chain' ?_ | refine t_not' ?_ | refine t_and' ?_ | refine t_or' ?_ | refine ts_nil ?_ | refine ts_cons ?_ | refine x_nil ?_ | refine x_set ?_ | refine x_expr ?_ | refine x_ret ?_ | refine x_retN ?_ | refine x_ifs ?_ | refine x_setIx ?_ | refine x_unpack ?_ | refine l_add ?_ | refine l_sub ?_ | refine l_eqI ?_ | refine l_neI ?_ | refine l_eqB ?_ | refine l_neB ?_ | refine l_lt ?_ | refine l_le ?_ | refine l_gt ?_ | refine l_ge ?_ | refine ifT' rfl ?_ | refine ifF' rfl ?_ | refine ⟨_, rfl, ?_⟩ | refine ⟨rfl, ?_⟩ | refine ⟨Nat.le_of_ble_eq_true rfl, ?_⟩ | refine WC_some rfl ?_ | refine W_some rfl ?_))
            refine ifB (fun hl => ?_) (fun hl => ?_)
            · (repeat (first | refine w_var rfl ?_ | refine w_cst ?_ | refine w_glob ?_ | refine w_nil ?_ | refine w_cons ?_ | refine w_bin ?_ | refine w_ix ?_ | refine w_call ?_ | refine w_blt ?_ | refine w_isi ?_ | refine w_tup ?_ | refine w_lstT ?_ | refine w_lstF ?_ | refine e_and ?_ | refine e_or ?_ | refine w_not ?_ | refine w_neg ?_ | refine w_ite ?_ | refine w_cmp ?_ | refine w_chain ?_ | refine w_slice ?_ | refine w_oN ?_ | refine w_oS ?_ | refine t_val' ?_ | refine t_cmp' ?_ | refine t_chain' ?_ | refine t_not' ?_ | refine t_and' ?_ | refine t_or' ?_ | refine ts_nil ?_ | refine ts_cons ?_ | refine x_nil ?_ | refine x_cons ?_ | refine x_set ?_ | refine x_expr ?_ | refine x_ret ?_ | refine x_retN ?_ | refine x_ifs ?_ | refine x_setIx ?_ | refine x_unpack ?_ | refine l_add ?_ | refine l_sub ?_ | refine l_eqI ?_ | refine l_neI ?_ | refine l_eqB ?_ | refine l_neB ?_ | refine l_lt ?_ | refine l_le ?_ | refine l_gt ?_ | refine l_ge ?_ | refine ifT' rfl ?_ | refine ifF' rfl ?_ | refine ⟨_, rfl, ?_⟩ | refine ⟨rfl, ?_⟩ | refine ⟨Nat.le_of_ble_eq_true rfl, ?_⟩ | refine WC_some rfl ?_ | refine W_some rfl ?_))
              refine fin_same rfl hS rfl ?_
              have : ((args.length : Int) == m) = false := by simpa using hl
              simpa [moveB, hk, this] using q
            have hl' : ((args.length : Int) == m) = true := by simpa using hl
            refine x_nil ?_
            refine x_cons ?_
            refine x_ret ?_
            refine w_blt ?_
            refine w_cons ?_
            have hlen : (args ++ [c]).length ≤ sizeLine := by rw [List.length_append]; exact Nat.le_trans (Nat.add_le_add_right gb.1 _) (show 60 + 1 ≤ sizeLine by decide)
            refine w_mapR (args ++ [c]) ((args ++ [c]).map fun s => .bl (wholeB s (many - 1))) hlen (by simp) (r_seq ?_)
            (repeat (first | refine w_var rfl ?_ | refine w_cst ?_ | refine w_glob ?_ | refine w_nil ?_ | refine w_cons ?_ | refine w_bin ?_ | refine w_ix ?_ | refine w_call ?_ | refine w_blt ?_ | refine w_isi ?_ | refine w_tup ?_ | refine w_lstT ?_ | refine w_lstF ?_ | refine e_and ?_ | refine e_or ?_ | refine w_not ?_ | refine w_neg ?_ | refine w_ite ?_ | refine w_cmp ?_ | refine w_chain ?_ | refine w_slice ?_ | refine w_oN ?_ | refine w_oS ?_ | refine t_val' ?_ | refine t_cmp' ?_ | refine t_chain' ?_ | refine t_not' ?_ | refine t_and' ?_ | refine t_or' ?_ | refine ts_nil ?_ | refine ts_cons ?_ | refine x_nil ?_ | refine x_set ?_ | refine x_expr ?_ | refine x_ret ?_ | refine x_retN ?_ | refine x_ifs ?_ | refine x_setIx ?_ | refine x_unpack ?_ | refine l_add ?_ | refine l_sub ?_ | refine l_eqI ?_ | refine l_neI ?_ | refine l_eqB ?_ | refine l_neB ?_ | refine l_lt ?_ | refine l_le ?_ | refine l_gt ?_ | refine l_ge ?_ | refine ifT' rfl ?_ | refine ifF' rfl ?_ | refine ⟨_, rfl, ?_⟩ | refine ⟨rfl, ?_⟩ | refine ⟨Nat.le_of_ble_eq_true rfl, ?_⟩ | refine WC_some rfl ?_ | refine W_some rfl ?_))
            refine l_catT (by rw [← List.length_append]; exact hlen) ?_
            refine WC_some rfl ⟨rfl, rfl, fun i y z hy hz => ?_, ?_⟩
            · refine ⟨_, rfl, ?_⟩
              simp only [List.getElem?_map, hy, Option.map_some, Option.some.injEq] at hz
              subst hz
              have hyg : gd y = true := gds_get (l := args ++ [c]) (by rw [gds_append, gb.2]; simp [gds, gc]) hy
              (repeat (first | refine w_var rfl ?_ | refine w_cst ?_ | refine w_glob ?_ | refine w_nil ?_ | refine w_cons ?_ | refine w_bin ?_ | refine w_ix ?_ | refine w_call ?_ | refine w_blt ?_ | refine w_isi ?_ | refine w_tup ?_ | refine w_lstT ?_ | refine w_lstF ?_ | refine e_and ?_ | refine e_or ?_ | refine w_not ?_ | refine w_neg ?_ | refine w_ite ?_ | refine w_cmp ?_ | refine w_chain ?_ | refine w_slice ?_ | refine w_oN ?_ | refine w_oS ?_ | refine t_val' ?_ | refine t_cmp' ?_ | refine t_chain' ?_ | refine t_not' ?_ | refine t_and' ?_ | refine t_or' ?_ | refine ts_nil ?_ | refine ts_cons ?_ | refine x_nil ?_ | refine x_set ?_ | refine x_expr ?_ | refine x_ret ?_ | refine x_retN ?_ | refine x_ifs ?_ | refine x_setIx ?_ | refine x_unpack ?_ | refine l_add ?_ | refine l_sub ?_ | refine l_eqI ?_ | refine l_neI ?_ | refine l_eqB ?_ | refine l_neB ?_ | refine l_lt ?_ | refine l_le ?_ | refine l_gt ?_ | refine l_ge ?_ | refine ifT' rfl ?_ | refine ifF' rfl ?_ | refine ⟨_, rfl, ?_⟩ | refine ⟨rfl, ?_⟩ | refine ⟨Nat.le_of_ble_eq_true rfl, ?_⟩ | refine WC_some rfl ?_ | refine W_some rfl ?_))
              refine whole hyg hS ?_
              (repeat (first | refine w_var rfl ?_ | refine w_cst ?_ | refine w_glob ?_ | refine w_nil ?_ | refine w_cons ?_ | refine w_bin ?_ | refine w_ix ?_ | refine w_call ?_ | refine w_blt ?_ | refine w_isi ?_ | refine w_tup ?_ | refine w_lstT ?_ | refine w_lstF ?_ | refine e_and ?_ | refine e_or ?_ | refine w_not ?_ | refine w_neg ?_ | refine w_ite ?_ | refine w_cmp ?_ | refine w_chain ?_ | refine w_slice ?_ | refine w_oN ?_ | refine w_oS ?_ | refine t_val' ?_ | refine t_cmp' ?_ | refine t_chain' ?_ | refine t_not' ?_ | refine t_and' ?_ | refine t_or' ?_ | refine ts_nil ?_ | refine ts_cons ?_ | refine x_nil ?_ | refine x_set ?_ | refine x_expr ?_ | refine x_ret ?_ | refine x_retN ?_ | refine x_ifs ?_ | refine x_setIx ?_ | refine x_unpack ?_ | refine l_add ?_ | refine l_sub ?_ | refine l_eqI ?_ | refine l_neI ?_ | refine l_eqB ?_ | refine l_neB ?_ | refine l_lt ?_ | refine l_le ?_ | refine l_gt ?_ | refine l_ge ?_ | refine ifT' rfl ?_ | refine ifF' rfl ?_ | refine ⟨_, rfl, ?_⟩ | refine ⟨rfl, ?_⟩ | refine ⟨Nat.le_of_ble_eq_true rfl, ?_⟩ | refine WC_some rfl ?_ | refine W_some rfl ?_))
              exact rfl
            · (repeat (first | refine w_var rfl ?_ | refine w_cst ?_ | refine w_glob ?_ | refine w_nil ?_ | refine w_cons ?_ | refine w_bin ?_ | refine w_ix ?_ | refine w_call ?_ | refine w_blt ?_ | refine w_isi ?_ | refine w_tup ?_ | refine w_lstT ?_ | refine w_lstF ?_ | refine e_and ?_ | refine e_or ?_ | refine w_not ?_ | refine w_neg ?_ | refine w_ite ?_ | refine w_cmp ?_ | refine w_chain ?_ | refine w_slice ?_ | refine w_oN ?_ | refine w_oS ?_ | refine t_val' ?_ | refine t_cmp' ?_ | refine t_chain' ?_ | refine t_not' ?_ | refine t_and' ?_ | refine t_or' ?_ | refine ts_nil ?_ | refine ts_cons ?_ | refine x_nil ?_ | refine x_set ?_ | refine x_expr ?_ | refine x_ret ?_ | refine x_retN ?_ | refine x_ifs ?_ | refine x_setIx ?_ | refine x_unpack ?_ | refine l_add ?_ | refine l_sub ?_ | refine l_eqI ?_ | refine l_neI ?_ | refine l_eqB ?_ | refine l_neB ?_ | refine l_lt ?_ | refine l_le ?_ | refine l_gt ?_ | refine l_ge ?_ | refine ifT' rfl ?_ | refine ifF' rfl ?_ | refine ⟨_, rfl, ?_⟩ | refine ⟨rfl, ?_⟩ | refine ⟨Nat.le_of_ble_eq_true rfl, ?_⟩ | refine WC_some rfl ?_ | refine W_some rfl ?_))
              refine l_all ?_
              refine fin_same rfl hS rfl ?_
              simpa [moveB, hk, hl'] using q
          | fzl _ => simp [gd] at gb
          | ref _ => simp [gd] at gb
          | _ =>
            (repeat (first | refine w_var rfl ?_ | refine w_cst ?_ | refine w_glob ?_ | refine w_nil ?_ | refine w_cons ?_ | refine w_bin ?_ | refine w_ix ?_ | refine w_call ?_ | refine w_blt ?_ | refine w_isi ?_ | refine w_tup ?_ | refine w_lstT ?_ | refine w_lstF ?_ | refine e_and ?_ | refine e_or ?_ | refine w_not ?_ | refine w_neg ?_ | refine w_ite ?_ | refine w_cmp ?_ | refine w_chain ?_ | refine w_slice ?_ | refine w_oN ?_ | refine w_oS ?_ | refine t_val' ?_ | refine t_cmp' ?_ | refine t_chain' ?_ | refine t_not' ?_ | refine t_and' ?_ | refine t_or' ?_ | refine ts_nil ?_ | refine ts_cons ?_ | refine x_nil ?_ | refine x_cons ?_ | refine x_set ?_ | refine x_expr ?_ | refine x_ret ?_ | refine x_retN ?_ | refine x_ifs ?_ | refine x_setIx ?_ | refine x_unpack ?_ | refine l_add ?_ | refine l_sub ?_ | refine l_eqI ?_ | refine l_neI ?_ | refine l_eqB ?_ | refine l_neB ?_ | refine l_lt ?_ | refine l_le ?_ | refine l_gt ?_ | refine l_ge ?_ | refine ifT' rfl ?_ | refine ifF' rfl ?_ | refine ⟨_, rfl, ?_⟩ | refine ⟨rfl, ?_⟩ | refine ⟨Nat.le_of_ble_eq_true rfl, ?_⟩ | refine WC_some rfl ?_ | refine W_some rfl ?_))
            exact fin_same rfl hS rfl q
      | fzl _ => simp [gd] at ga
      | ref _ => simp [gd] at ga
      | _ =>
        (repeat (first | refine w_var rfl ?_ | refine w_cst ?_ | refine w_glob ?_ | refine w_nil ?_ | refine w_cons ?_ | refine w_bin ?_ | refine w_ix ?_ | refine w_call ?_ | refine w_blt ?_ | refine w_isi ?_ | refine w_tup ?_ | refine w_lstT ?_ | refine w_lstF ?_ | refine e_and ?_ | refine e_or ?_ | refine w_not ?_ | refine w_neg ?_ | refine w_ite ?_ | refine w_cmp ?_ | refine w_chain ?_ | refine w_slice ?_ | refine w_oN ?_ | refine w_oS ?_ | refine t_val' ?_ | refine t_cmp' ?_ | refine t_chain' ?_ | refine t_not' ?_ | refine t_and' ?_ | refine t_or' ?_ | refine ts_nil ?_ | refine ts_cons ?_ | refine x_nil ?_ | refine x_cons ?_ | refine x_set ?_ | refine x_expr ?_ | refine x_ret ?_ | refine x_retN ?_ | refine x_ifs ?_ | refine x_setIx ?_ | refine x_unpack ?_ | refine l_add ?_ | refine l_sub ?_ | refine l_eqI ?_ | refine l_neI ?_ | refine l_eqB ?_ | refine l_neB ?_ | refine l_lt ?_ | refine l_le ?_ | refine l_gt ?_ | refine l_ge ?_ | refine ifT' rfl ?_ | refine ifF' rfl ?_ | refine ⟨_, rfl, ?_⟩ | refine ⟨rfl, ?_⟩ | refine ⟨Nat.le_of_ble_eq_true rfl, ?_⟩ | refine WC_some rfl ?_ | refine W_some rfl ?_))
        exact fin_same rfl hS rfl q
    · refine x_cons ?_
      (repeat (first | refine w_var rfl ?_ | refine w_cst ?_ | refine w_glob ?_ | refine w_nil ?_ | refine w_cons ?_ | refine w_bin ?_ | refine w_ix ?_ | refine w_call ?_ | refine w_blt ?_ | refine w_isi ?_ | refine w_tup ?_ | refine w_lstT ?_ | refine w_lstF ?_ | refine e_and ?_ | refine e_or ?_ | refine w_not ?_ | refine w_neg ?_ | refine w_ite ?_ | refine w_cmp ?_ | refine w_chain ?_ | refine w_slice ?_ | refine w_oN ?_ | refine w_oS ?_ | refine t_val' ?_ | refine t_cmp' ?_ | refine t_chain' ?_ | refine t_not' ?_ | refine t_and' ?_ | refine t_or' ?_ | refine ts_nil ?_ | refine ts_cons ?_ | refine x_nil ?_ | refine x_set ?_ | refine x_expr ?_ | refine x_ret ?_ | refine x_retN ?_ | refine x_ifs ?_ | refine x_setIx ?_ | refine x_unpack ?_ | refine l_add ?_ | refine l_sub ?_ | refine l_eqI ?_ | refine l_neI ?_ | refine l_eqB ?_ | refine l_neB ?_ | refine l_lt ?_ | refine l_le ?_ | refine l_gt ?_ | refine l_ge ?_ | refine ifT' rfl ?_ | refine ifF' rfl ?_ | refine ⟨_, rfl, ?_⟩ | refine ⟨rfl, ?_⟩ | refine ⟨Nat.le_of_ble_eq_true rfl, ?_⟩ | refine WC_some rfl ?_ | refine W_some rfl ?_))
      refine ifT' (by simp; omega) ?_
      (repeat (first | refine w_var rfl ?_ | refine w_cst ?_ | refine w_glob ?_ | refine w_nil ?_ | refine w_cons ?_ | refine w_bin ?_ | refine w_ix ?_ | refine w_call ?_ | refine w_blt ?_ | refine w_isi ?_ | refine w_tup ?_ | refine w_lstT ?_ | refine w_lstF ?_ | refine e_and ?_ | refine e_or ?_ | refine w_not ?_ | refine w_neg ?_ | refine w_ite ?_ | refine w_cmp ?_ | refine w_chain ?_ | refine w_slice ?_ | refine w_oN ?_ | refine w_oS ?_ | refine t_val' ?_ | refine t_cmp' ?_ | refine t_chain' ?_ | refine t_not' ?_ | refine t_and' ?_ | refine t_or' ?_ | refine ts_nil ?_ | refine ts_cons ?_ | refine x_nil ?_ | refine x_cons ?_ | refine x_set ?_ | refine x_expr ?_ | refine x_ret ?_ | refine x_retN ?_ | refine x_ifs ?_ | refine x_setIx ?_ | refine x_unpack ?_ | refine l_add ?_ | refine l_sub ?_ | refine l_eqI ?_ | refine l_neI ?_ | refine l_eqB ?_ | refine l_neB ?_ | refine l_lt ?_ | refine l_le ?_ | refine l_gt ?_ | refine l_ge ?_ | refine ifT' rfl ?_ | refine ifF' rfl ?_ | refine ⟨_, rfl, ?_⟩ | refine ⟨rfl, ?_⟩ | refine ⟨Nat.le_of_ble_eq_true rfl, ?_⟩ | refine WC_some rfl ?_ | refine W_some rfl ?_))
      refine fin_same rfl hS rfl ?_
      have : moveB tab many (.tup p) = false := by
        unfold moveB
        split
        · rename_i e; cases e; exact absurd rfl hp
        · rfl
      rw [this] at q
      exact q
  | fzl _ => simp [gd] at hx
  | ref _ => simp [gd] at hx
  | _ =>
    (repeat (first | refine w_var rfl ?_ | refine w_cst ?_ | refine w_glob ?_ | refine w_nil ?_ | refine w_cons ?_ | refine w_bin ?_ | refine w_ix ?_ | refine w_call ?_ | refine w_blt ?_ | refine w_isi ?_ | refine w_tup ?_ | refine w_lstT ?_ | refine w_lstF ?_ | refine e_and ?_ | refine e_or ?_ | refine w_not ?_ | refine w_neg ?_ | refine w_ite ?_ | refine w_cmp ?_ | refine w_chain ?_ | refine w_slice ?_ | refine w_oN ?_ | refine w_oS ?_ | refine t_val' ?_ | refine t_cmp' ?_ | refine t_chain' ?_ | refine t_not' ?_ | refine t_and' ?_ | refine t_or' ?_ | refine ts_nil ?_ | refine ts_cons ?_ | refine x_nil ?_ | refine x_cons ?_ | refine x_set ?_ | refine x_expr ?_ | refine x_ret ?_ | refine x_retN ?_ | refine x_ifs ?_ | refine x_setIx ?_ | refine x_unpack ?_ | refine l_add ?_ | refine l_sub ?_ | refine l_eqI ?_ | refine l_neI ?_ | refine l_eqB ?_ | refine l_neB ?_ | refine l_lt ?_ | refine l_le ?_ | refine l_gt ?_ | refine l_ge ?_ | refine ifT' rfl ?_ | refine ifF' rfl ?_ | refine ⟨_, rfl, ?_⟩ | refine ⟨rfl, ?_⟩ | refine ⟨Nat.le_of_ble_eq_true rfl, ?_⟩ | refine WC_some rfl ?_ | refine W_some rfl ?_))
    exact fin_same rfl hS rfl q
end Tt.L
end

section
/-! k16: automata. -/
namespace Tt.L
open PySem Tt Tt.P L2
def arOf : D → D
  | .tup [_, n] => n
  | _ => .non
def kvsOf (sg : List D) : List (Key × D) := sg.map fun x => (.inr (nmOf x), arOf x)
def tab (sg : List D) : List (Key × D) := mergeK [] (kvsOf sg)
def intOf : D → Int
  | .int i => i
  | _ => 0
def autB (sg : List D) : D → Bool
  | .tup [.int many, .tup moves, .tup ends] => wholeB (.int many) 400 && ((ends.all fun s => wholeB s (many - 1)) && (incB (ends.map intOf) && moves.all (moveB (tab sg) many)))
  | _ => false
theorem kpairs_sig : ∀ {sg : List D}, sg.all pairB = true → kpairs sg = some (kvsOf sg)
  | [], _ => rfl
  | x :: sg, h => by
    rw [List.all_cons, Bool.and_eq_true] at h
    obtain ⟨w, n, rfl, _, _⟩ := pair_cases h.1
    simp only [kpairs, kD, Option.bind_some, kpairs_sig h.2, Option.map_some]
    rfl
theorem merge_nodup {kvs : List (Key × D)} (h : (kvs.map (·.1)).Nodup) : mergeK [] kvs = kvs := by
  refine snoc_ind (P := fun kvs => (kvs.map (·.1)).Nodup → mergeK [] kvs = kvs) (fun _ => rfl) ?_ kvs h
  intro l a ih hn
  rw [List.map_append, List.map_cons, List.map_nil, nodup_snoc] at hn
  have : mergeK [] (l ++ [a]) = putK (mergeK [] l) a.1 a.2 := by simp [mergeK]
  rw [this, ih hn.1, putK_new hn.2]
/-- a signature as it should be -/
structure SigOk (sg : List D) : Prop where
  all : sg.all pairB = true
  nd : (sg.map nmOf).Nodup
  len : sg.length ≤ 6
  pos : 0 < sg.length
  gd : gds sg = true
theorem SigOk.tab {sg : List D} (h : SigOk sg) : tab sg = kvsOf sg := by
  refine merge_nodup ?_
  have : (kvsOf sg).map (·.1) = (sg.map nmOf).map Sum.inr := by simp [kvsOf]
  rw [this, nodup_inr]
  exact h.nd
theorem SigOk.ints {sg : List D} (h : SigOk sg) : ∀ p ∈ kvsOf sg, ∃ m : Int, p.2 = .int m := fun p hp => by
  obtain ⟨x, hx, rfl⟩ := List.mem_map.mp hp
  obtain ⟨w, n, rfl, _, h2⟩ := pair_cases (List.all_eq_true.mp h.all x hx)
  cases n <;> first
    | exact ⟨_, rfl⟩
    | simp [wholeB] at h2
theorem SigOk.ok {sg : List D} (h : SigOk sg) : tabOk (L.tab sg) := fun k d hk => by
  rw [h.tab] at hk
  unfold lookK at hk
  rw [Option.map_eq_some_iff] at hk
  obtain ⟨p, hp, rfl⟩ := hk
  exact h.ints p (List.mem_of_find?_eq_some hp)
theorem SigOk.pu {sg : List D} (h : SigOk sg) : puO (.dic (L.tab sg)) = true := by
  rw [h.tab]
  show puL ((kvsOf sg).map (·.2)) = true
  rw [puL_mem]
  intro d hd
  obtain ⟨p, hp, rfl⟩ := List.mem_map.mp hd
  obtain ⟨m, e⟩ := h.ints p hp
  rw [e]; rfl
theorem keyed_vals {v : D} {ks : List Key} (hv : puD v = true) : puO (.dic (keyed v ks)) = true := by
  show puL ((keyed v ks).map (·.2)) = true
  refine snoc_ind (P := fun ks => puL ((keyed v ks).map (·.2)) = true) rfl ?_ ks
  intro l a ih
  rw [keyed_snoc]
  unfold putK
  split
  · rw [puL_mem] at ih ⊢
    intro d hd
    rw [List.map_map] at hd
    obtain ⟨p, hp, rfl⟩ := List.mem_map.mp hd
    show puD (if p.1 = a then (p.1, v) else p).2 = true
    split
    · exact hv
    · exact ih _ (List.mem_map_of_mem hp)
  · rw [List.map_append, puL_append, ih]
    simp [puL, hv]
theorem l_dictT {fz : Bool} {sg : List D} {S : Sto} {Q : D → Sto → Prop} (h : SigOk sg) (q : Q (.ref S.length) (S ++ [.dic (tab sg)])) : W (bltD fz .dict [.tup sg] S) Q := by
  refine ⟨_, _, ?_, q⟩
  simp only [bltD, items, Option.bind_some, kpairs_sig h.all, Option.map_some]
  rfl
theorem l_listT {l : List D} {S : Sto} {Q : D → Sto → Prop} (h : l.length ≤ sizeLine) (q : Q (.lst l) S) : W (bltD true .list [.tup l] S) Q := by
  refine ⟨_, _, ?_, q⟩
  simp only [bltD, items, Option.bind_some]
  unfold mkL
  rw [if_pos h, if_pos rfl]
theorem l_sortedD {n : Nat} {kvs : List (Key × D)} {ks : List Int} {S : Sto} {Q : D → Sto → Prop} (h : S[n]? = some (.dic kvs)) (hk : keysI kvs = some ks) (hl : ks.length < 64) (q : Q (.lst ((sortI ks).map .int)) S) : W (bltD true .sorted [.ref n] S) Q := by
  refine ⟨_, _, ?_, q⟩
  simp only [bltD, h, hk, Option.bind_some]
  rw [if_pos hl]
  unfold mkL
  rw [if_pos (by rw [List.length_map, sortI_len]; exact Nat.le_trans (Nat.le_of_lt hl) (by decide)), if_pos rfl]
theorem l_neL {a b : List Int} {S : Sto} {QC : Bool → Prop} (q : QC (!(a == b))) : WC (cmpD .ne (.lst (a.map .int)) (.lst (b.map .int)) S) QC := by
  refine ⟨_, ?_, q⟩
  simp only [cmpD, eqD_ints, Option.map_some]
theorem ints_of {l : List D} {m : Int} (h : (l.all fun s => wholeB s m) = true) : l = (l.map intOf).map .int := by
  rw [List.map_map]
  refine (List.map_id l).symm.trans (List.map_congr_left fun x hx => ?_)
  have := List.all_eq_true.mp h x hx
  cases x <;> first
    | rfl
    | simp [wholeB] at this
theorem whole_int {v : D} {m : Int} (h : wholeB v m = true) : ∃ i : Int, v = .int i := by
  cases v <;> first
    | exact ⟨_, rfl⟩
    | simp [wholeB] at h
theorem autP {k : Nat} {sg : List D} {v : D} {S : Sto} {Q : D → Sto → Prop} (hs : SigOk sg) (hv : gd v = true) (hS : S.all puO = true) (q : Q (.bl (autB sg v)) S) : W (calls pg (k + 3) 5 [.tup sg, v] S) Q := by
  refine call_run (di := d5) rfl (w_run rfl ?_)
  cases v with
  | tup p =>
    simp only [gd, Bool.and_eq_true, decide_eq_true_eq] at hv
    by_cases hp : p.length = 3
    · obtain ⟨a, b, c, rfl⟩ : ∃ a b c, p = [a, b, c] := by
        match p, hp with
        | [a, b, c], _ => exact ⟨a, b, c, rfl⟩
      have hg := hv.2
      simp only [gds, Bool.and_eq_true] at hg
      obtain ⟨ga, gb, gc, _⟩ := hg
      refine x_cons ?_
      (repeat (first | refine w_var rfl ?_ | refine w_cst ?_ | refine w_glob ?_ | refine w_nil ?_ | refine w_cons ?_ | refine w_bin ?_ | refine w_ix ?_ | refine w_call ?_ | refine w_blt ?_ | refine w_isi ?_ | refine w_tup ?_ | refine w_lstT ?_ | refine w_lstF ?_ | refine e_and ?_ | refine e_or ?_ | refine w_not ?_ | refine w_neg ?_ | refine w_ite ?_ | refine w_cmp ?_ | refine w_chain ?_ | refine w_slice ?_ | refine w_oN ?_ | refine w_oS ?_ | refine t_val' ?_ | refine t_cmp' ?_ | refine t_chain' ?_ | refine t_not' ?_ | refine t_and' ?_ | refine t_or' ?_ | refine ts_nil ?_ | refine ts_cons ?_ | refine x_nil ?_ | refine x_set ?_ | refine x_expr ?_ | refine x_ret ?_ | refine x_retN ?_ | refine x_ifs ?_ | refine x_setIx ?_ | refine x_unpack ?_ | refine l_add ?_ | refine l_sub ?_ | refine l_eqI ?_ | refine l_neI ?_ | refine l_eqB ?_ | refine l_neB ?_ | refine l_lt ?_ | refine l_le ?_ | refine l_gt ?_ | refine l_ge ?_ | refine ifT' rfl ?_ | refine ifF' rfl ?_ | refine ⟨_, rfl, ?_⟩ | refine ⟨rfl, ?_⟩ | refine ⟨Nat.le_of_ble_eq_true rfl, ?_⟩ | refine WC_some rfl ?_ | refine W_some rfl ?_))
      refine whole ga hS ?_
      (repeat (first | refine w_var rfl ?_ | refine w_cst ?_ | refine w_glob ?_ | refine w_nil ?_ | refine w_cons ?_ | refine w_bin ?_ | refine w_ix ?_ | refine w_call ?_ | refine w_blt ?_ | refine w_isi ?_ | refine w_tup ?_ | refine w_lstT ?_ | refine w_lstF ?_ | refine e_and ?_ | refine e_or ?_ | refine w_not ?_ | refine w_neg ?_ | refine w_ite ?_ | refine w_cmp ?_ | refine w_chain ?_ | refine w_slice ?_ | refine w_oN ?_ | refine w_oS ?_ | refine t_val' ?_ | refine t_cmp' ?_ | refine t_chain' ?_ | refine t_not' ?_ | refine t_and' ?_ | refine t_or' ?_ | refine ts_nil ?_ | refine ts_cons ?_ | refine x_nil ?_ | refine x_set ?_ | refine x_expr ?_ | refine x_ret ?_ | refine x_retN ?_ | refine x_ifs ?_ | refine x_setIx ?_ | refine x_unpack ?_ | refine l_add ?_ | refine l_sub ?_ | refine l_eqI ?_ | refine l_neI ?_ | refine l_eqB ?_ | refine l_neB ?_ | refine l_lt ?_ | refine l_le ?_ | refine l_gt ?_ | refine l_ge ?_ | refine ifT' rfl ?_ | refine ifF' rfl ?_ | refine ⟨_, rfl, ?_⟩ | refine ⟨rfl, ?_⟩ | refine ⟨Nat.le_of_ble_eq_true rfl, ?_⟩ | refine WC_some rfl ?_ | refine W_some rfl ?_))
      refine ifB (fun hm => ?_) (fun hm => ?_)
      · (repeat (first | refine w_var rfl ?_ | refine w_cst ?_ | refine w_glob ?_ | refine w_nil ?_ | refine w_cons ?_ | refine w_bin ?_ | refine w_ix ?_ | refine w_call ?_ | refine w_blt ?_ | refine w_isi ?_ | refine w_tup ?_ | refine w_lstT ?_ | refine w_lstF ?_ | refine e_and ?_ | refine e_or ?_ | refine w_not ?_ | refine w_neg ?_ | refine w_ite ?_ | refine w_cmp ?_ | refine w_chain ?_ | refine w_slice ?_ | refine w_oN ?_ | refine w_oS ?_ | refine t_val' ?_ | refine t_cmp' ?_ | refine t_chain' ?_ | refine t_not' ?_ | refine t_and' ?_ | refine t_or' ?_ | refine ts_nil ?_ | refine ts_cons ?_ | refine x_nil ?_ | refine x_cons ?_ | refine x_set ?_ | refine x_expr ?_ | refine x_ret ?_ | refine x_retN ?_ | refine x_ifs ?_ | refine x_setIx ?_ | refine x_unpack ?_ | refine l_add ?_ | refine l_sub ?_ | refine l_eqI ?_ | refine l_neI ?_ | refine l_eqB ?_ | refine l_neB ?_ | refine l_lt ?_ | refine l_le ?_ | refine l_gt ?_ | refine l_ge ?_ | refine ifT' rfl ?_ | refine ifF' rfl ?_ | refine ⟨_, rfl, ?_⟩ | refine ⟨rfl, ?_⟩ | refine ⟨Nat.le_of_ble_eq_true rfl, ?_⟩ | refine WC_some rfl ?_ | refine W_some rfl ?_))
        refine fin_same rfl hS rfl ?_
        have hm' : wholeB a 400 = false := by simpa using hm
        have : autB sg (.tup [a, b, c]) = false := by
          unfold autB
          split
          · rename_i e; cases e; rw [hm']; rfl
          · rfl
        rw [this] at q
        exact q
      have hm' : wholeB a 400 = true := by simpa using hm
      obtain ⟨many, rfl⟩ := whole_int hm'
      refine x_nil ?_
      refine x_cons ?_
      refine x_unpack ?_
      refine w_var rfl ?_
      refine ⟨_, _, rfl, rfl, ?_⟩
      refine x_cons ?_
      cases b with
      | tup moves =>
        cases c with
        | tup ends =>
          simp only [gd, Bool.and_eq_true, decide_eq_true_eq] at gb gc
          (repeat (first | refine w_var rfl ?_ | refine w_cst ?_ | refine w_glob ?_ | refine w_nil ?_ | refine w_cons ?_ | refine w_bin ?_ | refine w_ix ?_ | refine w_call ?_ | refine w_blt ?_ | refine w_isi ?_ | refine w_tup ?_ | refine w_lstT ?_ | refine w_lstF ?_ | refine e_and ?_ | refine e_or ?_ | refine w_not ?_ | refine w_neg ?_ | refine w_ite ?_ | refine w_cmp ?_ | refine w_chain ?_ | refine w_slice ?_ | refine w_oN ?_ | refine w_oS ?_ | refine t_val' ?_ | refine t_cmp' ?_ | refine t_chain' ?_ | refine t_not' ?_ | refine t_and' ?_ | refine t_or' ?_ | refine ts_nil ?_ | refine ts_cons ?_ | refine x_nil ?_ | refine x_set ?_ | refine x_expr ?_ | refine x_ret ?_ | refine x_retN ?_ | refine x_ifs ?_ | refine x_setIx ?_ | refine x_unpack ?_ | refine l_add ?_ | refine l_sub ?_ | refine l_eqI ?_ | refine l_neI ?_ | refine l_eqB ?_ | refine l_neB ?_ | refine l_lt ?_ | refine l_le ?_ | refine l_gt ?_ | refine l_ge ?_ | refine ifT' rfl ?_ | refine ifF' rfl ?_ | refine ⟨_, rfl, ?_⟩ | refine ⟨rfl, ?_⟩ | refine ⟨Nat.le_of_ble_eq_true rfl, ?_⟩ | refine WC_some rfl ?_ | refine W_some rfl ?_))
          refine x_cons ?_
          refine x_set ?_
          (repeat (first | refine w_var rfl ?_ | refine w_cst ?_ | refine w_glob ?_ | refine w_nil ?_ | refine w_cons ?_ | refine w_bin ?_ | refine w_ix ?_ | refine w_call ?_ | refine w_blt ?_ | refine w_isi ?_ | refine w_tup ?_ | refine w_lstT ?_ | refine w_lstF ?_ | refine e_and ?_ | refine e_or ?_ | refine w_not ?_ | refine w_neg ?_ | refine w_ite ?_ | refine w_cmp ?_ | refine w_chain ?_ | refine w_slice ?_ | refine w_oN ?_ | refine w_oS ?_ | refine t_val' ?_ | refine t_cmp' ?_ | refine t_chain' ?_ | refine t_not' ?_ | refine t_and' ?_ | refine t_or' ?_ | refine ts_nil ?_ | refine ts_cons ?_ | refine x_nil ?_ | refine x_set ?_ | refine x_expr ?_ | refine x_ret ?_ | refine x_retN ?_ | refine x_ifs ?_ | refine x_setIx ?_ | refine x_unpack ?_ | refine l_add ?_ | refine l_sub ?_ | refine l_eqI ?_ | refine l_neI ?_ | refine l_eqB ?_ | refine l_neB ?_ | refine l_lt ?_ | refine l_le ?_ | refine l_gt ?_ | refine l_ge ?_ | refine ifT' rfl ?_ | refine ifF' rfl ?_ | refine ⟨_, rfl, ?_⟩ | refine ⟨rfl, ?_⟩ | refine ⟨Nat.le_of_ble_eq_true rfl, ?_⟩ | refine WC_some rfl ?_ | refine W_some rfl ?_))
          refine l_dictT hs ?_
          have hS1 : (S ++ [O.dic (tab sg)]).all puO = true := by rw [List.all_append, hS]; simp [hs.pu]
          refine x_cons ?_
          refine x_ifs ?_
          refine t_or' ?_
          refine t_not' ?_
          refine t_val' ?_
          refine w_blt ?_
          refine w_cons ?_
          refine w_mapR ends (ends.map fun s => .bl (wholeB s (many - 1))) (Nat.le_trans gc.1 (by decide)) (by simp) (r_seq (w_var rfl (WC_some rfl ⟨rfl, rfl, fun i y z hy hz => ?_, ?_⟩)))
          · refine ⟨_, rfl, ?_⟩
            simp only [List.getElem?_map, hy, Option.map_some, Option.some.injEq] at hz
            subst hz
            (repeat (first | refine w_var rfl ?_ | refine w_cst ?_ | refine w_glob ?_ | refine w_nil ?_ | refine w_cons ?_ | refine w_bin ?_ | refine w_ix ?_ | refine w_call ?_ | refine w_blt ?_ | refine w_isi ?_ | refine w_tup ?_ | refine w_lstT ?_ | refine w_lstF ?_ | refine e_and ?_ | refine e_or ?_ | refine w_not ?_ | refine w_neg ?_ | refine w_ite ?_ | refine w_cmp ?_ | refine w_chain ?_ | refine w_slice ?_ | refine w_oN ?_ | refine w_oS ?_ | refine t_val' ?_ | refine t_cmp' ?_ | refine t_chain' ?_ | refine t_not' ?_ | refine t_and' ?_ | refine t_or' ?_ | refine ts_nil ?_ | refine ts_cons ?_ | refine x_nil ?_ | refine x_set ?_ | refine x_expr ?_ | refine x_ret ?_ | refine x_retN ?_ | refine x_ifs ?_ | refine x_setIx ?_ | refine x_unpack ?_ | refine l_add ?_ | refine l_sub ?_ | refine l_eqI ?_ | refine l_neI ?_ | refine l_eqB ?_ | refine l_neB ?_ | refine l_lt ?_ | refine l_le ?_ | refine l_gt ?_ | refine l_ge ?_ | refine ifT' rfl ?_ | refine ifF' rfl ?_ | refine ⟨_, rfl, ?_⟩ | refine ⟨rfl, ?_⟩ | refine ⟨Nat.le_of_ble_eq_true rfl, ?_⟩ | refine WC_some rfl ?_ | refine W_some rfl ?_))
            refine whole (gds_get gc.2 hy) hS1 ?_
            (repeat (first | refine w_var rfl ?_ | refine w_cst ?_ | refine w_glob ?_ | refine w_nil ?_ | refine w_cons ?_ | refine w_bin ?_ | refine w_ix ?_ | refine w_call ?_ | refine w_blt ?_ | refine w_isi ?_ | refine w_tup ?_ | refine w_lstT ?_ | refine w_lstF ?_ | refine e_and ?_ | refine e_or ?_ | refine w_not ?_ | refine w_neg ?_ | refine w_ite ?_ | refine w_cmp ?_ | refine w_chain ?_ | refine w_slice ?_ | refine w_oN ?_ | refine w_oS ?_ | refine t_val' ?_ | refine t_cmp' ?_ | refine t_chain' ?_ | refine t_not' ?_ | refine t_and' ?_ | refine t_or' ?_ | refine ts_nil ?_ | refine ts_cons ?_ | refine x_nil ?_ | refine x_set ?_ | refine x_expr ?_ | refine x_ret ?_ | refine x_retN ?_ | refine x_ifs ?_ | refine x_setIx ?_ | refine x_unpack ?_ | refine l_add ?_ | refine l_sub ?_ | refine l_eqI ?_ | refine l_neI ?_ | refine l_eqB ?_ | refine l_neB ?_ | refine l_lt ?_ | refine l_le ?_ | refine l_gt ?_ | refine l_ge ?_ | refine ifT' rfl ?_ | refine ifF' rfl ?_ | refine ⟨_, rfl, ?_⟩ | refine ⟨rfl, ?_⟩ | refine ⟨Nat.le_of_ble_eq_true rfl, ?_⟩ | refine WC_some rfl ?_ | refine W_some rfl ?_))
            exact rfl
          refine w_nil ?_
          refine l_all ?_
          refine WC_some rfl ?_
          refine ifB (fun ha => ?_) (fun ha => ?_)
          · (repeat (first | refine w_var rfl ?_ | refine w_cst ?_ | refine w_glob ?_ | refine w_nil ?_ | refine w_cons ?_ | refine w_bin ?_ | refine w_ix ?_ | refine w_call ?_ | refine w_blt ?_ | refine w_isi ?_ | refine w_tup ?_ | refine w_lstT ?_ | refine w_lstF ?_ | refine e_and ?_ | refine e_or ?_ | refine w_not ?_ | refine w_neg ?_ | refine w_ite ?_ | refine w_cmp ?_ | refine w_chain ?_ | refine w_slice ?_ | refine w_oN ?_ | refine w_oS ?_ | refine t_val' ?_ | refine t_cmp' ?_ | refine t_chain' ?_ | refine t_not' ?_ | refine t_and' ?_ | refine t_or' ?_ | refine ts_nil ?_ | refine ts_cons ?_ | refine x_nil ?_ | refine x_cons ?_ | refine x_set ?_ | refine x_expr ?_ | refine x_ret ?_ | refine x_retN ?_ | refine x_ifs ?_ | refine x_setIx ?_ | refine x_unpack ?_ | refine l_add ?_ | refine l_sub ?_ | refine l_eqI ?_ | refine l_neI ?_ | refine l_eqB ?_ | refine l_neB ?_ | refine l_lt ?_ | refine l_le ?_ | refine l_gt ?_ | refine l_ge ?_ | refine ifT' rfl ?_ | refine ifF' rfl ?_ | refine ⟨_, rfl, ?_⟩ | refine ⟨rfl, ?_⟩ | refine ⟨Nat.le_of_ble_eq_true rfl, ?_⟩ | refine WC_some rfl ?_ | refine W_some rfl ?_))
            refine fin_drop rfl hS rfl ?_
            have : (ends.all fun s => wholeB s (many - 1)) = false := by simpa using ha
            simpa [autB, this] using q
          have ha' : (ends.all fun s => wholeB s (many - 1)) = true := by simpa using ha
          have he := ints_of ha'
          generalize hes : ends.map intOf = es at he q
          have hel : es.length ≤ 60 := by rw [← hes, List.length_map]; exact gc.1
          obtain ⟨ks, k1, k2, k3, k4⟩ := keyed_ints (.bl true) es
          refine t_cmp' ?_
          refine w_blt ?_
          (repeat (first | refine w_var rfl ?_ | refine w_cst ?_ | refine w_glob ?_ | refine w_nil ?_ | refine w_cons ?_ | refine w_bin ?_ | refine w_ix ?_ | refine w_call ?_ | refine w_blt ?_ | refine w_isi ?_ | refine w_tup ?_ | refine w_lstT ?_ | refine w_lstF ?_ | refine e_and ?_ | refine e_or ?_ | refine w_not ?_ | refine w_neg ?_ | refine w_ite ?_ | refine w_cmp ?_ | refine w_chain ?_ | refine w_slice ?_ | refine w_oN ?_ | refine w_oS ?_ | refine t_val' ?_ | refine t_cmp' ?_ | refine t_chain' ?_ | refine t_not' ?_ | refine t_and' ?_ | refine t_or' ?_ | refine ts_nil ?_ | refine ts_cons ?_ | refine x_nil ?_ | refine x_set ?_ | refine x_expr ?_ | refine x_ret ?_ | refine x_retN ?_ | refine x_ifs ?_ | refine x_setIx ?_ | refine x_unpack ?_ | refine l_add ?_ | refine l_sub ?_ | refine l_eqI ?_ | refine l_neI ?_ | refine l_eqB ?_ | refine l_neB ?_ | refine l_lt ?_ | refine l_le ?_ | refine l_gt ?_ | refine l_ge ?_ | refine ifT' rfl ?_ | refine ifF' rfl ?_ | refine ⟨_, rfl, ?_⟩ | refine ⟨rfl, ?_⟩ | refine ⟨Nat.le_of_ble_eq_true rfl, ?_⟩ | refine WC_some rfl ?_ | refine W_some rfl ?_))
          refine l_listT (Nat.le_trans gc.1 (by decide)) ?_
          refine w_blt ?_
          refine w_cons ?_
          refine w_keyed ends (es.map Sum.inl) (.bl true) (Nat.lt_of_le_of_lt gc.1 (by decide)) (by rw [List.length_map, ← hes, List.length_map]) (r_seq (w_var rfl (WC_some rfl ⟨rfl, rfl, fun i y key hy hk => ?_, ?_⟩)))
          · refine ⟨_, rfl, ?_⟩
            rw [he] at hy
            simp only [List.getElem?_map, Option.map_eq_some_iff] at hy hk
            obtain ⟨j, hj, rfl⟩ := hy
            obtain ⟨j', hj', rfl⟩ := hk
            rw [hj] at hj'; cases hj'
            (repeat (first | refine w_var rfl ?_ | refine w_cst ?_ | refine w_glob ?_ | refine w_nil ?_ | refine w_cons ?_ | refine w_bin ?_ | refine w_ix ?_ | refine w_call ?_ | refine w_blt ?_ | refine w_isi ?_ | refine w_tup ?_ | refine w_lstT ?_ | refine w_lstF ?_ | refine e_and ?_ | refine e_or ?_ | refine w_not ?_ | refine w_neg ?_ | refine w_ite ?_ | refine w_cmp ?_ | refine w_chain ?_ | refine w_slice ?_ | refine w_oN ?_ | refine w_oS ?_ | refine t_val' ?_ | refine t_cmp' ?_ | refine t_chain' ?_ | refine t_not' ?_ | refine t_and' ?_ | refine t_or' ?_ | refine ts_nil ?_ | refine ts_cons ?_ | refine x_nil ?_ | refine x_cons ?_ | refine x_set ?_ | refine x_expr ?_ | refine x_ret ?_ | refine x_retN ?_ | refine x_ifs ?_ | refine x_setIx ?_ | refine x_unpack ?_ | refine l_add ?_ | refine l_sub ?_ | refine l_eqI ?_ | refine l_neI ?_ | refine l_eqB ?_ | refine l_neB ?_ | refine l_lt ?_ | refine l_le ?_ | refine l_gt ?_ | refine l_ge ?_ | refine ifT' rfl ?_ | refine ifF' rfl ?_ | refine ⟨_, rfl, ?_⟩ | refine ⟨rfl, ?_⟩ | refine ⟨Nat.le_of_ble_eq_true rfl, ?_⟩ | refine WC_some rfl ?_ | refine W_some rfl ?_))
            exact rfl
          refine w_nil ?_
          refine l_sortedD (kvs := keyed (.bl true) (es.map Sum.inl)) (by simp) (keysI_of (v := .bl true) k1) (by omega) ?_
          rw [he]
          refine l_neL ?_
          rw [inc_sorted k2 k3]
          refine ifB (fun hi => ?_) (fun hi => ?_)
          · (repeat (first | refine w_var rfl ?_ | refine w_cst ?_ | refine w_glob ?_ | refine w_nil ?_ | refine w_cons ?_ | refine w_bin ?_ | refine w_ix ?_ | refine w_call ?_ | refine w_blt ?_ | refine w_isi ?_ | refine w_tup ?_ | refine w_lstT ?_ | refine w_lstF ?_ | refine e_and ?_ | refine e_or ?_ | refine w_not ?_ | refine w_neg ?_ | refine w_ite ?_ | refine w_cmp ?_ | refine w_chain ?_ | refine w_slice ?_ | refine w_oN ?_ | refine w_oS ?_ | refine t_val' ?_ | refine t_cmp' ?_ | refine t_chain' ?_ | refine t_not' ?_ | refine t_and' ?_ | refine t_or' ?_ | refine ts_nil ?_ | refine ts_cons ?_ | refine x_nil ?_ | refine x_cons ?_ | refine x_set ?_ | refine x_expr ?_ | refine x_ret ?_ | refine x_retN ?_ | refine x_ifs ?_ | refine x_setIx ?_ | refine x_unpack ?_ | refine l_add ?_ | refine l_sub ?_ | refine l_eqI ?_ | refine l_neI ?_ | refine l_eqB ?_ | refine l_neB ?_ | refine l_lt ?_ | refine l_le ?_ | refine l_gt ?_ | refine l_ge ?_ | refine ifT' rfl ?_ | refine ifF' rfl ?_ | refine ⟨_, rfl, ?_⟩ | refine ⟨rfl, ?_⟩ | refine ⟨Nat.le_of_ble_eq_true rfl, ?_⟩ | refine WC_some rfl ?_ | refine W_some rfl ?_))
            rw [List.append_assoc]
            refine fin_drop rfl hS rfl ?_
            have : incB es = false := by simpa using hi
            rw [← he] at *
            simpa [autB, this, hes] using q
          have hi' : incB es = true := by simpa using hi
          rw [← he]
          refine x_nil ?_
          refine x_cons ?_
          refine x_ret ?_
          refine w_blt ?_
          refine w_cons ?_
          rw [List.append_assoc]
          have hS2 : (S ++ ([O.dic (tab sg)] ++ [O.dic (keyed (.bl true) (es.map Sum.inl))])).all puO = true := by
            rw [List.all_append, hS, List.all_append]; simp [hs.pu, keyed_vals (v := .bl true) rfl]
          refine w_mapR moves (moves.map fun s => .bl (moveB (tab sg) many s)) (Nat.le_trans gb.1 (by decide)) (by simp) (r_seq (w_var rfl (WC_some rfl ⟨rfl, rfl, fun i y z hy hz => ?_, ?_⟩)))
          · refine ⟨_, rfl, ?_⟩
            simp only [List.getElem?_map, hy, Option.map_some, Option.some.injEq] at hz
            subst hz
            (repeat (first | refine w_var rfl ?_ | refine w_cst ?_ | refine w_glob ?_ | refine w_nil ?_ | refine w_cons ?_ | refine w_bin ?_ | refine w_ix ?_ | refine w_call ?_ | refine w_blt ?_ | refine w_isi ?_ | refine w_tup ?_ | refine w_lstT ?_ | refine w_lstF ?_ | refine e_and ?_ | refine e_or ?_ | refine w_not ?_ | refine w_neg ?_ | refine w_ite ?_ | refine w_cmp ?_ | refine w_chain ?_ | refine w_slice ?_ | refine w_oN ?_ | refine w_oS ?_ | refine t_val' ?_ | refine t_cmp' ?_ | refine t_chain' ?_ | refine t_not' ?_ | refine t_and' ?_ | refine t_or' ?_ | refine ts_nil ?_ | refine ts_cons ?_ | refine x_nil ?_ | refine x_set ?_ | refine x_expr ?_ | refine x_ret ?_ | refine x_retN ?_ | refine x_ifs ?_ | refine x_setIx ?_ | refine x_unpack ?_ | refine l_add ?_ | refine l_sub ?_ | refine l_eqI ?_ | refine l_neI ?_ | refine l_eqB ?_ | refine l_neB ?_ | refine l_lt ?_ | refine l_le ?_ | refine l_gt ?_ | refine l_ge ?_ | refine ifT' rfl ?_ | refine ifF' rfl ?_ | refine ⟨_, rfl, ?_⟩ | refine ⟨rfl, ?_⟩ | refine ⟨Nat.le_of_ble_eq_true rfl, ?_⟩ | refine WC_some rfl ?_ | refine W_some rfl ?_))
            refine moveP (gds_get gb.2 hy) hS2 (tab := tab sg) (by simp) hs.ok ?_
            exact ⟨rfl, rfl⟩
          refine w_nil ?_
          refine l_all ?_
          refine fin_drop rfl hS rfl ?_
          simpa [autB, hm', ha', hi', hes] using q
        | fzl _ => simp [gd] at gc
        | ref _ => simp [gd] at gc
        | _ =>
          (repeat (first | refine w_var rfl ?_ | refine w_cst ?_ | refine w_glob ?_ | refine w_nil ?_ | refine w_cons ?_ | refine w_bin ?_ | refine w_ix ?_ | refine w_call ?_ | refine w_blt ?_ | refine w_isi ?_ | refine w_tup ?_ | refine w_lstT ?_ | refine w_lstF ?_ | refine e_and ?_ | refine e_or ?_ | refine w_not ?_ | refine w_neg ?_ | refine w_ite ?_ | refine w_cmp ?_ | refine w_chain ?_ | refine w_slice ?_ | refine w_oN ?_ | refine w_oS ?_ | refine t_val' ?_ | refine t_cmp' ?_ | refine t_chain' ?_ | refine t_not' ?_ | refine t_and' ?_ | refine t_or' ?_ | refine ts_nil ?_ | refine ts_cons ?_ | refine x_nil ?_ | refine x_cons ?_ | refine x_set ?_ | refine x_expr ?_ | refine x_ret ?_ | refine x_retN ?_ | refine x_ifs ?_ | refine x_setIx ?_ | refine x_unpack ?_ | refine l_add ?_ | refine l_sub ?_ | refine l_eqI ?_ | refine l_neI ?_ | refine l_eqB ?_ | refine l_neB ?_ | refine l_lt ?_ | refine l_le ?_ | refine l_gt ?_ | refine l_ge ?_ | refine ifT' rfl ?_ | refine ifF' rfl ?_ | refine ⟨_, rfl, ?_⟩ | refine ⟨rfl, ?_⟩ | refine ⟨Nat.le_of_ble_eq_true rfl, ?_⟩ | refine WC_some rfl ?_ | refine W_some rfl ?_))
          exact fin_same rfl hS rfl q
      | fzl _ => simp [gd] at gb
      | ref _ => simp [gd] at gb
      | _ =>
        (repeat (first | refine w_var rfl ?_ | refine w_cst ?_ | refine w_glob ?_ | refine w_nil ?_ | refine w_cons ?_ | refine w_bin ?_ | refine w_ix ?_ | refine w_call ?_ | refine w_blt ?_ | refine w_isi ?_ | refine w_tup ?_ | refine w_lstT ?_ | refine w_lstF ?_ | refine e_and ?_ | refine e_or ?_ | refine w_not ?_ | refine w_neg ?_ | refine w_ite ?_ | refine w_cmp ?_ | refine w_chain ?_ | refine w_slice ?_ | refine w_oN ?_ | refine w_oS ?_ | refine t_val' ?_ | refine t_cmp' ?_ | refine t_chain' ?_ | refine t_not' ?_ | refine t_and' ?_ | refine t_or' ?_ | refine ts_nil ?_ | refine ts_cons ?_ | refine x_nil ?_ | refine x_cons ?_ | refine x_set ?_ | refine x_expr ?_ | refine x_ret ?_ | refine x_retN ?_ | refine x_ifs ?_ | refine x_setIx ?_ | refine x_unpack ?_ | refine l_add ?_ | refine l_sub ?_ | refine l_eqI ?_ | refine l_neI ?_ | refine l_eqB ?_ | refine l_neB ?_ | refine l_lt ?_ | refine l_le ?_ | refine l_gt ?_ | refine l_ge ?_ | refine ifT' rfl ?_ | refine ifF' rfl ?_ | refine ⟨_, rfl, ?_⟩ | refine ⟨rfl, ?_⟩ | refine ⟨Nat.le_of_ble_eq_true rfl, ?_⟩ | refine WC_some rfl ?_ | refine W_some rfl ?_))
        exact fin_same rfl hS rfl q
    · refine x_cons ?_
      (repeat (first | refine w_var rfl ?_ | refine w_cst ?_ | refine w_glob ?_ | refine w_nil ?_ | refine w_cons ?_ | refine w_bin ?_ | refine w_ix ?_ | refine w_call ?_ | refine w_blt ?_ | refine w_isi ?_ | refine w_tup ?_ | refine w_lstT ?_ | refine w_lstF ?_ | refine e_and ?_ | refine e_or ?_ | refine w_not ?_ | refine w_neg ?_ | refine w_ite ?_ | refine w_cmp ?_ | refine w_chain ?_ | refine w_slice ?_ | refine w_oN ?_ | refine w_oS ?_ | refine t_val' ?_ | refine t_cmp' ?_ | refine t_chain' ?_ | refine t_not' ?_ | refine t_and' ?_ | refine t_or' ?_ | refine ts_nil ?_ | refine ts_cons ?_ | refine x_nil ?_ | refine x_set ?_ | refine x_expr ?_ | refine x_ret ?_ | refine x_retN ?_ | refine x_ifs ?_ | refine x_setIx ?_ | refine x_unpack ?_ | refine l_add ?_ | refine l_sub ?_ | refine l_eqI ?_ | refine l_neI ?_ | refine l_eqB ?_ | refine l_neB ?_ | refine l_lt ?_ | refine l_le ?_ | refine l_gt ?_ | refine l_ge ?_ | refine ifT' rfl ?_ | refine ifF' rfl ?_ | refine ⟨_, rfl, ?_⟩ | refine ⟨rfl, ?_⟩ | refine ⟨Nat.le_of_ble_eq_true rfl, ?_⟩ | refine WC_some rfl ?_ | refine W_some rfl ?_))
      refine ifT' (by simp; omega) ?_
      (repeat (first | refine w_var rfl ?_ | refine w_cst ?_ | refine w_glob ?_ | refine w_nil ?_ | refine w_cons ?_ | refine w_bin ?_ | refine w_ix ?_ | refine w_call ?_ | refine w_blt ?_ | refine w_isi ?_ | refine w_tup ?_ | refine w_lstT ?_ | refine w_lstF ?_ | refine e_and ?_ | refine e_or ?_ | refine w_not ?_ | refine w_neg ?_ | refine w_ite ?_ | refine w_cmp ?_ | refine w_chain ?_ | refine w_slice ?_ | refine w_oN ?_ | refine w_oS ?_ | refine t_val' ?_ | refine t_cmp' ?_ | refine t_chain' ?_ | refine t_not' ?_ | refine t_and' ?_ | refine t_or' ?_ | refine ts_nil ?_ | refine ts_cons ?_ | refine x_nil ?_ | refine x_cons ?_ | refine x_set ?_ | refine x_expr ?_ | refine x_ret ?_ | refine x_retN ?_ | refine x_ifs ?_ | refine x_setIx ?_ | refine x_unpack ?_ | refine l_add ?_ | refine l_sub ?_ | refine l_eqI ?_ | refine l_neI ?_ | refine l_eqB ?_ | refine l_neB ?_ | refine l_lt ?_ | refine l_le ?_ | refine l_gt ?_ | refine l_ge ?_ | refine ifT' rfl ?_ | refine ifF' rfl ?_ | refine ⟨_, rfl, ?_⟩ | refine ⟨rfl, ?_⟩ | refine ⟨Nat.le_of_ble_eq_true rfl, ?_⟩ | refine WC_some rfl ?_ | refine W_some rfl ?_))
      refine fin_same rfl hS rfl ?_
      have : autB sg (.tup p) = false := by
        unfold autB
        split
        · rename_i e; cases e; exact absurd rfl hp
        · rfl
      rw [this] at q
      exact q
  | fzl _ => simp [gd] at hv
  | ref _ => simp [gd] at hv
  | _ =>
    (repeat (first | refine w_var rfl ?_ | refine w_cst ?_ | refine w_glob ?_ | refine w_nil ?_ | refine w_cons ?_ | refine w_bin ?_ | refine w_ix ?_ | refine w_call ?_ | refine w_blt ?_ | refine w_isi ?_ | refine w_tup ?_ | refine w_lstT ?_ | refine w_lstF ?_ | refine e_and ?_ | refine e_or ?_ | refine w_not ?_ | refine w_neg ?_ | refine w_ite ?_ | refine w_cmp ?_ | refine w_chain ?_ | refine w_slice ?_ | refine w_oN ?_ | refine w_oS ?_ | refine t_val' ?_ | refine t_cmp' ?_ | refine t_chain' ?_ | refine t_not' ?_ | refine t_and' ?_ | refine t_or' ?_ | refine ts_nil ?_ | refine ts_cons ?_ | refine x_nil ?_ | refine x_cons ?_ | refine x_set ?_ | refine x_expr ?_ | refine x_ret ?_ | refine x_retN ?_ | refine x_ifs ?_ | refine x_setIx ?_ | refine x_unpack ?_ | refine l_add ?_ | refine l_sub ?_ | refine l_eqI ?_ | refine l_neI ?_ | refine l_eqB ?_ | refine l_neB ?_ | refine l_lt ?_ | refine l_le ?_ | refine l_gt ?_ | refine l_ge ?_ | refine ifT' rfl ?_ | refine ifF' rfl ?_ | refine ⟨_, rfl, ?_⟩ | refine ⟨rfl, ?_⟩ | refine ⟨Nat.le_of_ble_eq_true rfl, ?_⟩ | refine WC_some rfl ?_ | refine W_some rfl ?_))
    exact fin_same rfl hS rfl q
end Tt.L
end

section
/-! k16: automata, as the law sees them. -/
namespace Tt.L
open PySem Tt Tt.P L2
def stepB (es : List Int) (i : Nat) : Bool := match es[i + 1]?, es[i]? with
  | some a, some b => decide (a ≤ b)
  | _, _ => false
theorem steps_inc (es : List Int) : (List.range (es.length - 1)).any (stepB es) = !incB es := by
  unfold incB
  by_cases h : es.Pairwise (· < ·)
  · rw [decide_eq_true h]
    rw [Bool.not_true, List.any_eq_false]
    intro i hi
    have hi : i < es.length - 1 := List.mem_range.mp hi
    have := inc_steps.mp h i (by omega)
    unfold stepB
    rw [List.getElem?_eq_getElem (by omega), List.getElem?_eq_getElem (by omega)]
    simp; omega
  · rw [decide_eq_false h, Bool.not_false, List.any_eq_true]
    rw [inc_steps] at h
    simp only [Classical.not_forall] at h
    obtain ⟨i, hi, hn⟩ := h
    refine ⟨i, List.mem_range.mpr (by omega), ?_⟩
    unfold stepB
    rw [List.getElem?_eq_getElem (by omega), List.getElem?_eq_getElem (by omega)]
    simp; omega
theorem aut_bad {sg moves ends : List D} {many : Int} {i : Nat} {x : D} (hx : moves[i]? = some x) (h : moveB (tab sg) many x = false) : autB sg (.tup [.int many, .tup moves, .tup ends]) = false := by
  have : moves.all (moveB (tab sg) many) = false := by
    rw [List.all_eq_false]
    exact ⟨x, List.mem_of_getElem? hx, by rw [h]; exact Bool.false_ne_true⟩
  simp [autB, this]
theorem moveB_eq {tab : List (Key × D)} {many m : Int} {w : Str} {args : List D} {st : D} (hk : lookK tab (.inr w) = some (.int m)) :
    moveB tab many (.tup [.str w, .tup args, st]) = (((args.length : Int) == m) && (args ++ [st]).all fun s => wholeB s (many - 1)) := by
  show (match lookK tab (.inr w) with | some (.int m) => ((args.length : Int) == m) && (args ++ [st]).all fun s => wholeB s (many - 1) | _ => false) = _
  rw [hk]
def bodyOf (l : List Sm) (i : Nat) : List Sm := match l[i]? with
  | some (Sm.for_ _ _ b) => b
  | _ => []
/-- the moves, one after another -/
theorem moveL {k : Nat} {sg moves ends : List D} {many : Int} {x y : D} {o : Option D} {S : Sto} {Q : Fl → En → Sto → Prop} (hs : SigOk sg) (hx : gd x = true) (hS : (S ++ [O.dic (tab sg)]).all puO = true)
    (bad : moveB (tab sg) many x = false → Q (.rt (.bl false)) [some (.tup sg), some y, some (.ref S.length), some x, some (.int many), some (.tup moves), some (.tup ends), none, none] (S ++ [.dic (tab sg)]))
    (good : moveB (tab sg) many x = true → Q .nx [some (.tup sg), some y, some (.ref S.length), some x, some (.int many), some (.tup moves), some (.tup ends), none, none] (S ++ [.dic (tab sg)])) :
    WS (exs (ex (calls pg (k + 2)) 59) (bodyOf b15 5) [some (.tup sg), some y, some (.ref S.length), some x, some (.int many), some (.tup moves), some (.tup ends), none, none] (S ++ [.dic (tab sg)])) Q := by
  have hn : (S ++ [O.dic (tab sg)])[S.length]? = some (.dic (tab sg)) := by simp
  generalize hS1 : S ++ [O.dic (tab sg)] = S1 at hS hn bad good ⊢
  cases x with
  | tup p =>
    simp only [gd, Bool.and_eq_true, decide_eq_true_eq] at hx
    by_cases hp : p.length = 3
    · obtain ⟨a, b, c, rfl⟩ : ∃ a b c, p = [a, b, c] := by
        match p, hp with
        | [a, b, c], _ => exact ⟨a, b, c, rfl⟩
      have hg := hx.2
      simp only [gds, Bool.and_eq_true] at hg
      obtain ⟨ga, gb, gc, _⟩ := hg
      cases a with
      | str w =>
        refine x_cons ?_
        (repeat (first | refine w_var rfl ?_ | refine w_cst ?_ | refine w_glob ?_ | refine w_nil ?_ | refine w_cons ?_ | refine w_bin ?_ | refine w_ix ?_ | refine w_call ?_ | refine w_blt ?_ | refine w_isi ?_ | refine w_tup ?_ | refine w_lstT ?_ | refine w_lstF ?_ | refine e_and ?_ | refine e_or ?_ | refine w_not ?_ | refine w_neg ?_ | refine w_ite ?_ | refine w_cmp ?_ | refine w_chain ?_ | refine w_slice ?_ | refine w_oN ?_ | refine w_oS ?_ | refine t_val' ?_ | refine t_cmp' ?_ | refine t_chain' ?_ | refine t_not' ?_ | refine t_and' ?_ | refine t_or' ?_ | refine ts_nil ?_ | refine ts_cons ?_ | refine x_nil ?_ | refine x_set ?_ | refine x_expr ?_ | refine x_ret ?_ | refine x_retN ?_ | refine x_ifs ?_ | refine x_setIx ?_ | refine x_unpack ?_ | refine l_add ?_ | refine l_sub ?_ | refine l_eqI ?_ | refine l_neI ?_ | refine l_eqB ?_ | refine l_neB ?_ | refine l_lt ?_ | refine l_le ?_ | refine l_gt ?_ | refine l_ge ?_ | refine ifT' rfl ?_ | refine ifF' rfl ?_ | refine ⟨_, rfl, ?_⟩ | refine ⟨rfl, ?_⟩ | refine ⟨Nat.le_of_ble_eq_true rfl, ?_⟩ | refine WC_some rfl ?_ | refine W_some rfl ?_))
        refine l_notInD hn ?_
        cases hk : lookK (tab sg) (.inr w) with
        | none =>
          (repeat (first | refine w_var rfl ?_ | refine w_cst ?_ | refine w_glob ?_ | refine w_nil ?_ | refine w_cons ?_ | refine w_bin ?_ | refine w_ix ?_ | refine w_call ?_ | refine w_blt ?_ | refine w_isi ?_ | refine w_tup ?_ | refine w_lstT ?_ | refine w_lstF ?_ | refine e_and ?_ | refine e_or ?_ | refine w_not ?_ | refine w_neg ?_ | refine w_ite ?_ | refine w_cmp ?_ | refine w_chain ?_ | refine w_slice ?_ | refine w_oN ?_ | refine w_oS ?_ | refine t_val' ?_ | refine t_cmp' ?_ | refine t_chain' ?_ | refine t_not' ?_ | refine t_and' ?_ | refine t_or' ?_ | refine ts_nil ?_ | refine ts_cons ?_ | refine x_nil ?_ | refine x_cons ?_ | refine x_set ?_ | refine x_expr ?_ | refine x_ret ?_ | refine x_retN ?_ | refine x_ifs ?_ | refine x_setIx ?_ | refine x_unpack ?_ | refine l_add ?_ | refine l_sub ?_ | refine l_eqI ?_ | refine l_neI ?_ | refine l_eqB ?_ | refine l_neB ?_ | refine l_lt ?_ | refine l_le ?_ | refine l_gt ?_ | refine l_ge ?_ | refine ifT' rfl ?_ | refine ifF' rfl ?_ | refine ⟨_, rfl, ?_⟩ | refine ⟨rfl, ?_⟩ | refine ⟨Nat.le_of_ble_eq_true rfl, ?_⟩ | refine WC_some rfl ?_ | refine W_some rfl ?_))
          refine bad ?_
          cases b <;> simp [moveB, hk]
        | some d =>
          obtain ⟨m, rfl⟩ := hs.ok _ _ hk
          (repeat (first | refine w_var rfl ?_ | refine w_cst ?_ | refine w_glob ?_ | refine w_nil ?_ | refine w_cons ?_ | refine w_bin ?_ | refine w_ix ?_ | refine w_call ?_ | refine w_blt ?_ | refine w_isi ?_ | refine w_tup ?_ | refine w_lstT ?_ | refine w_lstF ?_ | refine e_and ?_ | refine e_or ?_ | refine w_not ?_ | refine w_neg ?_ | refine w_ite ?_ | refine w_cmp ?_ | refine w_chain ?_ | refine w_slice ?_ | refine w_oN ?_ | refine w_oS ?_ | refine t_val' ?_ | refine t_cmp' ?_ | refine t_chain' ?_ | refine t_not' ?_ | refine t_and' ?_ | refine t_or' ?_ | refine ts_nil ?_ | refine ts_cons ?_ | refine x_nil ?_ | refine x_set ?_ | refine x_expr ?_ | refine x_ret ?_ | refine x_retN ?_ | refine x_ifs ?_ | refine x_setIx ?_ | refine x_unpack ?_ | refine l_add ?_ | refine l_sub ?_ | refine l_eqI ?_ | refine l_neI ?_ | refine l_eqB ?_ | refine l_neB ?_ | refine l_lt ?_ | refine l_le ?_ | refine l_gt ?_ | refine l_ge ?_ | refine ifT' rfl ?_ | refine ifF' rfl ?_ | refine ⟨_, rfl, ?_⟩ | refine ⟨rfl, ?_⟩ | refine ⟨Nat.le_of_ble_eq_true rfl, ?_⟩ | refine WC_some rfl ?_ | refine W_some rfl ?_))
          refine x_cons ?_
          cases b with
          | tup args =>
            simp only [gd, Bool.and_eq_true, decide_eq_true_eq] at gb
            (repeat (first | refine w_var rfl ?_ | refine w_cst ?_ | refine w_glob ?_ | refine w_nil ?_ | refine w_cons ?_ | refine w_bin ?_ | refine w_ix ?_ | refine w_call ?_ | refine w_blt ?_ | refine w_isi ?_ | refine w_tup ?_ | refine w_lstT ?_ | refine w_lstF ?_ | refine e_and ?_ | refine e_or ?_ | refine w_not ?_ | refine w_neg ?_ | refine w_ite ?_ | refine w_cmp ?_ | refine w_chain ?_ | refine w_slice ?_ | refine w_oN ?_ | refine w_oS ?_ | refine t_val' ?_ | refine t_cmp' ?_ | refine t_chain' ?_ | refine t_not' ?_ | refine t_and' ?_ | refine t_or' ?_ | refine ts_nil ?_ | refine ts_cons ?_ | refine x_nil ?_ | refine x_set ?_ | refine x_expr ?_ | refine x_ret ?_ | refine x_retN ?_ | refine x_ifs ?_ | refine x_setIx ?_ | refine x_unpack ?_ | refine l_add ?_ | refine l_sub ?_ | refine l_eqI ?_ | refine l_neI ?_ | refine l_eqB ?_ | refine l_neB ?_ | refine l_lt ?_ | refine l_le ?_ | refine l_gt ?_ | refine l_ge ?_ | refine ifT' rfl ?_ | refine ifF' rfl ?_ | refine ⟨_, rfl, ?_⟩ | refine ⟨rfl, ?_⟩ | refine ⟨Nat.le_of_ble_eq_true rfl, ?_⟩ | refine WC_some rfl ?_ | refine W_some rfl ?_))
            refine l_ixD hn hk ?_
            (repeat (first | refine w_var rfl ?_ | refine w_cst ?_ | refine w_glob ?_ | refine w_nil ?_ | refine w_cons ?_ | refine w_bin ?_ | refine w_ix ?_ | refine w_call ?_ | refine w_blt ?_ | refine w_isi ?_ | refine w_tup ?_ | refine w_lstT ?_ | refine w_lstF ?_ | refine e_and ?_ | refine e_or ?_ | refine w_not ?_ | refine w_neg ?_ | refine w_ite ?_ | refine w_cmp ?_ | refine w_chain ?_ | refine w_slice ?_ | refine w_oN ?_ | refine w_oS ?_ | refine t_val' ?_ | refine t_cmp' ?_ | refine t_chain' ?_ | refine t_not' ?_ | refine t_and' ?_ | refine t_or' ?_ | refine ts_nil ?_ | refine ts_cons ?_ | refine x_nil ?_ | refine x_set ?_ | refine x_expr ?_ | refine x_ret ?_ | refine x_retN ?_ | refine x_ifs ?_ | refine x_setIx ?_ | refine x_unpack ?_ | refine l_add ?_ | refine l_sub ?_ | refine l_eqI ?_ | refine l_neI ?_ | refine l_eqB ?_ | refine l_neB ?_ | refine l_lt ?_ | refine l_le ?_ | refine l_gt ?_ | refine l_ge ?_ | refine ifT' rfl ?_ | refine ifF' rfl ?_ | refine ⟨_, rfl, ?_⟩ | refine ⟨rfl, ?_⟩ | refine ⟨Nat.le_of_ble_eq_true rfl, ?_⟩ | refine WC_some rfl ?_ | refine W_some rfl ?_))
            refine ifB (fun hl => ?_) (fun hl => ?_)
            · (repeat (first | refine w_var rfl ?_ | refine w_cst ?_ | refine w_glob ?_ | refine w_nil ?_ | refine w_cons ?_ | refine w_bin ?_ | refine w_ix ?_ | refine w_call ?_ | refine w_blt ?_ | refine w_isi ?_ | refine w_tup ?_ | refine w_lstT ?_ | refine w_lstF ?_ | refine e_and ?_ | refine e_or ?_ | refine w_not ?_ | refine w_neg ?_ | refine w_ite ?_ | refine w_cmp ?_ | refine w_chain ?_ | refine w_slice ?_ | refine w_oN ?_ | refine w_oS ?_ | refine t_val' ?_ | refine t_cmp' ?_ | refine t_chain' ?_ | refine t_not' ?_ | refine t_and' ?_ | refine t_or' ?_ | refine ts_nil ?_ | refine ts_cons ?_ | refine x_nil ?_ | refine x_cons ?_ | refine x_set ?_ | refine x_expr ?_ | refine x_ret ?_ | refine x_retN ?_ | refine x_ifs ?_ | refine x_setIx ?_ | refine x_unpack ?_ | refine l_add ?_ | refine l_sub ?_ | refine l_eqI ?_ | refine l_neI ?_ | refine l_eqB ?_ | refine l_neB ?_ | refine l_lt ?_ | refine l_le ?_ | refine l_gt ?_ | refine l_ge ?_ | refine ifT' rfl ?_ | refine ifF' rfl ?_ | refine ⟨_, rfl, ?_⟩ | refine ⟨rfl, ?_⟩ | refine ⟨Nat.le_of_ble_eq_true rfl, ?_⟩ | refine WC_some rfl ?_ | refine W_some rfl ?_))
              refine bad ?_
              have : ((args.length : Int) == m) = false := by simpa using hl
              simp [moveB, hk, this]
            have hl' : ((args.length : Int) == m) = true := by simpa using hl
            refine x_nil ?_
            refine x_cons ?_
            refine x_ifs ?_
            refine t_not' ?_
            refine t_val' ?_
            refine w_blt ?_
            refine w_cons ?_
            have hlen : (args ++ [c]).length ≤ sizeLine := by rw [List.length_append]; exact Nat.le_trans (Nat.add_le_add_right gb.1 _) (show 60 + 1 ≤ sizeLine by decide)
            refine w_mapR (args ++ [c]) ((args ++ [c]).map fun s => .bl (wholeB s (many - 1))) hlen (by simp) (r_seq ?_)
            (repeat (first | refine w_var rfl ?_ | refine w_cst ?_ | refine w_glob ?_ | refine w_nil ?_ | refine w_cons ?_ | refine w_bin ?_ | refine w_ix ?_ | refine w_call ?_ | refine w_blt ?_ | refine w_isi ?_ | refine w_tup ?_ | refine w_lstT ?_ | refine w_lstF ?_ | refine e_and ?_ | refine e_or ?_ | refine w_not ?_ | refine w_neg ?_ | refine w_ite ?_ | refine w_cmp ?_ | refine w_chain ?_ | refine w_slice ?_ | refine w_oN ?_ | refine w_oS ?_ | refine t_val' ?_ | refine t_cmp' ?_ | refine t_chain' ?_ | refine t_not' ?_ | refine t_and' ?_ | refine t_or' ?_ | refine ts_nil ?_ | refine ts_cons ?_ | refine x_nil ?_ | refine x_set ?_ | refine x_expr ?_ | refine x_ret ?_ | refine x_retN ?_ | refine x_ifs ?_ | refine x_setIx ?_ | refine x_unpack ?_ | refine l_add ?_ | refine l_sub ?_ | refine l_eqI ?_ | refine l_neI ?_ | refine l_eqB ?_ | refine l_neB ?_ | refine l_lt ?_ | refine l_le ?_ | refine l_gt ?_ | refine l_ge ?_ | refine ifT' rfl ?_ | refine ifF' rfl ?_ | refine ⟨_, rfl, ?_⟩ | refine ⟨rfl, ?_⟩ | refine ⟨Nat.le_of_ble_eq_true rfl, ?_⟩ | refine WC_some rfl ?_ | refine W_some rfl ?_))
            refine l_catT (by rw [← List.length_append]; exact hlen) ?_
            refine WC_some rfl ⟨rfl, rfl, fun i y z hy hz => ?_, ?_⟩
            · refine ⟨_, rfl, ?_⟩
              simp only [List.getElem?_map, hy, Option.map_some, Option.some.injEq] at hz
              subst hz
              have hyg : gd y = true := gds_get (l := args ++ [c]) (by rw [gds_append, gb.2]; simp [gds, gc]) hy
              (repeat (first | refine w_var rfl ?_ | refine w_cst ?_ | refine w_glob ?_ | refine w_nil ?_ | refine w_cons ?_ | refine w_bin ?_ | refine w_ix ?_ | refine w_call ?_ | refine w_blt ?_ | refine w_isi ?_ | refine w_tup ?_ | refine w_lstT ?_ | refine w_lstF ?_ | refine e_and ?_ | refine e_or ?_ | refine w_not ?_ | refine w_neg ?_ | refine w_ite ?_ | refine w_cmp ?_ | refine w_chain ?_ | refine w_slice ?_ | refine w_oN ?_ | refine w_oS ?_ | refine t_val' ?_ | refine t_cmp' ?_ | refine t_chain' ?_ | refine t_not' ?_ | refine t_and' ?_ | refine t_or' ?_ | refine ts_nil ?_ | refine ts_cons ?_ | refine x_nil ?_ | refine x_set ?_ | refine x_expr ?_ | refine x_ret ?_ | refine x_retN ?_ | refine x_ifs ?_ | refine x_setIx ?_ | refine x_unpack ?_ | refine l_add ?_ | refine l_sub ?_ | refine l_eqI ?_ | refine l_neI ?_ | refine l_eqB ?_ | refine l_neB ?_ | refine l_lt ?_ | refine l_le ?_ | refine l_gt ?_ | refine l_ge ?_ | refine ifT' rfl ?_ | refine ifF' rfl ?_ | refine ⟨_, rfl, ?_⟩ | refine ⟨rfl, ?_⟩ | refine ⟨Nat.le_of_ble_eq_true rfl, ?_⟩ | refine WC_some rfl ?_ | refine W_some rfl ?_))
              refine number hyg hS ?_
              (repeat (first | refine w_var rfl ?_ | refine w_cst ?_ | refine w_glob ?_ | refine w_nil ?_ | refine w_cons ?_ | refine w_bin ?_ | refine w_ix ?_ | refine w_call ?_ | refine w_blt ?_ | refine w_isi ?_ | refine w_tup ?_ | refine w_lstT ?_ | refine w_lstF ?_ | refine e_and ?_ | refine e_or ?_ | refine w_not ?_ | refine w_neg ?_ | refine w_ite ?_ | refine w_cmp ?_ | refine w_chain ?_ | refine w_slice ?_ | refine w_oN ?_ | refine w_oS ?_ | refine t_val' ?_ | refine t_cmp' ?_ | refine t_chain' ?_ | refine t_not' ?_ | refine t_and' ?_ | refine t_or' ?_ | refine ts_nil ?_ | refine ts_cons ?_ | refine x_nil ?_ | refine x_set ?_ | refine x_expr ?_ | refine x_ret ?_ | refine x_retN ?_ | refine x_ifs ?_ | refine x_setIx ?_ | refine x_unpack ?_ | refine l_add ?_ | refine l_sub ?_ | refine l_eqI ?_ | refine l_neI ?_ | refine l_eqB ?_ | refine l_neB ?_ | refine l_lt ?_ | refine l_le ?_ | refine l_gt ?_ | refine l_ge ?_ | refine ifT' rfl ?_ | refine ifF' rfl ?_ | refine ⟨_, rfl, ?_⟩ | refine ⟨rfl, ?_⟩ | refine ⟨Nat.le_of_ble_eq_true rfl, ?_⟩ | refine WC_some rfl ?_ | refine W_some rfl ?_))
              exact rfl
            · refine w_nil ?_
              refine l_all ?_
              refine WC_some rfl ?_
              refine ifB (fun ha => ?_) (fun ha => ?_)
              · (repeat (first | refine w_var rfl ?_ | refine w_cst ?_ | refine w_glob ?_ | refine w_nil ?_ | refine w_cons ?_ | refine w_bin ?_ | refine w_ix ?_ | refine w_call ?_ | refine w_blt ?_ | refine w_isi ?_ | refine w_tup ?_ | refine w_lstT ?_ | refine w_lstF ?_ | refine e_and ?_ | refine e_or ?_ | refine w_not ?_ | refine w_neg ?_ | refine w_ite ?_ | refine w_cmp ?_ | refine w_chain ?_ | refine w_slice ?_ | refine w_oN ?_ | refine w_oS ?_ | refine t_val' ?_ | refine t_cmp' ?_ | refine t_chain' ?_ | refine t_not' ?_ | refine t_and' ?_ | refine t_or' ?_ | refine ts_nil ?_ | refine ts_cons ?_ | refine x_nil ?_ | refine x_cons ?_ | refine x_set ?_ | refine x_expr ?_ | refine x_ret ?_ | refine x_retN ?_ | refine x_ifs ?_ | refine x_setIx ?_ | refine x_unpack ?_ | refine l_add ?_ | refine l_sub ?_ | refine l_eqI ?_ | refine l_neI ?_ | refine l_eqB ?_ | refine l_neB ?_ | refine l_lt ?_ | refine l_le ?_ | refine l_gt ?_ | refine l_ge ?_ | refine ifT' rfl ?_ | refine ifF' rfl ?_ | refine ⟨_, rfl, ?_⟩ | refine ⟨rfl, ?_⟩ | refine ⟨Nat.le_of_ble_eq_true rfl, ?_⟩ | refine WC_some rfl ?_ | refine W_some rfl ?_))
                refine bad ?_
                have ha' : ((args ++ [c]).all fun s => wholeB s (many - 1)) = false := by simpa only [Bool.not_eq_true'] using ha
                rw [moveB_eq hk, ha', Bool.and_false]
              · have ha' : ((args ++ [c]).all fun s => wholeB s (many - 1)) = true := by simpa only [Bool.not_eq_false'] using ha
                refine x_nil ?_
                refine x_nil ?_
                refine good ?_
                rw [moveB_eq hk, ha', hl']
                rfl
          | fzl _ => simp [gd] at gb
          | ref _ => simp [gd] at gb
          | _ =>
            (repeat (first | refine w_var rfl ?_ | refine w_cst ?_ | refine w_glob ?_ | refine w_nil ?_ | refine w_cons ?_ | refine w_bin ?_ | refine w_ix ?_ | refine w_call ?_ | refine w_blt ?_ | refine w_isi ?_ | refine w_tup ?_ | refine w_lstT ?_ | refine w_lstF ?_ | refine e_and ?_ | refine e_or ?_ | refine w_not ?_ | refine w_neg ?_ | refine w_ite ?_ | refine w_cmp ?_ | refine w_chain ?_ | refine w_slice ?_ | refine w_oN ?_ | refine w_oS ?_ | refine t_val' ?_ | refine t_cmp' ?_ | refine t_chain' ?_ | refine t_not' ?_ | refine t_and' ?_ | refine t_or' ?_ | refine ts_nil ?_ | refine ts_cons ?_ | refine x_nil ?_ | refine x_cons ?_ | refine x_set ?_ | refine x_expr ?_ | refine x_ret ?_ | refine x_retN ?_ | refine x_ifs ?_ | refine x_setIx ?_ | refine x_unpack ?_ | refine l_add ?_ | refine l_sub ?_ | refine l_eqI ?_ | refine l_neI ?_ | refine l_eqB ?_ | refine l_neB ?_ | refine l_lt ?_ | refine l_le ?_ | refine l_gt ?_ | refine l_ge ?_ | refine ifT' rfl ?_ | refine ifF' rfl ?_ | refine ⟨_, rfl, ?_⟩ | refine ⟨rfl, ?_⟩ | refine ⟨Nat.le_of_ble_eq_true rfl, ?_⟩ | refine WC_some rfl ?_ | refine W_some rfl ?_))
            exact bad rfl
      | fzl _ => simp [gd] at ga
      | ref _ => simp [gd] at ga
      | _ =>
        (repeat (first | refine w_var rfl ?_ | refine w_cst ?_ | refine w_glob ?_ | refine w_nil ?_ | refine w_cons ?_ | refine w_bin ?_ | refine w_ix ?_ | refine w_call ?_ | refine w_blt ?_ | refine w_isi ?_ | refine w_tup ?_ | refine w_lstT ?_ | refine w_lstF ?_ | refine e_and ?_ | refine e_or ?_ | refine w_not ?_ | refine w_neg ?_ | refine w_ite ?_ | refine w_cmp ?_ | refine w_chain ?_ | refine w_slice ?_ | refine w_oN ?_ | refine w_oS ?_ | refine t_val' ?_ | refine t_cmp' ?_ | refine t_chain' ?_ | refine t_not' ?_ | refine t_and' ?_ | refine t_or' ?_ | refine ts_nil ?_ | refine ts_cons ?_ | refine x_nil ?_ | refine x_cons ?_ | refine x_set ?_ | refine x_expr ?_ | refine x_ret ?_ | refine x_retN ?_ | refine x_ifs ?_ | refine x_setIx ?_ | refine x_unpack ?_ | refine l_add ?_ | refine l_sub ?_ | refine l_eqI ?_ | refine l_neI ?_ | refine l_eqB ?_ | refine l_neB ?_ | refine l_lt ?_ | refine l_le ?_ | refine l_gt ?_ | refine l_ge ?_ | refine ifT' rfl ?_ | refine ifF' rfl ?_ | refine ⟨_, rfl, ?_⟩ | refine ⟨rfl, ?_⟩ | refine ⟨Nat.le_of_ble_eq_true rfl, ?_⟩ | refine WC_some rfl ?_ | refine W_some rfl ?_))
        exact bad rfl
    · refine x_cons ?_
      (repeat (first | refine w_var rfl ?_ | refine w_cst ?_ | refine w_glob ?_ | refine w_nil ?_ | refine w_cons ?_ | refine w_bin ?_ | refine w_ix ?_ | refine w_call ?_ | refine w_blt ?_ | refine w_isi ?_ | refine w_tup ?_ | refine w_lstT ?_ | refine w_lstF ?_ | refine e_and ?_ | refine e_or ?_ | refine w_not ?_ | refine w_neg ?_ | refine w_ite ?_ | refine w_cmp ?_ | refine w_chain ?_ | refine w_slice ?_ | refine w_oN ?_ | refine w_oS ?_ | refine t_val' ?_ | refine t_cmp' ?_ | refine t_chain' ?_ | refine t_not' ?_ | refine t_and' ?_ | refine t_or' ?_ | refine ts_nil ?_ | refine ts_cons ?_ | refine x_nil ?_ | refine x_set ?_ | refine x_expr ?_ | refine x_ret ?_ | refine x_retN ?_ | refine x_ifs ?_ | refine x_setIx ?_ | refine x_unpack ?_ | refine l_add ?_ | refine l_sub ?_ | refine l_eqI ?_ | refine l_neI ?_ | refine l_eqB ?_ | refine l_neB ?_ | refine l_lt ?_ | refine l_le ?_ | refine l_gt ?_ | refine l_ge ?_ | refine ifT' rfl ?_ | refine ifF' rfl ?_ | refine ⟨_, rfl, ?_⟩ | refine ⟨rfl, ?_⟩ | refine ⟨Nat.le_of_ble_eq_true rfl, ?_⟩ | refine WC_some rfl ?_ | refine W_some rfl ?_))
      refine ifT' (by simp; omega) ?_
      (repeat (first | refine w_var rfl ?_ | refine w_cst ?_ | refine w_glob ?_ | refine w_nil ?_ | refine w_cons ?_ | refine w_bin ?_ | refine w_ix ?_ | refine w_call ?_ | refine w_blt ?_ | refine w_isi ?_ | refine w_tup ?_ | refine w_lstT ?_ | refine w_lstF ?_ | refine e_and ?_ | refine e_or ?_ | refine w_not ?_ | refine w_neg ?_ | refine w_ite ?_ | refine w_cmp ?_ | refine w_chain ?_ | refine w_slice ?_ | refine w_oN ?_ | refine w_oS ?_ | refine t_val' ?_ | refine t_cmp' ?_ | refine t_chain' ?_ | refine t_not' ?_ | refine t_and' ?_ | refine t_or' ?_ | refine ts_nil ?_ | refine ts_cons ?_ | refine x_nil ?_ | refine x_cons ?_ | refine x_set ?_ | refine x_expr ?_ | refine x_ret ?_ | refine x_retN ?_ | refine x_ifs ?_ | refine x_setIx ?_ | refine x_unpack ?_ | refine l_add ?_ | refine l_sub ?_ | refine l_eqI ?_ | refine l_neI ?_ | refine l_eqB ?_ | refine l_neB ?_ | refine l_lt ?_ | refine l_le ?_ | refine l_gt ?_ | refine l_ge ?_ | refine ifT' rfl ?_ | refine ifF' rfl ?_ | refine ⟨_, rfl, ?_⟩ | refine ⟨rfl, ?_⟩ | refine ⟨Nat.le_of_ble_eq_true rfl, ?_⟩ | refine WC_some rfl ?_ | refine W_some rfl ?_))
      refine bad ?_
      unfold moveB
      split
      · rename_i e; cases e; exact absurd rfl hp
      · rfl
  | fzl _ => simp [gd] at hx
  | ref _ => simp [gd] at hx
  | _ =>
    (repeat (first | refine w_var rfl ?_ | refine w_cst ?_ | refine w_glob ?_ | refine w_nil ?_ | refine w_cons ?_ | refine w_bin ?_ | refine w_ix ?_ | refine w_call ?_ | refine w_blt ?_ | refine w_isi ?_ | refine w_tup ?_ | refine w_lstT ?_ | refine w_lstF ?_ | refine e_and ?_ | refine e_or ?_ | refine w_not ?_ | refine w_neg ?_ | refine w_ite ?_ | refine w_cmp ?_ | refine w_chain ?_ | refine w_slice ?_ | refine w_oN ?_ | refine w_oS ?_ | refine t_val' ?_ | refine t_cmp' ?_ | refine t_chain' ?_ | refine t_not' ?_ | refine t_and' ?_ | refine t_or' ?_ | refine ts_nil ?_ | refine ts_cons ?_ | refine x_nil ?_ | refine x_cons ?_ | refine x_set ?_ | refine x_expr ?_ | refine x_ret ?_ | refine x_retN ?_ | refine x_ifs ?_ | refine x_setIx ?_ | refine x_unpack ?_ | refine l_add ?_ | refine l_sub ?_ | refine l_eqI ?_ | refine l_neI ?_ | refine l_eqB ?_ | refine l_neB ?_ | refine l_lt ?_ | refine l_le ?_ | refine l_gt ?_ | refine l_ge ?_ | refine ifT' rfl ?_ | refine ifF' rfl ?_ | refine ⟨_, rfl, ?_⟩ | refine ⟨rfl, ?_⟩ | refine ⟨Nat.le_of_ble_eq_true rfl, ?_⟩ | refine WC_some rfl ?_ | refine W_some rfl ?_))
    exact bad rfl
end Tt.L
end

section
/-! k16: what is drawn. -/
namespace Tt.L
open PySem Tt Tt.P L2
theorem l_listF {l : List D} {S : Sto} {Q : D → Sto → Prop} (h : l.length ≤ sizeLine) (q : Q (.lst l) S) : W (bltD true .list [.fzl l] S) Q := by
  refine ⟨_, _, ?_, q⟩
  simp only [bltD, items, Option.bind_some]
  unfold mkL
  rw [if_pos h, if_pos rfl]
theorem stream {k : Nat} {ns : List Int} {Q : D → Sto → Prop} (hl : ns.length ≤ 63) (q : ∀ o, Stm o → Q (.ref 0) [o]) : W (calls pg (k + 1) 6 [.fzl (ns.map .int)] []) Q := by
  refine call_run (di := d6) rfl (w_run rfl ?_)
  refine x_cons ?_
  (repeat (first | refine w_var rfl ?_ | refine w_cst ?_ | refine w_glob ?_ | refine w_nil ?_ | refine w_cons ?_ | refine w_bin ?_ | refine w_ix ?_ | refine w_call ?_ | refine w_blt ?_ | refine w_isi ?_ | refine w_tup ?_ | refine w_lstT ?_ | refine w_lstF ?_ | refine e_and ?_ | refine e_or ?_ | refine w_not ?_ | refine w_neg ?_ | refine w_ite ?_ | refine w_cmp ?_ | refine w_chain ?_ | refine w_slice ?_ | refine w_oN ?_ | refine w_oS ?_ | refine t_val' ?_ | refine t_cmp' ?_ | refine t_chain' ?_ | refine t_not' ?_ | refine t_and' ?_ | refine t_or' ?_ | refine ts_nil ?_ | refine ts_cons ?_ | refine x_nil ?_ | refine x_set ?_ | refine x_expr ?_ | refine x_ret ?_ | refine x_retN ?_ | refine x_ifs ?_ | refine x_setIx ?_ | refine x_unpack ?_ | refine l_add ?_ | refine l_sub ?_ | refine l_eqI ?_ | refine l_neI ?_ | refine l_eqB ?_ | refine l_neB ?_ | refine l_lt ?_ | refine l_le ?_ | refine l_gt ?_ | refine l_ge ?_ | refine ifT' rfl ?_ | refine ifF' rfl ?_ | refine ⟨_, rfl, ?_⟩ | refine ⟨rfl, ?_⟩ | refine ⟨Nat.le_of_ble_eq_true rfl, ?_⟩ | refine WC_some rfl ?_ | refine W_some rfl ?_))
  refine x_cons ?_
  refine x_for ?_
  refine r_seq ?_
  refine w_var rfl ?_
  refine WC_some rfl ?_
  refine for_inv (l := ns.map .int) (fun i env S2 => S2 = [] ∧ ∃ (m : Int) (y : Option D), env = [some (.fzl (ns.map .int)), some (.int m), y]) rfl ⟨rfl, _, _, rfl⟩ (fun i env S2 ⟨e, _⟩ => rfl) ?_ ?_
  · rintro i x env S2 hx ⟨rfl, m, y, rfl⟩
    refine ⟨_, rfl, ?_⟩
    simp only [List.getElem?_map, Option.map_eq_some_iff] at hx
    obtain ⟨c, hc, rfl⟩ := hx
    refine x_cons ?_
    (repeat (first | refine w_var rfl ?_ | refine w_cst ?_ | refine w_glob ?_ | refine w_nil ?_ | refine w_cons ?_ | refine w_bin ?_ | refine w_ix ?_ | refine w_call ?_ | refine w_blt ?_ | refine w_isi ?_ | refine w_tup ?_ | refine w_lstT ?_ | refine w_lstF ?_ | refine e_and ?_ | refine e_or ?_ | refine w_not ?_ | refine w_neg ?_ | refine w_ite ?_ | refine w_cmp ?_ | refine w_chain ?_ | refine w_slice ?_ | refine w_oN ?_ | refine w_oS ?_ | refine t_val' ?_ | refine t_cmp' ?_ | refine t_chain' ?_ | refine t_not' ?_ | refine t_and' ?_ | refine t_or' ?_ | refine ts_nil ?_ | refine ts_cons ?_ | refine x_nil ?_ | refine x_set ?_ | refine x_expr ?_ | refine x_ret ?_ | refine x_retN ?_ | refine x_ifs ?_ | refine x_setIx ?_ | refine x_unpack ?_ | refine l_add ?_ | refine l_sub ?_ | refine l_eqI ?_ | refine l_neI ?_ | refine l_eqB ?_ | refine l_neB ?_ | refine l_lt ?_ | refine l_le ?_ | refine l_gt ?_ | refine l_ge ?_ | refine ifT' rfl ?_ | refine ifF' rfl ?_ | refine ⟨_, rfl, ?_⟩ | refine ⟨rfl, ?_⟩ | refine ⟨Nat.le_of_ble_eq_true rfl, ?_⟩ | refine WC_some rfl ?_ | refine W_some rfl ?_))
    refine l_mul (.inr ⟨by decide, by decide⟩) ?_
    (repeat (first | refine w_var rfl ?_ | refine w_cst ?_ | refine w_glob ?_ | refine w_nil ?_ | refine w_cons ?_ | refine w_bin ?_ | refine w_ix ?_ | refine w_call ?_ | refine w_blt ?_ | refine w_isi ?_ | refine w_tup ?_ | refine w_lstT ?_ | refine w_lstF ?_ | refine e_and ?_ | refine e_or ?_ | refine w_not ?_ | refine w_neg ?_ | refine w_ite ?_ | refine w_cmp ?_ | refine w_chain ?_ | refine w_slice ?_ | refine w_oN ?_ | refine w_oS ?_ | refine t_val' ?_ | refine t_cmp' ?_ | refine t_chain' ?_ | refine t_not' ?_ | refine t_and' ?_ | refine t_or' ?_ | refine ts_nil ?_ | refine ts_cons ?_ | refine x_nil ?_ | refine x_set ?_ | refine x_expr ?_ | refine x_ret ?_ | refine x_retN ?_ | refine x_ifs ?_ | refine x_setIx ?_ | refine x_unpack ?_ | refine l_add ?_ | refine l_sub ?_ | refine l_eqI ?_ | refine l_neI ?_ | refine l_eqB ?_ | refine l_neB ?_ | refine l_lt ?_ | refine l_le ?_ | refine l_gt ?_ | refine l_ge ?_ | refine ifT' rfl ?_ | refine ifF' rfl ?_ | refine ⟨_, rfl, ?_⟩ | refine ⟨rfl, ?_⟩ | refine ⟨Nat.le_of_ble_eq_true rfl, ?_⟩ | refine WC_some rfl ?_ | refine W_some rfl ?_))
    exact ⟨_, _, rfl⟩
  · rintro env S2 ⟨rfl, m, y, rfl⟩
    refine x_cons ?_
    refine x_ret ?_
    refine w_lstF ?_
    refine w_cons ?_
    refine w_blt ?_
    (repeat (first | refine w_var rfl ?_ | refine w_cst ?_ | refine w_glob ?_ | refine w_nil ?_ | refine w_cons ?_ | refine w_bin ?_ | refine w_ix ?_ | refine w_call ?_ | refine w_blt ?_ | refine w_isi ?_ | refine w_tup ?_ | refine w_lstT ?_ | refine w_lstF ?_ | refine e_and ?_ | refine e_or ?_ | refine w_not ?_ | refine w_neg ?_ | refine w_ite ?_ | refine w_cmp ?_ | refine w_chain ?_ | refine w_slice ?_ | refine w_oN ?_ | refine w_oS ?_ | refine t_val' ?_ | refine t_cmp' ?_ | refine t_chain' ?_ | refine t_not' ?_ | refine t_and' ?_ | refine t_or' ?_ | refine ts_nil ?_ | refine ts_cons ?_ | refine x_nil ?_ | refine x_set ?_ | refine x_expr ?_ | refine x_ret ?_ | refine x_retN ?_ | refine x_ifs ?_ | refine x_setIx ?_ | refine x_unpack ?_ | refine l_add ?_ | refine l_sub ?_ | refine l_eqI ?_ | refine l_neI ?_ | refine l_eqB ?_ | refine l_neB ?_ | refine l_lt ?_ | refine l_le ?_ | refine l_gt ?_ | refine l_ge ?_ | refine ifT' rfl ?_ | refine ifF' rfl ?_ | refine ⟨_, rfl, ?_⟩ | refine ⟨rfl, ?_⟩ | refine ⟨Nat.le_of_ble_eq_true rfl, ?_⟩ | refine WC_some rfl ?_ | refine W_some rfl ?_))
    refine l_listF (by rw [List.length_map]; exact Nat.le_trans hl (by decide)) ?_
    (repeat (first | refine w_var rfl ?_ | refine w_cst ?_ | refine w_glob ?_ | refine w_nil ?_ | refine w_cons ?_ | refine w_bin ?_ | refine w_ix ?_ | refine w_call ?_ | refine w_blt ?_ | refine w_isi ?_ | refine w_tup ?_ | refine w_lstT ?_ | refine w_lstF ?_ | refine e_and ?_ | refine e_or ?_ | refine w_not ?_ | refine w_neg ?_ | refine w_ite ?_ | refine w_cmp ?_ | refine w_chain ?_ | refine w_slice ?_ | refine w_oN ?_ | refine w_oS ?_ | refine t_val' ?_ | refine t_cmp' ?_ | refine t_chain' ?_ | refine t_not' ?_ | refine t_and' ?_ | refine t_or' ?_ | refine ts_nil ?_ | refine ts_cons ?_ | refine x_nil ?_ | refine x_set ?_ | refine x_expr ?_ | refine x_ret ?_ | refine x_retN ?_ | refine x_ifs ?_ | refine x_setIx ?_ | refine x_unpack ?_ | refine l_add ?_ | refine l_sub ?_ | refine l_eqI ?_ | refine l_neI ?_ | refine l_eqB ?_ | refine l_neB ?_ | refine l_lt ?_ | refine l_le ?_ | refine l_gt ?_ | refine l_ge ?_ | refine ifT' rfl ?_ | refine ifF' rfl ?_ | refine ⟨_, rfl, ?_⟩ | refine ⟨rfl, ?_⟩ | refine ⟨Nat.le_of_ble_eq_true rfl, ?_⟩ | refine WC_some rfl ?_ | refine W_some rfl ?_))
    exact q _ ⟨ns, 0, 0, m, rfl, by decide⟩
/-- the symbols that are dealt out -/
def T6 : List D := [.tup [.str "a", .int 0], .tup [.str "b", .int 0], .tup [.str "f", .int 1], .tup [.str "g", .int 2], .tup [.str "h", .int 1], .tup [.str "c", .int 0]]
theorem T6_pair : T6.all pairB = true := by decide +kernel
theorem T6_nd : (T6.map nmOf).Nodup := by decide +kernel
theorem T6_gd : gds T6 = true := by decide +kernel
theorem T6_a : ∀ y ∈ T6, nmOf y = "a" → arOf y = .int 0 := by
  intro y hy
  simp only [T6, List.mem_cons, List.not_mem_nil, or_false] at hy
  rcases hy with rfl | rfl | rfl | rfl | rfl | rfl
  all_goals first
    | (intro _; rfl)
    | (intro h; exact absurd h (by decide +kernel))
theorem gds_all {l : List D} (h : ∀ x ∈ l, gd x = true) : gds l = true := by
  induction l with
  | nil => rfl
  | cons a l ih => simp [gds, h a (by simp), ih fun x hx => h x (by simp [hx])]
/-- some of the symbols are a signature -/
theorem sig_of {fl rl : List D} (hp : (rl ++ fl).Perm T6) (h0 : 0 < fl.length) : SigOk fl := by
  have hm : ∀ x ∈ fl, x ∈ T6 := fun x hx => hp.mem_iff.mp (by simp [hx])
  refine ⟨List.all_eq_true.mpr fun x hx => List.all_eq_true.mp T6_pair x (hm x hx), ?_, ?_, h0, gds_all fun x hx => gds_mem T6_gd (hm x hx)⟩
  · have h1 : ((rl ++ fl).map nmOf).Nodup := (hp.map nmOf).nodup_iff.mpr T6_nd
    rw [List.map_append, List.nodup_append] at h1
    exact h1.2.1
  · have := hp.length_eq
    rw [List.length_append] at this
    have e : T6.length = 6 := rfl
    omega
theorem SigOk.arity {sg : List D} (h : SigOk sg) {x : D} (hx : x ∈ sg) : ∃ w m, x = .tup [.str w, .int m] ∧ symB w = true ∧ 0 ≤ m ∧ m ≤ 3 := by
  obtain ⟨w, n, rfl, h1, h2⟩ := pair_cases (List.all_eq_true.mp h.all x hx)
  obtain ⟨m, rfl⟩ := whole_int h2
  simp only [wholeB, Bool.and_eq_true, decide_eq_true_eq] at h2
  exact ⟨w, m, rfl, h1, h2.1, h2.2⟩
/-- without a symbol of no arguments the first one is put in its place -/
theorem sig_set {fl rl : List D} (hp : (rl ++ fl).Perm T6) (h0 : 0 < fl.length) (hz : ∀ x ∈ fl, arOf x ≠ .int 0) : SigOk (fl.set 0 (.tup [.str "a", .int 0])) := by
  have hs := sig_of hp h0
  have hm : ∀ x ∈ fl, x ∈ T6 := fun x hx => hp.mem_iff.mp (by simp [hx])
  cases fl with
  | nil => simp at h0
  | cons f r =>
    show SigOk ((.tup [.str "a", .int 0]) :: r)
    have ha := hs.all
    rw [List.all_cons, Bool.and_eq_true] at ha
    have hg := hs.gd
    simp only [gds, Bool.and_eq_true] at hg
    refine ⟨by rw [List.all_cons, ha.2]; exact (by decide +kernel : (pairB (.tup [.str "a", .int 0]) && true) = true), ?_, hs.len, Nat.succ_pos _, ?_⟩
    · have hn := hs.nd
      rw [List.map_cons, List.nodup_cons] at hn ⊢
      refine ⟨fun z => ?_, hn.2⟩
      obtain ⟨y, hy, e⟩ := List.mem_map.mp z
      exact hz y (by simp [hy]) (T6_a y (hm y (by simp [hy])) e)
    · simp only [gds, hg.2, Bool.and_true]
      decide +kernel
theorem perm_erase {α : Type} : ∀ {l : List α} {i : Nat} (h : i < l.length), (l[i] :: l.eraseIdx i).Perm l
  | a :: l, 0, _ => List.Perm.refl _
  | a :: l, i + 1, h => by
    have ih := perm_erase (l := l) (i := i) (by simpa using h)
    show (l[i]'_ :: a :: l.eraseIdx i).Perm (a :: l)
    exact (List.Perm.swap a _ _).trans (List.Perm.cons a ih)
theorem l_pop {n : Nat} {l : List D} {r : Int} {x : D} {S : Sto} {Q : D → Sto → Prop} (hn : S[n]? = some (.lst l)) (h0 : 0 ≤ r) (h1 : r < 2 ^ 63) (hx : l[r.toNat]? = some x) (q : Q x (S.set n (.lst (l.eraseIdx r.toNat)))) : W (mthD .pop (.ref n) [.int r] S) Q := by
  refine ⟨_, _, ?_, q⟩
  simp only [mthD, hn, hx]
  rw [if_pos ⟨h0, h1⟩]
theorem l_append {n : Nat} {l : List D} {x : D} {S : Sto} {Q : D → Sto → Prop} (hn : S[n]? = some (.lst l)) (hl : l.length < sizeLine) (q : Q .non (S.set n (.lst (l ++ [x])))) : W (mthD .append (.ref n) [x] S) Q := by
  refine ⟨_, _, ?_, q⟩
  simp only [mthD, hn]
  rw [if_pos hl]
theorem l_tupleR {n : Nat} {l : List D} {fz : Bool} {S : Sto} {Q : D → Sto → Prop} (hn : S[n]? = some (.lst l)) (q : Q (.tup l) S) : W (bltD fz .tuple [.ref n] S) Q := by
  refine ⟨_, _, ?_, q⟩
  simp only [bltD, items, hn, Option.map_some]
theorem signature {k : Nat} {o : O} {Q : D → Sto → Prop} (ho : Stm o) (q : ∀ sg o', SigOk sg → Stm o' → Q (.tup sg) [o']) : W (calls pg (k + 2) 10 [.ref 0] [o]) Q := by
  refine call_run (di := d10) rfl (w_run rfl ?_)
  refine x_cons ?_
  (repeat (first | refine w_var rfl ?_ | refine w_cst ?_ | refine w_glob ?_ | refine w_nil ?_ | refine w_cons ?_ | refine w_bin ?_ | refine w_ix ?_ | refine w_call ?_ | refine w_blt ?_ | refine w_isi ?_ | refine w_tup ?_ | refine w_lstT ?_ | refine w_lstF ?_ | refine e_and ?_ | refine e_or ?_ | refine w_not ?_ | refine w_neg ?_ | refine w_ite ?_ | refine w_cmp ?_ | refine w_chain ?_ | refine w_slice ?_ | refine w_oN ?_ | refine w_oS ?_ | refine t_val' ?_ | refine t_cmp' ?_ | refine t_chain' ?_ | refine t_not' ?_ | refine t_and' ?_ | refine t_or' ?_ | refine ts_nil ?_ | refine ts_cons ?_ | refine x_nil ?_ | refine x_set ?_ | refine x_expr ?_ | refine x_ret ?_ | refine x_retN ?_ | refine x_ifs ?_ | refine x_setIx ?_ | refine x_unpack ?_ | refine l_add ?_ | refine l_sub ?_ | refine l_eqI ?_ | refine l_neI ?_ | refine l_eqB ?_ | refine l_neB ?_ | refine l_lt ?_ | refine l_le ?_ | refine l_gt ?_ | refine l_ge ?_ | refine ifT' rfl ?_ | refine ifF' rfl ?_ | refine ⟨_, rfl, ?_⟩ | refine ⟨rfl, ?_⟩ | refine ⟨Nat.le_of_ble_eq_true rfl, ?_⟩ | refine WC_some rfl ?_ | refine W_some rfl ?_))
  refine x_cons ?_
  (repeat (first | refine w_var rfl ?_ | refine w_cst ?_ | refine w_glob ?_ | refine w_nil ?_ | refine w_cons ?_ | refine w_bin ?_ | refine w_ix ?_ | refine w_call ?_ | refine w_blt ?_ | refine w_isi ?_ | refine w_tup ?_ | refine w_lstT ?_ | refine w_lstF ?_ | refine e_and ?_ | refine e_or ?_ | refine w_not ?_ | refine w_neg ?_ | refine w_ite ?_ | refine w_cmp ?_ | refine w_chain ?_ | refine w_slice ?_ | refine w_oN ?_ | refine w_oS ?_ | refine t_val' ?_ | refine t_cmp' ?_ | refine t_chain' ?_ | refine t_not' ?_ | refine t_and' ?_ | refine t_or' ?_ | refine ts_nil ?_ | refine ts_cons ?_ | refine x_nil ?_ | refine x_set ?_ | refine x_expr ?_ | refine x_ret ?_ | refine x_retN ?_ | refine x_ifs ?_ | refine x_setIx ?_ | refine x_unpack ?_ | refine l_add ?_ | refine l_sub ?_ | refine l_eqI ?_ | refine l_neI ?_ | refine l_eqB ?_ | refine l_neB ?_ | refine l_lt ?_ | refine l_le ?_ | refine l_gt ?_ | refine l_ge ?_ | refine ifT' rfl ?_ | refine ifF' rfl ?_ | refine ⟨_, rfl, ?_⟩ | refine ⟨rfl, ?_⟩ | refine ⟨Nat.le_of_ble_eq_true rfl, ?_⟩ | refine WC_some rfl ?_ | refine W_some rfl ?_))
  refine x_cons ?_
  refine x_for ?_
  refine r_rng ?_
  (repeat (first | refine w_var rfl ?_ | refine w_cst ?_ | refine w_glob ?_ | refine w_nil ?_ | refine w_cons ?_ | refine w_bin ?_ | refine w_ix ?_ | refine w_call ?_ | refine w_blt ?_ | refine w_isi ?_ | refine w_tup ?_ | refine w_lstT ?_ | refine w_lstF ?_ | refine e_and ?_ | refine e_or ?_ | refine w_not ?_ | refine w_neg ?_ | refine w_ite ?_ | refine w_cmp ?_ | refine w_chain ?_ | refine w_slice ?_ | refine w_oN ?_ | refine w_oS ?_ | refine t_val' ?_ | refine t_cmp' ?_ | refine t_chain' ?_ | refine t_not' ?_ | refine t_and' ?_ | refine t_or' ?_ | refine ts_nil ?_ | refine ts_cons ?_ | refine x_nil ?_ | refine x_set ?_ | refine x_expr ?_ | refine x_ret ?_ | refine x_retN ?_ | refine x_ifs ?_ | refine x_setIx ?_ | refine x_unpack ?_ | refine l_add ?_ | refine l_sub ?_ | refine l_eqI ?_ | refine l_neI ?_ | refine l_eqB ?_ | refine l_neB ?_ | refine l_lt ?_ | refine l_le ?_ | refine l_gt ?_ | refine l_ge ?_ | refine ifT' rfl ?_ | refine ifF' rfl ?_ | refine ⟨_, rfl, ?_⟩ | refine ⟨rfl, ?_⟩ | refine ⟨Nat.le_of_ble_eq_true rfl, ?_⟩ | refine WC_some rfl ?_ | refine W_some rfl ?_))
  refine draw ho (R := [.lst T6, .lst []]) (by decide +kernel) (by decide) (by decide) fun c o1 ho1 hc1 hc2 => ?_
  refine l_add ?_
  refine ⟨_, rfl, ⟨by omega, by omega⟩, ?_⟩
  refine for_inv (l := rngL 0 (2 + c).toNat) (fun i env S2 => ∃ o' rl fl y, Stm o' ∧ S2 = [o', .lst rl, .lst fl] ∧ (rl ++ fl).Perm T6 ∧ fl.length = i ∧ env = [some (.ref 0), some (.ref 1), some (.ref 2), y, none, none]) (by simp [rngL])
    ⟨o1, T6, [], none, ho1, rfl, by simp, rfl, rfl⟩ (fun i env S2 h => rfl) ?_ ?_
  · rintro i x env S2 hx ⟨o', rl, fl, y, ho', rfl, hp, hfl, rfl⟩
    refine ⟨_, rfl, ?_⟩
    have hi : i < (rngL 0 (2 + c).toNat).length := (List.getElem?_eq_some_iff.mp hx).1
    have hi : i < (2 + c).toNat := by simpa [rngL] using hi
    have hlen : rl.length + fl.length = 6 := by
      have := hp.length_eq
      rw [List.length_append] at this
      exact this
    have hpu : puL (rl ++ fl) = true := by
      rw [puL_mem]
      intro d hd
      exact gd_pu (gds_mem T6_gd (hp.mem_iff.mp hd))
    rw [puL_append, Bool.and_eq_true] at hpu
    refine x_cons ?_
    refine x_expr ?_
    refine w_meth ?_
    (repeat (first | refine w_var rfl ?_ | refine w_cst ?_ | refine w_glob ?_ | refine w_nil ?_ | refine w_cons ?_ | refine w_bin ?_ | refine w_ix ?_ | refine w_call ?_ | refine w_blt ?_ | refine w_isi ?_ | refine w_tup ?_ | refine w_lstT ?_ | refine w_lstF ?_ | refine e_and ?_ | refine e_or ?_ | refine w_not ?_ | refine w_neg ?_ | refine w_ite ?_ | refine w_cmp ?_ | refine w_chain ?_ | refine w_slice ?_ | refine w_oN ?_ | refine w_oS ?_ | refine t_val' ?_ | refine t_cmp' ?_ | refine t_chain' ?_ | refine t_not' ?_ | refine t_and' ?_ | refine t_or' ?_ | refine ts_nil ?_ | refine ts_cons ?_ | refine x_nil ?_ | refine x_set ?_ | refine x_expr ?_ | refine x_ret ?_ | refine x_retN ?_ | refine x_ifs ?_ | refine x_setIx ?_ | refine x_unpack ?_ | refine l_add ?_ | refine l_sub ?_ | refine l_eqI ?_ | refine l_neI ?_ | refine l_eqB ?_ | refine l_neB ?_ | refine l_lt ?_ | refine l_le ?_ | refine l_gt ?_ | refine l_ge ?_ | refine ifT' rfl ?_ | refine ifF' rfl ?_ | refine ⟨_, rfl, ?_⟩ | refine ⟨rfl, ?_⟩ | refine ⟨Nat.le_of_ble_eq_true rfl, ?_⟩ | refine WC_some rfl ?_ | refine W_some rfl ?_))
    refine w_meth ?_
    (repeat (first | refine w_var rfl ?_ | refine w_cst ?_ | refine w_glob ?_ | refine w_nil ?_ | refine w_cons ?_ | refine w_bin ?_ | refine w_ix ?_ | refine w_call ?_ | refine w_blt ?_ | refine w_isi ?_ | refine w_tup ?_ | refine w_lstT ?_ | refine w_lstF ?_ | refine e_and ?_ | refine e_or ?_ | refine w_not ?_ | refine w_neg ?_ | refine w_ite ?_ | refine w_cmp ?_ | refine w_chain ?_ | refine w_slice ?_ | refine w_oN ?_ | refine w_oS ?_ | refine t_val' ?_ | refine t_cmp' ?_ | refine t_chain' ?_ | refine t_not' ?_ | refine t_and' ?_ | refine t_or' ?_ | refine ts_nil ?_ | refine ts_cons ?_ | refine x_nil ?_ | refine x_set ?_ | refine x_expr ?_ | refine x_ret ?_ | refine x_retN ?_ | refine x_ifs ?_ | refine x_setIx ?_ | refine x_unpack ?_ | refine l_add ?_ | refine l_sub ?_ | refine l_eqI ?_ | refine l_neI ?_ | refine l_eqB ?_ | refine l_neB ?_ | refine l_lt ?_ | refine l_le ?_ | refine l_gt ?_ | refine l_ge ?_ | refine ifT' rfl ?_ | refine ifF' rfl ?_ | refine ⟨_, rfl, ?_⟩ | refine ⟨rfl, ?_⟩ | refine ⟨Nat.le_of_ble_eq_true rfl, ?_⟩ | refine WC_some rfl ?_ | refine W_some rfl ?_))
    refine draw ho' (R := [.lst rl, .lst fl]) (by simp [puO, hpu.1, hpu.2]) (by omega) (by omega) fun r o2 ho2 h1 h2 => ?_
    (repeat (first | refine w_var rfl ?_ | refine w_cst ?_ | refine w_glob ?_ | refine w_nil ?_ | refine w_cons ?_ | refine w_bin ?_ | refine w_ix ?_ | refine w_call ?_ | refine w_blt ?_ | refine w_isi ?_ | refine w_tup ?_ | refine w_lstT ?_ | refine w_lstF ?_ | refine e_and ?_ | refine e_or ?_ | refine w_not ?_ | refine w_neg ?_ | refine w_ite ?_ | refine w_cmp ?_ | refine w_chain ?_ | refine w_slice ?_ | refine w_oN ?_ | refine w_oS ?_ | refine t_val' ?_ | refine t_cmp' ?_ | refine t_chain' ?_ | refine t_not' ?_ | refine t_and' ?_ | refine t_or' ?_ | refine ts_nil ?_ | refine ts_cons ?_ | refine x_nil ?_ | refine x_set ?_ | refine x_expr ?_ | refine x_ret ?_ | refine x_retN ?_ | refine x_ifs ?_ | refine x_setIx ?_ | refine x_unpack ?_ | refine l_add ?_ | refine l_sub ?_ | refine l_eqI ?_ | refine l_neI ?_ | refine l_eqB ?_ | refine l_neB ?_ | refine l_lt ?_ | refine l_le ?_ | refine l_gt ?_ | refine l_ge ?_ | refine ifT' rfl ?_ | refine ifF' rfl ?_ | refine ⟨_, rfl, ?_⟩ | refine ⟨rfl, ?_⟩ | refine ⟨Nat.le_of_ble_eq_true rfl, ?_⟩ | refine WC_some rfl ?_ | refine W_some rfl ?_))
    have hlt : r.toNat < rl.length := by omega
    refine l_pop (n := 1) (l := rl) (x := rl[r.toNat]) rfl h1 (by omega) (List.getElem?_eq_getElem hlt) ?_
    (repeat (first | refine w_var rfl ?_ | refine w_cst ?_ | refine w_glob ?_ | refine w_nil ?_ | refine w_cons ?_ | refine w_bin ?_ | refine w_ix ?_ | refine w_call ?_ | refine w_blt ?_ | refine w_isi ?_ | refine w_tup ?_ | refine w_lstT ?_ | refine w_lstF ?_ | refine e_and ?_ | refine e_or ?_ | refine w_not ?_ | refine w_neg ?_ | refine w_ite ?_ | refine w_cmp ?_ | refine w_chain ?_ | refine w_slice ?_ | refine w_oN ?_ | refine w_oS ?_ | refine t_val' ?_ | refine t_cmp' ?_ | refine t_chain' ?_ | refine t_not' ?_ | refine t_and' ?_ | refine t_or' ?_ | refine ts_nil ?_ | refine ts_cons ?_ | refine x_nil ?_ | refine x_set ?_ | refine x_expr ?_ | refine x_ret ?_ | refine x_retN ?_ | refine x_ifs ?_ | refine x_setIx ?_ | refine x_unpack ?_ | refine l_add ?_ | refine l_sub ?_ | refine l_eqI ?_ | refine l_neI ?_ | refine l_eqB ?_ | refine l_neB ?_ | refine l_lt ?_ | refine l_le ?_ | refine l_gt ?_ | refine l_ge ?_ | refine ifT' rfl ?_ | refine ifF' rfl ?_ | refine ⟨_, rfl, ?_⟩ | refine ⟨rfl, ?_⟩ | refine ⟨Nat.le_of_ble_eq_true rfl, ?_⟩ | refine WC_some rfl ?_ | refine W_some rfl ?_))
    refine l_append (n := 2) (l := fl) rfl (Nat.lt_of_le_of_lt (show fl.length ≤ 6 by omega) (by decide)) ?_
    refine x_nil ?_
    refine ⟨o2, rl.eraseIdx r.toNat, fl ++ [rl[r.toNat]], _, ho2, rfl, ?_, by rw [List.length_append, hfl]; rfl, rfl⟩
    refine List.Perm.trans ?_ hp
    have e1 : (rl[r.toNat] :: rl.eraseIdx r.toNat).Perm rl := perm_erase hlt
    rw [← List.append_assoc]
    refine (List.perm_append_comm (l₁ := rl.eraseIdx r.toNat ++ fl) (l₂ := [rl[r.toNat]])).trans ?_
    exact List.Perm.append_right fl e1
  · rintro env S2 ⟨o', rl, fl, y, ho', rfl, hp, hfl, rfl⟩
    have hfl' : 0 < fl.length := by rw [hfl]; simp [rngL]; omega
    have hfl6 : fl.length ≤ 6 := (sig_of hp hfl').len
    have hpu : puL (rl ++ fl) = true := by
      rw [puL_mem]
      intro d hd
      exact gd_pu (gds_mem T6_gd (hp.mem_iff.mp hd))
    rw [puL_append, Bool.and_eq_true] at hpu
    have fin : ∀ (o3 : O) (g : List D), Stm o3 → SigOk g → WS (exs (ex (calls pg (k + 1)) 60) (b10.drop 4) [some (.ref 0), some (.ref 1), some (.ref 2), y, none, none] [o3, .lst rl, .lst g]) fun fl _ S1 => match fl with
      | .rt d => W (fin d10.df [o].length d S1) Q
      | .nx => W (fin d10.df [o].length .non S1) Q
      | _ => False := by
      intro o3 g h3 hg
      refine x_cons ?_
      refine x_ret ?_
      refine w_blt ?_
      (repeat (first | refine w_var rfl ?_ | refine w_cst ?_ | refine w_glob ?_ | refine w_nil ?_ | refine w_cons ?_ | refine w_bin ?_ | refine w_ix ?_ | refine w_call ?_ | refine w_blt ?_ | refine w_isi ?_ | refine w_tup ?_ | refine w_lstT ?_ | refine w_lstF ?_ | refine e_and ?_ | refine e_or ?_ | refine w_not ?_ | refine w_neg ?_ | refine w_ite ?_ | refine w_cmp ?_ | refine w_chain ?_ | refine w_slice ?_ | refine w_oN ?_ | refine w_oS ?_ | refine t_val' ?_ | refine t_cmp' ?_ | refine t_chain' ?_ | refine t_not' ?_ | refine t_and' ?_ | refine t_or' ?_ | refine ts_nil ?_ | refine ts_cons ?_ | refine x_nil ?_ | refine x_set ?_ | refine x_expr ?_ | refine x_ret ?_ | refine x_retN ?_ | refine x_ifs ?_ | refine x_setIx ?_ | refine x_unpack ?_ | refine l_add ?_ | refine l_sub ?_ | refine l_eqI ?_ | refine l_neI ?_ | refine l_eqB ?_ | refine l_neB ?_ | refine l_lt ?_ | refine l_le ?_ | refine l_gt ?_ | refine l_ge ?_ | refine ifT' rfl ?_ | refine ifF' rfl ?_ | refine ⟨_, rfl, ?_⟩ | refine ⟨rfl, ?_⟩ | refine ⟨Nat.le_of_ble_eq_true rfl, ?_⟩ | refine WC_some rfl ?_ | refine W_some rfl ?_))
      exact fin_drop (S := [o3]) (R := [.lst rl, .lst g]) rfl (by simp [h3.pu]) (gds_pu hg.gd) (q g o3 hg h3)
    refine x_cons ?_
    refine x_ifs ?_
    refine t_and' ?_
    (repeat (first | refine w_var rfl ?_ | refine w_cst ?_ | refine w_glob ?_ | refine w_nil ?_ | refine w_cons ?_ | refine w_bin ?_ | refine w_ix ?_ | refine w_call ?_ | refine w_blt ?_ | refine w_isi ?_ | refine w_tup ?_ | refine w_lstT ?_ | refine w_lstF ?_ | refine e_and ?_ | refine e_or ?_ | refine w_not ?_ | refine w_neg ?_ | refine w_ite ?_ | refine w_cmp ?_ | refine w_chain ?_ | refine w_slice ?_ | refine w_oN ?_ | refine w_oS ?_ | refine t_val' ?_ | refine t_cmp' ?_ | refine t_chain' ?_ | refine t_not' ?_ | refine t_and' ?_ | refine t_or' ?_ | refine ts_nil ?_ | refine ts_cons ?_ | refine x_nil ?_ | refine x_set ?_ | refine x_expr ?_ | refine x_ret ?_ | refine x_retN ?_ | refine x_ifs ?_ | refine x_setIx ?_ | refine x_unpack ?_ | refine l_add ?_ | refine l_sub ?_ | refine l_eqI ?_ | refine l_neI ?_ | refine l_eqB ?_ | refine l_neB ?_ | refine l_lt ?_ | refine l_le ?_ | refine l_gt ?_ | refine l_ge ?_ | refine ifT' rfl ?_ | refine ifF' rfl ?_ | refine ⟨_, rfl, ?_⟩ | refine ⟨rfl, ?_⟩ | refine ⟨Nat.le_of_ble_eq_true rfl, ?_⟩ | refine WC_some rfl ?_ | refine W_some rfl ?_))
    refine draw ho' (R := [.lst rl, .lst fl]) (by simp [puO, hpu.1, hpu.2]) (by omega) (by omega) fun r o2 ho2 h1 h2 => ?_
    (repeat (first | refine w_var rfl ?_ | refine w_cst ?_ | refine w_glob ?_ | refine w_nil ?_ | refine w_cons ?_ | refine w_bin ?_ | refine w_ix ?_ | refine w_call ?_ | refine w_blt ?_ | refine w_isi ?_ | refine w_tup ?_ | refine w_lstT ?_ | refine w_lstF ?_ | refine e_and ?_ | refine e_or ?_ | refine w_not ?_ | refine w_neg ?_ | refine w_ite ?_ | refine w_cmp ?_ | refine w_chain ?_ | refine w_slice ?_ | refine w_oN ?_ | refine w_oS ?_ | refine t_val' ?_ | refine t_cmp' ?_ | refine t_chain' ?_ | refine t_not' ?_ | refine t_and' ?_ | refine t_or' ?_ | refine ts_nil ?_ | refine ts_cons ?_ | refine x_nil ?_ | refine x_set ?_ | refine x_expr ?_ | refine x_ret ?_ | refine x_retN ?_ | refine x_ifs ?_ | refine x_setIx ?_ | refine x_unpack ?_ | refine l_add ?_ | refine l_sub ?_ | refine l_eqI ?_ | refine l_neI ?_ | refine l_eqB ?_ | refine l_neB ?_ | refine l_lt ?_ | refine l_le ?_ | refine l_gt ?_ | refine l_ge ?_ | refine ifT' rfl ?_ | refine ifF' rfl ?_ | refine ⟨_, rfl, ?_⟩ | refine ⟨rfl, ?_⟩ | refine ⟨Nat.le_of_ble_eq_true rfl, ?_⟩ | refine WC_some rfl ?_ | refine W_some rfl ?_))
    refine ifB (fun hr => ?_) (fun hr => ?_)
    · refine t_not' ?_
      refine t_val' ?_
      refine w_blt ?_
      refine w_cons ?_
      refine w_mapR fl (fl.map fun x => .bl (intOf (arOf x) == 0)) (Nat.le_trans hfl6 (by decide)) (by simp) (r_seq (w_var rfl (WC_some rfl ⟨rfl, rfl, fun i x z hx hz => ?_, ?_⟩)))
      · obtain ⟨w, m, rfl, _⟩ := (sig_of hp hfl').arity (List.mem_of_getElem? hx)
        refine ⟨_, rfl, ?_⟩
        simp only [List.getElem?_map, hx, Option.map_some, Option.some.injEq] at hz
        subst hz
        (repeat (first | refine w_var rfl ?_ | refine w_cst ?_ | refine w_glob ?_ | refine w_nil ?_ | refine w_cons ?_ | refine w_bin ?_ | refine w_ix ?_ | refine w_call ?_ | refine w_blt ?_ | refine w_isi ?_ | refine w_tup ?_ | refine w_lstT ?_ | refine w_lstF ?_ | refine e_and ?_ | refine e_or ?_ | refine w_not ?_ | refine w_neg ?_ | refine w_ite ?_ | refine w_cmp ?_ | refine w_chain ?_ | refine w_slice ?_ | refine w_oN ?_ | refine w_oS ?_ | refine t_val' ?_ | refine t_cmp' ?_ | refine t_chain' ?_ | refine t_not' ?_ | refine t_and' ?_ | refine t_or' ?_ | refine ts_nil ?_ | refine ts_cons ?_ | refine x_nil ?_ | refine x_set ?_ | refine x_expr ?_ | refine x_ret ?_ | refine x_retN ?_ | refine x_ifs ?_ | refine x_setIx ?_ | refine x_unpack ?_ | refine l_add ?_ | refine l_sub ?_ | refine l_eqI ?_ | refine l_neI ?_ | refine l_eqB ?_ | refine l_neB ?_ | refine l_lt ?_ | refine l_le ?_ | refine l_gt ?_ | refine l_ge ?_ | refine ifT' rfl ?_ | refine ifF' rfl ?_ | refine ⟨_, rfl, ?_⟩ | refine ⟨rfl, ?_⟩ | refine ⟨Nat.le_of_ble_eq_true rfl, ?_⟩ | refine WC_some rfl ?_ | refine W_some rfl ?_))
        exact rfl
      refine w_nil ?_
      refine l_any ?_
      refine WC_some rfl ?_
      refine ifB (fun ha => ?_) (fun ha => ?_)
      · have ha' : (fl.any fun x => intOf (arOf x) == 0) = false := by simpa only [Bool.not_eq_true'] using ha
        refine x_cons ?_
        (repeat (first | refine w_var rfl ?_ | refine w_cst ?_ | refine w_glob ?_ | refine w_nil ?_ | refine w_cons ?_ | refine w_bin ?_ | refine w_ix ?_ | refine w_call ?_ | refine w_blt ?_ | refine w_isi ?_ | refine w_tup ?_ | refine w_lstT ?_ | refine w_lstF ?_ | refine e_and ?_ | refine e_or ?_ | refine w_not ?_ | refine w_neg ?_ | refine w_ite ?_ | refine w_cmp ?_ | refine w_chain ?_ | refine w_slice ?_ | refine w_oN ?_ | refine w_oS ?_ | refine t_val' ?_ | refine t_cmp' ?_ | refine t_chain' ?_ | refine t_not' ?_ | refine t_and' ?_ | refine t_or' ?_ | refine ts_nil ?_ | refine ts_cons ?_ | refine x_nil ?_ | refine x_set ?_ | refine x_expr ?_ | refine x_ret ?_ | refine x_retN ?_ | refine x_ifs ?_ | refine x_setIx ?_ | refine x_unpack ?_ | refine l_add ?_ | refine l_sub ?_ | refine l_eqI ?_ | refine l_neI ?_ | refine l_eqB ?_ | refine l_neB ?_ | refine l_lt ?_ | refine l_le ?_ | refine l_gt ?_ | refine l_ge ?_ | refine ifT' rfl ?_ | refine ifF' rfl ?_ | refine ⟨_, rfl, ?_⟩ | refine ⟨rfl, ?_⟩ | refine ⟨Nat.le_of_ble_eq_true rfl, ?_⟩ | refine WC_some rfl ?_ | refine W_some rfl ?_))
        refine WC_some (d := [o2, .lst rl, .lst (fl.set 0 (.tup [.str "a", .int 0]))]) (by simp [setIxD, L2.ixN, hfl']) ?_
        refine x_nil ?_
        refine fin o2 (fl.set 0 (.tup [.str "a", .int 0])) ho2 (sig_set hp hfl' fun x hx z => ?_)
        rw [List.any_eq_false] at ha'
        exact ha' x hx (by rw [z]; rfl)
      · refine x_nil ?_
        exact fin o2 fl ho2 (sig_of hp hfl')
    · refine ifF' rfl ?_
      refine x_nil ?_
      exact fin o2 fl ho2 (sig_of hp hfl')
end Tt.L
end

section
/-! k16: automata that are drawn. -/
namespace Tt.L
open PySem Tt Tt.P L2
theorem look_mem {kvs : List (Key × D)} (hn : (kvs.map (·.1)).Nodup) {p : Key × D} (hp : p ∈ kvs) : lookK kvs p.1 = some p.2 := by
  induction kvs with
  | nil => cases hp
  | cons a l ih =>
    rw [List.map_cons, List.nodup_cons] at hn
    unfold lookK
    rw [List.find?_cons]
    by_cases h : a.1 = p.1
    · rw [decide_eq_true h]
      rcases List.mem_cons.mp hp with e | hp
      · subst e; rfl
      · exact absurd (by rw [h]; exact List.mem_map_of_mem hp) hn.1
    · rw [decide_eq_false h]
      rcases List.mem_cons.mp hp with e | hp
      · subst e; exact absurd rfl h
      · exact ih hn.2 hp
theorem SigOk.look {sg : List D} (h : SigOk sg) {w : Str} {m : Int} (hx : D.tup [.str w, .int m] ∈ sg) : lookK (L.tab sg) (.inr w) = some (.int m) := by
  rw [h.tab]
  have e : (kvsOf sg).map (·.1) = (sg.map nmOf).map Sum.inr := by simp [kvsOf]
  exact look_mem (by rw [e, nodup_inr]; exact h.nd) (p := (.inr w, .int m)) (List.mem_map.mpr ⟨_, hx, rfl⟩)
theorem symB_gd {w : Str} (h : symB w = true) : gd (.str w) = true := by
  unfold symB at h
  simp only [Bool.and_eq_true, decide_eq_true_eq, List.all_eq_true] at h
  obtain ⟨⟨⟨⟨h1, h2⟩, _⟩, _⟩, h5⟩ := h
  have hz : w.cps.size ≤ 100 := by have : (w.cps.size : Int) ≤ 8 := h2; omega
  have hgo : ∀ c ∈ GO, c < 0x110000 := by decide +kernel
  simp only [gd, Bool.and_eq_true, decide_eq_true_eq]
  refine ⟨?_, hz⟩
  rw [← Array.all_toList, List.all_eq_true]
  intro c hc
  have := of_decide_eq_true (h5 c hc)
  exact decide_eq_true (hgo c this)
theorem rng_get {n i : Nat} {x : D} (h : (rngL 0 n)[i]? = some x) : i < n ∧ x = .int (i : Int) := by
  have hi : i < (rngL 0 n).length := (List.getElem?_eq_some_iff.mp h).1
  have hi : i < n := by simpa [rngL] using hi
  simp only [rngL, List.getElem?_map, List.getElem?_range hi, Option.map_some, Option.some.injEq] at h
  exact ⟨hi, by rw [← h]; simp⟩
/-- a number that is drawn, as a state -/
def isSt (many : Int) (x : D) : Prop := ∃ r : Int, x = .int r ∧ 0 ≤ r ∧ r < many
theorem isSt.whole {many : Int} {x : D} (h : isSt many x) : wholeB x (many - 1) = true := by
  obtain ⟨r, rfl, h1, h2⟩ := h
  simp [wholeB, h1]; omega
theorem isSt.gd {many : Int} {x : D} (h : isSt many x) : gd x = true := by
  obtain ⟨r, rfl, _⟩ := h
  rfl
def goodMv (sg : List D) (many : Int) (x : D) : Prop := moveB (tab sg) many x = true ∧ Tt.L.gd x = true
theorem moveB_eq2 {tab : List (Key × D)} {many m : Int} {w : Str} {args : List D} {st : D} (hk : lookK tab (.inr w) = some (.int m)) :
    moveB tab many (.tup [.str w, .tup args, st]) = (((args.length : Int) == m) && (args ++ [st]).all fun s => wholeB s (many - 1)) := by
  show (match lookK tab (.inr w) with | some (.int m) => ((args.length : Int) == m) && (args ++ [st]).all fun s => wholeB s (many - 1) | _ => false) = _
  rw [hk]
/-- a move that is drawn -/
theorem move_ok {sg acc : List D} {w : Str} {m many r : Int} (hs : SigOk sg) (hx : D.tup [.str w, .int m] ∈ sg) (ha : ∀ x ∈ acc, isSt many x) (hl : (acc.length : Int) = m) (hr : isSt many (.int r)) :
    goodMv sg many (.tup [.str w, .tup acc, .int r]) := by
  obtain ⟨w', m', e, h1, h2, h3⟩ := hs.arity hx
  cases e
  refine ⟨?_, ?_⟩
  · rw [moveB_eq2 (hs.look hx), hl]
    simp only [beq_self_eq_true, Bool.true_and, List.all_eq_true]
    intro x hx
    rcases List.mem_append.mp hx with z | z
    · exact (ha x z).whole
    · have : x = .int r := by simpa using z
      subst this; exact hr.whole
  · have hg : gds acc = true := gds_all fun x hx => (ha x hx).gd
    have h60 : acc.length ≤ 60 := by omega
    have hw := symB_gd h1
    simp only [gd, Bool.and_eq_true, decide_eq_true_eq] at hw
    simp [gd, gds, hg, h60, hw.1, hw.2]
end Tt.L
end

section
/-! k16: an automaton is drawn. -/
namespace Tt.L
open PySem Tt Tt.P L2
theorem l_mkT {l : List D} {S : Sto} {Q : D → Sto → Prop} (h : l.length ≤ sizeLine) (q : Q (.lst l) S) : W (mkL true l S) Q := by
  refine ⟨_, _, ?_, q⟩
  unfold mkL
  rw [if_pos h, if_pos rfl]
theorem goodMv_gds {sg ml : List D} {many : Int} (h : ∀ x ∈ ml, goodMv sg many x) : gds ml = true := gds_all fun x hx => (h x hx).2
theorem automaton {k : Nat} {sg : List D} {o : O} {Q : D → Sto → Prop} (hs : SigOk sg) (ho : Stm o)
    (q : ∀ (v : D) o', Stm o' → autB sg v = true → (∃ (many : Int) (ml el : List D), v = .tup [.int many, .tup ml, .tup el] ∧ ml.length ≤ 10 ∧ el.length ≤ 10 ∧ (∀ x ∈ ml, goodMv sg many x) ∧ gds el = true) → Q v [o']) :
    W (calls pg (k + 3) 11 [.ref 0, .tup sg] [o]) Q := by
  refine call_run (di := d11) rfl (w_run rfl ?_)
  refine x_cons ?_
  refine x_set ?_
  refine w_bin ?_
  (repeat (first | refine w_var rfl ?_ | refine w_cst ?_ | refine w_glob ?_ | refine w_nil ?_ | refine w_cons ?_ | refine w_bin ?_ | refine w_ix ?_ | refine w_call ?_ | refine w_blt ?_ | refine w_isi ?_ | refine w_tup ?_ | refine w_lstT ?_ | refine w_lstF ?_ | refine e_and ?_ | refine e_or ?_ | refine w_not ?_ | refine w_neg ?_ | refine w_ite ?_ | refine w_cmp ?_ | refine w_chain ?_ | refine w_slice ?_ | refine w_oN ?_ | refine w_oS ?_ | refine t_val' ?_ | refine t_cmp' ?_ | refine t_chain' ?_ | refine t_not' ?_ | refine t_and' ?_ | refine t_or' ?_ | refine ts_nil ?_ | refine ts_cons ?_ | refine x_nil ?_ | refine x_set ?_ | refine x_expr ?_ | refine x_ret ?_ | refine x_retN ?_ | refine x_ifs ?_ | refine x_setIx ?_ | refine x_unpack ?_ | refine l_add ?_ | refine l_sub ?_ | refine l_eqI ?_ | refine l_neI ?_ | refine l_eqB ?_ | refine l_neB ?_ | refine l_lt ?_ | refine l_le ?_ | refine l_gt ?_ | refine l_ge ?_ | refine ifT' rfl ?_ | refine ifF' rfl ?_ | refine ⟨_, rfl, ?_⟩ | refine ⟨rfl, ?_⟩ | refine ⟨Nat.le_of_ble_eq_true rfl, ?_⟩ | refine WC_some rfl ?_ | refine W_some rfl ?_))
  refine draw ho (R := []) rfl (by decide) (by decide) fun c o1 ho1 hc1 hc2 => ?_
  refine l_add ?_
  generalize hmany : (1 + c : Int) = many
  have hm1 : 1 ≤ many := by omega
  have hm4 : many ≤ 4 := by omega
  refine x_cons ?_
  (repeat (first | refine w_var rfl ?_ | refine w_cst ?_ | refine w_glob ?_ | refine w_nil ?_ | refine w_cons ?_ | refine w_bin ?_ | refine w_ix ?_ | refine w_call ?_ | refine w_blt ?_ | refine w_isi ?_ | refine w_tup ?_ | refine w_lstT ?_ | refine w_lstF ?_ | refine e_and ?_ | refine e_or ?_ | refine w_not ?_ | refine w_neg ?_ | refine w_ite ?_ | refine w_cmp ?_ | refine w_chain ?_ | refine w_slice ?_ | refine w_oN ?_ | refine w_oS ?_ | refine t_val' ?_ | refine t_cmp' ?_ | refine t_chain' ?_ | refine t_not' ?_ | refine t_and' ?_ | refine t_or' ?_ | refine ts_nil ?_ | refine ts_cons ?_ | refine x_nil ?_ | refine x_set ?_ | refine x_expr ?_ | refine x_ret ?_ | refine x_retN ?_ | refine x_ifs ?_ | refine x_setIx ?_ | refine x_unpack ?_ | refine l_add ?_ | refine l_sub ?_ | refine l_eqI ?_ | refine l_neI ?_ | refine l_eqB ?_ | refine l_neB ?_ | refine l_lt ?_ | refine l_le ?_ | refine l_gt ?_ | refine l_ge ?_ | refine ifT' rfl ?_ | refine ifF' rfl ?_ | refine ⟨_, rfl, ?_⟩ | refine ⟨rfl, ?_⟩ | refine ⟨Nat.le_of_ble_eq_true rfl, ?_⟩ | refine WC_some rfl ?_ | refine W_some rfl ?_))
  refine x_cons ?_
  refine x_for ?_
  refine r_rng ?_
  (repeat (first | refine w_var rfl ?_ | refine w_cst ?_ | refine w_glob ?_ | refine w_nil ?_ | refine w_cons ?_ | refine w_bin ?_ | refine w_ix ?_ | refine w_call ?_ | refine w_blt ?_ | refine w_isi ?_ | refine w_tup ?_ | refine w_lstT ?_ | refine w_lstF ?_ | refine e_and ?_ | refine e_or ?_ | refine w_not ?_ | refine w_neg ?_ | refine w_ite ?_ | refine w_cmp ?_ | refine w_chain ?_ | refine w_slice ?_ | refine w_oN ?_ | refine w_oS ?_ | refine t_val' ?_ | refine t_cmp' ?_ | refine t_chain' ?_ | refine t_not' ?_ | refine t_and' ?_ | refine t_or' ?_ | refine ts_nil ?_ | refine ts_cons ?_ | refine x_nil ?_ | refine x_set ?_ | refine x_expr ?_ | refine x_ret ?_ | refine x_retN ?_ | refine x_ifs ?_ | refine x_setIx ?_ | refine x_unpack ?_ | refine l_add ?_ | refine l_sub ?_ | refine l_eqI ?_ | refine l_neI ?_ | refine l_eqB ?_ | refine l_neB ?_ | refine l_lt ?_ | refine l_le ?_ | refine l_gt ?_ | refine l_ge ?_ | refine ifT' rfl ?_ | refine ifF' rfl ?_ | refine ⟨_, rfl, ?_⟩ | refine ⟨rfl, ?_⟩ | refine ⟨Nat.le_of_ble_eq_true rfl, ?_⟩ | refine WC_some rfl ?_ | refine W_some rfl ?_))
  refine draw ho1 (R := [.lst []]) rfl (by decide) (by decide) fun c2 o2 ho2 h1 h2 => ?_
  refine l_add ?_
  refine ⟨_, rfl, ⟨by omega, by omega⟩, ?_⟩
  refine for_inv (l := rngL 0 (2 + c2).toNat) (fun i env S2 => ∃ o' ml y4 y5 y6, Stm o' ∧ S2 = [o', .lst ml] ∧ (∀ x ∈ ml, goodMv sg many x) ∧ ml.length = i ∧ env = [some (.ref 0), some (.tup sg), some (.int many), some (.ref 1), y4, y5, y6, none, none]) (by simp [rngL])
    ⟨o2, [], none, none, none, ho2, rfl, by simp, rfl, rfl⟩ (fun i env S2 h => rfl) ?_ ?_
  · rintro i x env S2 hx ⟨o', ml, y4, y5, y6, ho', rfl, hml, hlen, rfl⟩
    obtain ⟨hi, _⟩ := rng_get hx
    refine ⟨_, rfl, ?_⟩
    have hpu : puL ml = true := gds_pu (goodMv_gds hml)
    have hR : ([O.lst ml] : Sto).all puO = true := by simp [puO, hpu]
    refine x_cons ?_
    refine x_unpack ?_
    refine w_call ?_
    (repeat (first | refine w_var rfl ?_ | refine w_cst ?_ | refine w_glob ?_ | refine w_nil ?_ | refine w_cons ?_ | refine w_bin ?_ | refine w_ix ?_ | refine w_call ?_ | refine w_blt ?_ | refine w_isi ?_ | refine w_tup ?_ | refine w_lstT ?_ | refine w_lstF ?_ | refine e_and ?_ | refine e_or ?_ | refine w_not ?_ | refine w_neg ?_ | refine w_ite ?_ | refine w_cmp ?_ | refine w_chain ?_ | refine w_slice ?_ | refine w_oN ?_ | refine w_oS ?_ | refine t_val' ?_ | refine t_cmp' ?_ | refine t_chain' ?_ | refine t_not' ?_ | refine t_and' ?_ | refine t_or' ?_ | refine ts_nil ?_ | refine ts_cons ?_ | refine x_nil ?_ | refine x_set ?_ | refine x_expr ?_ | refine x_ret ?_ | refine x_retN ?_ | refine x_ifs ?_ | refine x_setIx ?_ | refine x_unpack ?_ | refine l_add ?_ | refine l_sub ?_ | refine l_eqI ?_ | refine l_neI ?_ | refine l_eqB ?_ | refine l_neB ?_ | refine l_lt ?_ | refine l_le ?_ | refine l_gt ?_ | refine l_ge ?_ | refine ifT' rfl ?_ | refine ifF' rfl ?_ | refine ⟨_, rfl, ?_⟩ | refine ⟨rfl, ?_⟩ | refine ⟨Nat.le_of_ble_eq_true rfl, ?_⟩ | refine WC_some rfl ?_ | refine W_some rfl ?_))
    refine pick (R := [.lst ml]) (.inr rfl) hs.pos (Nat.lt_of_le_of_lt hs.len (by decide)) (gds_pu hs.gd) ho' hR fun j d o3 ho3 hd => ?_
    obtain ⟨w, m, rfl, hw, hm0, hm3⟩ := hs.arity (List.mem_of_getElem? hd)
    refine ⟨_, _, rfl, rfl, ?_⟩
    refine x_cons ?_
    refine x_expr ?_
    refine w_meth ?_
    (repeat (first | refine w_var rfl ?_ | refine w_cst ?_ | refine w_glob ?_ | refine w_nil ?_ | refine w_cons ?_ | refine w_bin ?_ | refine w_ix ?_ | refine w_call ?_ | refine w_blt ?_ | refine w_isi ?_ | refine w_tup ?_ | refine w_lstT ?_ | refine w_lstF ?_ | refine e_and ?_ | refine e_or ?_ | refine w_not ?_ | refine w_neg ?_ | refine w_ite ?_ | refine w_cmp ?_ | refine w_chain ?_ | refine w_slice ?_ | refine w_oN ?_ | refine w_oS ?_ | refine t_val' ?_ | refine t_cmp' ?_ | refine t_chain' ?_ | refine t_not' ?_ | refine t_and' ?_ | refine t_or' ?_ | refine ts_nil ?_ | refine ts_cons ?_ | refine x_nil ?_ | refine x_set ?_ | refine x_expr ?_ | refine x_ret ?_ | refine x_retN ?_ | refine x_ifs ?_ | refine x_setIx ?_ | refine x_unpack ?_ | refine l_add ?_ | refine l_sub ?_ | refine l_eqI ?_ | refine l_neI ?_ | refine l_eqB ?_ | refine l_neB ?_ | refine l_lt ?_ | refine l_le ?_ | refine l_gt ?_ | refine l_ge ?_ | refine ifT' rfl ?_ | refine ifF' rfl ?_ | refine ⟨_, rfl, ?_⟩ | refine ⟨rfl, ?_⟩ | refine ⟨Nat.le_of_ble_eq_true rfl, ?_⟩ | refine WC_some rfl ?_ | refine W_some rfl ?_))
    refine w_comp ?_
    refine r_rng ?_
    (repeat (first | refine w_var rfl ?_ | refine w_cst ?_ | refine w_glob ?_ | refine w_nil ?_ | refine w_cons ?_ | refine w_bin ?_ | refine w_ix ?_ | refine w_call ?_ | refine w_blt ?_ | refine w_isi ?_ | refine w_tup ?_ | refine w_lstT ?_ | refine w_lstF ?_ | refine e_and ?_ | refine e_or ?_ | refine w_not ?_ | refine w_neg ?_ | refine w_ite ?_ | refine w_cmp ?_ | refine w_chain ?_ | refine w_slice ?_ | refine w_oN ?_ | refine w_oS ?_ | refine t_val' ?_ | refine t_cmp' ?_ | refine t_chain' ?_ | refine t_not' ?_ | refine t_and' ?_ | refine t_or' ?_ | refine ts_nil ?_ | refine ts_cons ?_ | refine x_nil ?_ | refine x_set ?_ | refine x_expr ?_ | refine x_ret ?_ | refine x_retN ?_ | refine x_ifs ?_ | refine x_setIx ?_ | refine x_unpack ?_ | refine l_add ?_ | refine l_sub ?_ | refine l_eqI ?_ | refine l_neI ?_ | refine l_eqB ?_ | refine l_neB ?_ | refine l_lt ?_ | refine l_le ?_ | refine l_gt ?_ | refine l_ge ?_ | refine ifT' rfl ?_ | refine ifF' rfl ?_ | refine ⟨_, rfl, ?_⟩ | refine ⟨rfl, ?_⟩ | refine ⟨Nat.le_of_ble_eq_true rfl, ?_⟩ | refine WC_some rfl ?_ | refine W_some rfl ?_))
    refine ⟨⟨by omega, by omega⟩, ?_⟩
    refine lc_inv (l := rngL 0 m.toNat) (fun i acc S2 => ∃ o', Stm o' ∧ S2 = [o', .lst ml] ∧ (∀ x ∈ acc, isSt many x) ∧ acc.length = i) (by simp [rngL]) ⟨o3, ho3, rfl, by simp, rfl⟩ (fun i acc S2 h => rfl) ?_ ?_
    · rintro i2 x2 acc S2 hx2 ⟨o4, ho4, rfl, hacc, hal⟩
      obtain ⟨hi2, _⟩ := rng_get hx2
      refine ⟨_, rfl, ?_⟩
      refine w_body (ts_nil (iteT ?_))
      refine w_call ?_
      (repeat (first | refine w_var rfl ?_ | refine w_cst ?_ | refine w_glob ?_ | refine w_nil ?_ | refine w_cons ?_ | refine w_bin ?_ | refine w_ix ?_ | refine w_call ?_ | refine w_blt ?_ | refine w_isi ?_ | refine w_tup ?_ | refine w_lstT ?_ | refine w_lstF ?_ | refine e_and ?_ | refine e_or ?_ | refine w_not ?_ | refine w_neg ?_ | refine w_ite ?_ | refine w_cmp ?_ | refine w_chain ?_ | refine w_slice ?_ | refine w_oN ?_ | refine w_oS ?_ | refine t_val' ?_ | refine t_cmp' ?_ | refine t_chain' ?_ | refine t_not' ?_ | refine t_and' ?_ | refine t_or' ?_ | refine ts_nil ?_ | refine ts_cons ?_ | refine x_nil ?_ | refine x_set ?_ | refine x_expr ?_ | refine x_ret ?_ | refine x_retN ?_ | refine x_ifs ?_ | refine x_setIx ?_ | refine x_unpack ?_ | refine l_add ?_ | refine l_sub ?_ | refine l_eqI ?_ | refine l_neI ?_ | refine l_eqB ?_ | refine l_neB ?_ | refine l_lt ?_ | refine l_le ?_ | refine l_gt ?_ | refine l_ge ?_ | refine ifT' rfl ?_ | refine ifF' rfl ?_ | refine ⟨_, rfl, ?_⟩ | refine ⟨rfl, ?_⟩ | refine ⟨Nat.le_of_ble_eq_true rfl, ?_⟩ | refine WC_some rfl ?_ | refine W_some rfl ?_))
      refine draw ho4 (R := [.lst ml]) hR (by omega) (by omega) fun r o5 ho5 hr1 hr2 => ?_
      refine ⟨Nat.lt_of_le_of_lt (show acc.length ≤ 3 by omega) (by decide), o5, ho5, rfl, fun x hx => ?_, by rw [List.length_append, hal]; rfl⟩
      rcases List.mem_append.mp hx with z | z
      · exact hacc x z
      · have : x = .int r := by simpa using z
        subst this; exact ⟨r, rfl, hr1, hr2⟩
    · rintro acc S2 ⟨o4, ho4, rfl, hacc, hal⟩
      have hal : acc.length = m.toNat := by rw [hal]; simp [rngL]
      refine l_mkT (Nat.le_trans (show acc.length ≤ 3 by omega) (by decide)) ?_
      (repeat (first | refine w_var rfl ?_ | refine w_cst ?_ | refine w_glob ?_ | refine w_nil ?_ | refine w_cons ?_ | refine w_bin ?_ | refine w_ix ?_ | refine w_call ?_ | refine w_blt ?_ | refine w_isi ?_ | refine w_tup ?_ | refine w_lstT ?_ | refine w_lstF ?_ | refine e_and ?_ | refine e_or ?_ | refine w_not ?_ | refine w_neg ?_ | refine w_ite ?_ | refine w_cmp ?_ | refine w_chain ?_ | refine w_slice ?_ | refine w_oN ?_ | refine w_oS ?_ | refine t_val' ?_ | refine t_cmp' ?_ | refine t_chain' ?_ | refine t_not' ?_ | refine t_and' ?_ | refine t_or' ?_ | refine ts_nil ?_ | refine ts_cons ?_ | refine x_nil ?_ | refine x_set ?_ | refine x_expr ?_ | refine x_ret ?_ | refine x_retN ?_ | refine x_ifs ?_ | refine x_setIx ?_ | refine x_unpack ?_ | refine l_add ?_ | refine l_sub ?_ | refine l_eqI ?_ | refine l_neI ?_ | refine l_eqB ?_ | refine l_neB ?_ | refine l_lt ?_ | refine l_le ?_ | refine l_gt ?_ | refine l_ge ?_ | refine ifT' rfl ?_ | refine ifF' rfl ?_ | refine ⟨_, rfl, ?_⟩ | refine ⟨rfl, ?_⟩ | refine ⟨Nat.le_of_ble_eq_true rfl, ?_⟩ | refine WC_some rfl ?_ | refine W_some rfl ?_))
      refine draw ho4 (R := [.lst ml]) hR (by omega) (by omega) fun r o5 ho5 hr1 hr2 => ?_
      (repeat (first | refine w_var rfl ?_ | refine w_cst ?_ | refine w_glob ?_ | refine w_nil ?_ | refine w_cons ?_ | refine w_bin ?_ | refine w_ix ?_ | refine w_call ?_ | refine w_blt ?_ | refine w_isi ?_ | refine w_tup ?_ | refine w_lstT ?_ | refine w_lstF ?_ | refine e_and ?_ | refine e_or ?_ | refine w_not ?_ | refine w_neg ?_ | refine w_ite ?_ | refine w_cmp ?_ | refine w_chain ?_ | refine w_slice ?_ | refine w_oN ?_ | refine w_oS ?_ | refine t_val' ?_ | refine t_cmp' ?_ | refine t_chain' ?_ | refine t_not' ?_ | refine t_and' ?_ | refine t_or' ?_ | refine ts_nil ?_ | refine ts_cons ?_ | refine x_nil ?_ | refine x_set ?_ | refine x_expr ?_ | refine x_ret ?_ | refine x_retN ?_ | refine x_ifs ?_ | refine x_setIx ?_ | refine x_unpack ?_ | refine l_add ?_ | refine l_sub ?_ | refine l_eqI ?_ | refine l_neI ?_ | refine l_eqB ?_ | refine l_neB ?_ | refine l_lt ?_ | refine l_le ?_ | refine l_gt ?_ | refine l_ge ?_ | refine ifT' rfl ?_ | refine ifF' rfl ?_ | refine ⟨_, rfl, ?_⟩ | refine ⟨rfl, ?_⟩ | refine ⟨Nat.le_of_ble_eq_true rfl, ?_⟩ | refine WC_some rfl ?_ | refine W_some rfl ?_))
      refine l_append (n := 1) (l := ml) rfl (Nat.lt_of_le_of_lt (show ml.length ≤ 8 by omega) (by decide)) ?_
      refine x_nil ?_
      refine ⟨o5, ml ++ [.tup [.str w, .tup acc, .int r]], _, _, _, ho5, rfl, fun x hx => ?_, by rw [List.length_append, hlen]; rfl, rfl⟩
      rcases List.mem_append.mp hx with z | z
      · exact hml x z
      · have : x = .tup [.str w, .tup acc, .int r] := by simpa using z
        subst this
        exact move_ok hs (List.mem_of_getElem? hd) hacc (by omega) ⟨r, rfl, hr1, hr2⟩
  · rintro env S2 ⟨o', ml, y4, y5, y6, ho', rfl, hml, hlen, rfl⟩
    have hml8 : ml.length ≤ 8 := by rw [hlen]; simp [rngL]; omega
    have hpu : puL ml = true := gds_pu (goodMv_gds hml)
    have hR : ([O.lst ml] : Sto).all puO = true := by simp [puO, hpu]
    refine x_cons ?_
    refine x_ret ?_
    refine w_tup ?_
    refine w_cons ?_
    refine w_var rfl ?_
    refine w_cons ?_
    refine w_blt ?_
    refine w_cons ?_
    refine w_var rfl ?_
    refine w_nil ?_
    refine l_tupleR (n := 1) (l := ml) rfl ?_
    refine w_cons ?_
    refine w_blt ?_
    refine w_cons ?_
    refine w_comp ?_
    refine r_rng ?_
    refine w_var rfl ?_
    refine ⟨_, rfl, ⟨by omega, by omega⟩, ?_⟩
    refine lc_inv (l := rngL 0 many.toNat) (fun i acc S2 => ∃ o' es, Stm o' ∧ S2 = [o', .lst ml] ∧ acc = es.map .int ∧ es.Pairwise (· < ·) ∧ (∀ e ∈ es, 0 ≤ e ∧ e < (i : Int)) ∧ es.length ≤ i) (by simp [rngL]) ⟨o', [], ho', rfl, rfl, by simp, by simp, by simp⟩ (fun i acc S2 h => rfl) ?_ ?_
    · rintro i2 x2 acc S2 hx2 ⟨o4, es, ho4, rfl, rfl, hes, hb, hel⟩
      obtain ⟨hi2, rfl⟩ := rng_get hx2
      refine ⟨_, rfl, ?_⟩
      refine w_body (ts_cons ?_)
      refine t_cmp' ?_
      refine w_call ?_
      (repeat (first | refine w_var rfl ?_ | refine w_cst ?_ | refine w_glob ?_ | refine w_nil ?_ | refine w_cons ?_ | refine w_bin ?_ | refine w_ix ?_ | refine w_call ?_ | refine w_blt ?_ | refine w_isi ?_ | refine w_tup ?_ | refine w_lstT ?_ | refine w_lstF ?_ | refine e_and ?_ | refine e_or ?_ | refine w_not ?_ | refine w_neg ?_ | refine w_ite ?_ | refine w_cmp ?_ | refine w_chain ?_ | refine w_slice ?_ | refine w_oN ?_ | refine w_oS ?_ | refine t_val' ?_ | refine t_cmp' ?_ | refine t_chain' ?_ | refine t_not' ?_ | refine t_and' ?_ | refine t_or' ?_ | refine ts_nil ?_ | refine ts_cons ?_ | refine x_nil ?_ | refine x_set ?_ | refine x_expr ?_ | refine x_ret ?_ | refine x_retN ?_ | refine x_ifs ?_ | refine x_setIx ?_ | refine x_unpack ?_ | refine l_add ?_ | refine l_sub ?_ | refine l_eqI ?_ | refine l_neI ?_ | refine l_eqB ?_ | refine l_neB ?_ | refine l_lt ?_ | refine l_le ?_ | refine l_gt ?_ | refine l_ge ?_ | refine ifT' rfl ?_ | refine ifF' rfl ?_ | refine ⟨_, rfl, ?_⟩ | refine ⟨rfl, ?_⟩ | refine ⟨Nat.le_of_ble_eq_true rfl, ?_⟩ | refine WC_some rfl ?_ | refine W_some rfl ?_))
      refine draw ho4 (R := [.lst ml]) hR (by decide) (by decide) fun r o5 ho5 hr1 hr2 => ?_
      (repeat (first | refine w_var rfl ?_ | refine w_cst ?_ | refine w_glob ?_ | refine w_nil ?_ | refine w_cons ?_ | refine w_bin ?_ | refine w_ix ?_ | refine w_call ?_ | refine w_blt ?_ | refine w_isi ?_ | refine w_tup ?_ | refine w_lstT ?_ | refine w_lstF ?_ | refine e_and ?_ | refine e_or ?_ | refine w_not ?_ | refine w_neg ?_ | refine w_ite ?_ | refine w_cmp ?_ | refine w_chain ?_ | refine w_slice ?_ | refine w_oN ?_ | refine w_oS ?_ | refine t_val' ?_ | refine t_cmp' ?_ | refine t_chain' ?_ | refine t_not' ?_ | refine t_and' ?_ | refine t_or' ?_ | refine ts_nil ?_ | refine ts_cons ?_ | refine x_nil ?_ | refine x_set ?_ | refine x_expr ?_ | refine x_ret ?_ | refine x_retN ?_ | refine x_ifs ?_ | refine x_setIx ?_ | refine x_unpack ?_ | refine l_add ?_ | refine l_sub ?_ | refine l_eqI ?_ | refine l_neI ?_ | refine l_eqB ?_ | refine l_neB ?_ | refine l_lt ?_ | refine l_le ?_ | refine l_gt ?_ | refine l_ge ?_ | refine ifT' rfl ?_ | refine ifF' rfl ?_ | refine ⟨_, rfl, ?_⟩ | refine ⟨rfl, ?_⟩ | refine ⟨Nat.le_of_ble_eq_true rfl, ?_⟩ | refine WC_some rfl ?_ | refine W_some rfl ?_))
      refine ifB (fun hr => ?_) (fun hr => ?_)
      · refine ts_nil (iteT ?_)
        refine w_var rfl ?_
        refine ⟨Nat.lt_of_le_of_lt (show (es.map D.int).length ≤ 4 by rw [List.length_map]; omega) (by decide), o5, es ++ [(i2 : Int)], ho5, rfl, by simp, ?_, ?_, by simp; omega⟩
        · rw [List.pairwise_append]
          refine ⟨hes, by simp, fun a ha b hb' => ?_⟩
          have : b = (i2 : Int) := by simpa using hb'
          have := (hb a ha).2
          omega
        · intro e he
          rcases List.mem_append.mp he with z | z
          · have := hb e z; omega
          · have : e = (i2 : Int) := by simpa using z
            omega
      · refine iteF ?_
        exact ⟨o5, es, ho5, rfl, rfl, hes, fun e he => by have := hb e he; omega, by omega⟩
    · rintro acc S2 ⟨o4, es, ho4, rfl, rfl, hes, hb, hel⟩
      have hn : (rngL 0 many.toNat).length = many.toNat := by simp [rngL]
      rw [hn] at hb hel
      have hl4 : es.length ≤ 4 := by omega
      refine l_mkT (by rw [List.length_map]; exact Nat.le_trans hl4 (by decide)) ?_
      refine w_nil ?_
      refine W_some rfl ?_
      refine w_nil ?_
      refine ⟨Nat.le_of_ble_eq_true rfl, ?_⟩
      have hg : gds (es.map .int) = true := gds_all fun x hx => by
        obtain ⟨e, _, rfl⟩ := List.mem_map.mp hx; rfl
      have he : (es.map D.int).map intOf = es := by
        rw [List.map_map]
        exact (List.map_congr_left fun _ _ => rfl).trans (List.map_id es)
      have ha : autB sg (.tup [.int many, .tup ml, .tup (es.map .int)]) = true := by
        have a1 : wholeB (.int many) 400 = true := by simp [wholeB]; omega
        have a2 : ((es.map D.int).all fun s => wholeB s (many - 1)) = true := by
          rw [List.all_eq_true]
          intro x hx
          obtain ⟨e, hx2, rfl⟩ := List.mem_map.mp hx
          have := hb e hx2
          simp [wholeB]; omega
        have a3 : incB es = true := decide_eq_true hes
        have a4 : ml.all (moveB (tab sg) many) = true := List.all_eq_true.mpr fun x hx => (hml x hx).1
        simp only [autB, a1, a2, a4, he, a3, Bool.and_self]
      refine fin_drop (S := [o4]) (R := [.lst ml]) rfl (by simp [ho4.pu]) ?_ (q _ o4 ho4 ha ⟨many, ml, es.map .int, rfl, by omega, by rw [List.length_map]; omega, hml, hg⟩)
      simp [puD, puL, hpu, gds_pu hg]
end Tt.L
end

section
/-! k16: automata, as the law sees them: the whole. -/
namespace Tt.L
open PySem Tt Tt.P L2
theorem l_ixI {es : List Int} {i : Nat} {a : Int} {S : Sto} {QC : D → Prop} (h : es[i]? = some a) (q : QC (.int a)) : WC (ixD (.tup (es.map .int)) (.int i) S) QC :=
  l_ixT (by rw [List.getElem?_map, h]; rfl) q
theorem autL {k : Nat} {sg : List D} {v : D} {S : Sto} {Q : D → Sto → Prop} (hs : SigOk sg) (hv : gd v = true) (hS : S.all puO = true) (q : Q (.bl (autB sg v)) S) : W (calls pg (k + 3) 15 [.tup sg, v] S) Q := by
  refine call_run (di := d15) rfl (w_run rfl ?_)
  cases v with
  | tup p =>
    simp only [gd, Bool.and_eq_true, decide_eq_true_eq] at hv
    by_cases hp : p.length = 3
    · obtain ⟨a, b, c, rfl⟩ : ∃ a b c, p = [a, b, c] := by
        match p, hp with
        | [a, b, c], _ => exact ⟨a, b, c, rfl⟩
      have hg := hv.2
      simp only [gds, Bool.and_eq_true] at hg
      obtain ⟨ga, gb, gc, _⟩ := hg
      refine x_cons ?_
      (repeat (first | refine w_var rfl ?_ | refine w_cst ?_ | refine w_glob ?_ | refine w_nil ?_ | refine w_cons ?_ | refine w_bin ?_ | refine w_ix ?_ | refine w_call ?_ | refine w_blt ?_ | refine w_isi ?_ | refine w_tup ?_ | refine w_lstT ?_ | refine w_lstF ?_ | refine e_and ?_ | refine e_or ?_ | refine w_not ?_ | refine w_neg ?_ | refine w_ite ?_ | refine w_cmp ?_ | refine w_chain ?_ | refine w_slice ?_ | refine w_oN ?_ | refine w_oS ?_ | refine t_val' ?_ | refine t_cmp' ?_ | refine t_chain' ?_ | refine t_not' ?_ | refine t_and' ?_ | refine t_or' ?_ | refine ts_nil ?_ | refine ts_cons ?_ | refine x_nil ?_ | refine x_set ?_ | refine x_expr ?_ | refine x_ret ?_ | refine x_retN ?_ | refine x_ifs ?_ | refine x_setIx ?_ | refine x_unpack ?_ | refine l_add ?_ | refine l_sub ?_ | refine l_eqI ?_ | refine l_neI ?_ | refine l_eqB ?_ | refine l_neB ?_ | refine l_lt ?_ | refine l_le ?_ | refine l_gt ?_ | refine l_ge ?_ | refine ifT' rfl ?_ | refine ifF' rfl ?_ | refine ⟨_, rfl, ?_⟩ | refine ⟨rfl, ?_⟩ | refine ⟨Nat.le_of_ble_eq_true rfl, ?_⟩ | refine WC_some rfl ?_ | refine W_some rfl ?_))
      refine number ga hS ?_
      (repeat (first | refine w_var rfl ?_ | refine w_cst ?_ | refine w_glob ?_ | refine w_nil ?_ | refine w_cons ?_ | refine w_bin ?_ | refine w_ix ?_ | refine w_call ?_ | refine w_blt ?_ | refine w_isi ?_ | refine w_tup ?_ | refine w_lstT ?_ | refine w_lstF ?_ | refine e_and ?_ | refine e_or ?_ | refine w_not ?_ | refine w_neg ?_ | refine w_ite ?_ | refine w_cmp ?_ | refine w_chain ?_ | refine w_slice ?_ | refine w_oN ?_ | refine w_oS ?_ | refine t_val' ?_ | refine t_cmp' ?_ | refine t_chain' ?_ | refine t_not' ?_ | refine t_and' ?_ | refine t_or' ?_ | refine ts_nil ?_ | refine ts_cons ?_ | refine x_nil ?_ | refine x_set ?_ | refine x_expr ?_ | refine x_ret ?_ | refine x_retN ?_ | refine x_ifs ?_ | refine x_setIx ?_ | refine x_unpack ?_ | refine l_add ?_ | refine l_sub ?_ | refine l_eqI ?_ | refine l_neI ?_ | refine l_eqB ?_ | refine l_neB ?_ | refine l_lt ?_ | refine l_le ?_ | refine l_gt ?_ | refine l_ge ?_ | refine ifT' rfl ?_ | refine ifF' rfl ?_ | refine ⟨_, rfl, ?_⟩ | refine ⟨rfl, ?_⟩ | refine ⟨Nat.le_of_ble_eq_true rfl, ?_⟩ | refine WC_some rfl ?_ | refine W_some rfl ?_))
      refine ifB (fun hm => ?_) (fun hm => ?_)
      · (repeat (first | refine w_var rfl ?_ | refine w_cst ?_ | refine w_glob ?_ | refine w_nil ?_ | refine w_cons ?_ | refine w_bin ?_ | refine w_ix ?_ | refine w_call ?_ | refine w_blt ?_ | refine w_isi ?_ | refine w_tup ?_ | refine w_lstT ?_ | refine w_lstF ?_ | refine e_and ?_ | refine e_or ?_ | refine w_not ?_ | refine w_neg ?_ | refine w_ite ?_ | refine w_cmp ?_ | refine w_chain ?_ | refine w_slice ?_ | refine w_oN ?_ | refine w_oS ?_ | refine t_val' ?_ | refine t_cmp' ?_ | refine t_chain' ?_ | refine t_not' ?_ | refine t_and' ?_ | refine t_or' ?_ | refine ts_nil ?_ | refine ts_cons ?_ | refine x_nil ?_ | refine x_cons ?_ | refine x_set ?_ | refine x_expr ?_ | refine x_ret ?_ | refine x_retN ?_ | refine x_ifs ?_ | refine x_setIx ?_ | refine x_unpack ?_ | refine l_add ?_ | refine l_sub ?_ | refine l_eqI ?_ | refine l_neI ?_ | refine l_eqB ?_ | refine l_neB ?_ | refine l_lt ?_ | refine l_le ?_ | refine l_gt ?_ | refine l_ge ?_ | refine ifT' rfl ?_ | refine ifF' rfl ?_ | refine ⟨_, rfl, ?_⟩ | refine ⟨rfl, ?_⟩ | refine ⟨Nat.le_of_ble_eq_true rfl, ?_⟩ | refine WC_some rfl ?_ | refine W_some rfl ?_))
        refine fin_same rfl hS rfl ?_
        have hm' : wholeB a 400 = false := by simpa using hm
        have : autB sg (.tup [a, b, c]) = false := by
          unfold autB
          split
          · rename_i e; cases e; rw [hm']; rfl
          · rfl
        rw [this] at q
        exact q
      have hm' : wholeB a 400 = true := by simpa using hm
      obtain ⟨many, rfl⟩ := whole_int hm'
      refine x_nil ?_
      refine x_cons ?_
      refine x_unpack ?_
      refine w_var rfl ?_
      refine ⟨_, _, rfl, rfl, ?_⟩
      refine x_cons ?_
      cases b with
      | tup moves =>
        cases c with
        | tup ends =>
          simp only [gd, Bool.and_eq_true, decide_eq_true_eq] at gb gc
          (repeat (first | refine w_var rfl ?_ | refine w_cst ?_ | refine w_glob ?_ | refine w_nil ?_ | refine w_cons ?_ | refine w_bin ?_ | refine w_ix ?_ | refine w_call ?_ | refine w_blt ?_ | refine w_isi ?_ | refine w_tup ?_ | refine w_lstT ?_ | refine w_lstF ?_ | refine e_and ?_ | refine e_or ?_ | refine w_not ?_ | refine w_neg ?_ | refine w_ite ?_ | refine w_cmp ?_ | refine w_chain ?_ | refine w_slice ?_ | refine w_oN ?_ | refine w_oS ?_ | refine t_val' ?_ | refine t_cmp' ?_ | refine t_chain' ?_ | refine t_not' ?_ | refine t_and' ?_ | refine t_or' ?_ | refine ts_nil ?_ | refine ts_cons ?_ | refine x_nil ?_ | refine x_set ?_ | refine x_expr ?_ | refine x_ret ?_ | refine x_retN ?_ | refine x_ifs ?_ | refine x_setIx ?_ | refine x_unpack ?_ | refine l_add ?_ | refine l_sub ?_ | refine l_eqI ?_ | refine l_neI ?_ | refine l_eqB ?_ | refine l_neB ?_ | refine l_lt ?_ | refine l_le ?_ | refine l_gt ?_ | refine l_ge ?_ | refine ifT' rfl ?_ | refine ifF' rfl ?_ | refine ⟨_, rfl, ?_⟩ | refine ⟨rfl, ?_⟩ | refine ⟨Nat.le_of_ble_eq_true rfl, ?_⟩ | refine WC_some rfl ?_ | refine W_some rfl ?_))
          refine w_mapR ends (ends.map fun s => .bl (wholeB s (many - 1))) (Nat.le_trans gc.1 (by decide)) (by simp) (r_seq (w_var rfl (WC_some rfl ⟨rfl, rfl, fun i y z hy hz => ?_, ?_⟩)))
          · refine ⟨_, rfl, ?_⟩
            simp only [List.getElem?_map, hy, Option.map_some, Option.some.injEq] at hz
            subst hz
            (repeat (first | refine w_var rfl ?_ | refine w_cst ?_ | refine w_glob ?_ | refine w_nil ?_ | refine w_cons ?_ | refine w_bin ?_ | refine w_ix ?_ | refine w_call ?_ | refine w_blt ?_ | refine w_isi ?_ | refine w_tup ?_ | refine w_lstT ?_ | refine w_lstF ?_ | refine e_and ?_ | refine e_or ?_ | refine w_not ?_ | refine w_neg ?_ | refine w_ite ?_ | refine w_cmp ?_ | refine w_chain ?_ | refine w_slice ?_ | refine w_oN ?_ | refine w_oS ?_ | refine t_val' ?_ | refine t_cmp' ?_ | refine t_chain' ?_ | refine t_not' ?_ | refine t_and' ?_ | refine t_or' ?_ | refine ts_nil ?_ | refine ts_cons ?_ | refine x_nil ?_ | refine x_set ?_ | refine x_expr ?_ | refine x_ret ?_ | refine x_retN ?_ | refine x_ifs ?_ | refine x_setIx ?_ | refine x_unpack ?_ | refine l_add ?_ | refine l_sub ?_ | refine l_eqI ?_ | refine l_neI ?_ | refine l_eqB ?_ | refine l_neB ?_ | refine l_lt ?_ | refine l_le ?_ | refine l_gt ?_ | refine l_ge ?_ | refine ifT' rfl ?_ | refine ifF' rfl ?_ | refine ⟨_, rfl, ?_⟩ | refine ⟨rfl, ?_⟩ | refine ⟨Nat.le_of_ble_eq_true rfl, ?_⟩ | refine WC_some rfl ?_ | refine W_some rfl ?_))
            refine number (gds_get gc.2 hy) hS ?_
            (repeat (first | refine w_var rfl ?_ | refine w_cst ?_ | refine w_glob ?_ | refine w_nil ?_ | refine w_cons ?_ | refine w_bin ?_ | refine w_ix ?_ | refine w_call ?_ | refine w_blt ?_ | refine w_isi ?_ | refine w_tup ?_ | refine w_lstT ?_ | refine w_lstF ?_ | refine e_and ?_ | refine e_or ?_ | refine w_not ?_ | refine w_neg ?_ | refine w_ite ?_ | refine w_cmp ?_ | refine w_chain ?_ | refine w_slice ?_ | refine w_oN ?_ | refine w_oS ?_ | refine t_val' ?_ | refine t_cmp' ?_ | refine t_chain' ?_ | refine t_not' ?_ | refine t_and' ?_ | refine t_or' ?_ | refine ts_nil ?_ | refine ts_cons ?_ | refine x_nil ?_ | refine x_set ?_ | refine x_expr ?_ | refine x_ret ?_ | refine x_retN ?_ | refine x_ifs ?_ | refine x_setIx ?_ | refine x_unpack ?_ | refine l_add ?_ | refine l_sub ?_ | refine l_eqI ?_ | refine l_neI ?_ | refine l_eqB ?_ | refine l_neB ?_ | refine l_lt ?_ | refine l_le ?_ | refine l_gt ?_ | refine l_ge ?_ | refine ifT' rfl ?_ | refine ifF' rfl ?_ | refine ⟨_, rfl, ?_⟩ | refine ⟨rfl, ?_⟩ | refine ⟨Nat.le_of_ble_eq_true rfl, ?_⟩ | refine WC_some rfl ?_ | refine W_some rfl ?_))
            exact rfl
          refine w_nil ?_
          refine l_all ?_
          refine WC_some rfl ?_
          refine ifB (fun ha => ?_) (fun ha => ?_)
          · (repeat (first | refine w_var rfl ?_ | refine w_cst ?_ | refine w_glob ?_ | refine w_nil ?_ | refine w_cons ?_ | refine w_bin ?_ | refine w_ix ?_ | refine w_call ?_ | refine w_blt ?_ | refine w_isi ?_ | refine w_tup ?_ | refine w_lstT ?_ | refine w_lstF ?_ | refine e_and ?_ | refine e_or ?_ | refine w_not ?_ | refine w_neg ?_ | refine w_ite ?_ | refine w_cmp ?_ | refine w_chain ?_ | refine w_slice ?_ | refine w_oN ?_ | refine w_oS ?_ | refine t_val' ?_ | refine t_cmp' ?_ | refine t_chain' ?_ | refine t_not' ?_ | refine t_and' ?_ | refine t_or' ?_ | refine ts_nil ?_ | refine ts_cons ?_ | refine x_nil ?_ | refine x_cons ?_ | refine x_set ?_ | refine x_expr ?_ | refine x_ret ?_ | refine x_retN ?_ | refine x_ifs ?_ | refine x_setIx ?_ | refine x_unpack ?_ | refine l_add ?_ | refine l_sub ?_ | refine l_eqI ?_ | refine l_neI ?_ | refine l_eqB ?_ | refine l_neB ?_ | refine l_lt ?_ | refine l_le ?_ | refine l_gt ?_ | refine l_ge ?_ | refine ifT' rfl ?_ | refine ifF' rfl ?_ | refine ⟨_, rfl, ?_⟩ | refine ⟨rfl, ?_⟩ | refine ⟨Nat.le_of_ble_eq_true rfl, ?_⟩ | refine WC_some rfl ?_ | refine W_some rfl ?_))
            refine fin_same rfl hS rfl ?_
            have : (ends.all fun s => wholeB s (many - 1)) = false := by simpa using ha
            simpa [autB, this] using q
          have ha' : (ends.all fun s => wholeB s (many - 1)) = true := by simpa using ha
          have he := ints_of ha'
          generalize hes : ends.map intOf = es at he q
          have hel : es.length ≤ 60 := by rw [← hes, List.length_map]; exact gc.1
          subst he
          refine x_nil ?_
          refine x_cons ?_
          refine x_ifs ?_
          refine t_val' ?_
          refine w_blt ?_
          refine w_cons ?_
          refine w_mapR (rngL 1 (es.length - 1)) ((List.range (es.length - 1)).map fun i => .bl (stepB es i)) (by simp [rngL]; exact Nat.le_trans (show es.length ≤ 61 by omega) (by decide)) (by simp [rngL]) ?_
          refine r_rng2 ?_
          refine w_cst ?_
          refine w_blt ?_
          refine w_cons ?_
          refine w_var rfl ?_
          refine w_nil ?_
          refine W_some rfl ?_
          refine ⟨1, _, rfl, rfl, ⟨by decide, by decide, by omega, by rw [List.length_map]; omega⟩, ?_⟩
          have en : (((es.map D.int).length : Int) - 1).toNat = es.length - 1 := by rw [List.length_map]; omega
          rw [en]
          refine ⟨by simp [rngL], rfl, fun i x z hx hz => ?_, ?_⟩
          · have hi : i < (rngL 1 (es.length - 1)).length := (List.getElem?_eq_some_iff.mp hx).1
            have hi : i < es.length - 1 := by simpa [rngL] using hi
            simp only [rngL, List.getElem?_map, List.getElem?_range hi, Option.map_some, Option.some.injEq] at hx hz
            have ei : (1 + (i : Int)) = ((i + 1 : Nat) : Int) := by omega
            rw [ei] at hx
            subst hx hz
            have g1 : es[i + 1]? = some (es[i + 1]'(by omega)) := List.getElem?_eq_getElem (by omega)
            have g2 : es[i]? = some (es[i]'(by omega)) := List.getElem?_eq_getElem (by omega)
            refine ⟨_, rfl, ?_⟩
            refine w_cmp ?_
            refine w_ix ?_
            refine w_var rfl ?_
            refine w_var rfl ?_
            refine l_ixI g1 ?_
            refine w_ix ?_
            refine w_var rfl ?_
            refine w_bin ?_
            refine w_var rfl ?_
            refine w_cst ?_
            refine l_sub ?_
            rw [show (((i + 1 : Nat) : Int) - 1) = (i : Int) by omega]
            refine l_ixI g2 ?_
            refine l_le ?_
            refine ⟨?_, rfl⟩
            unfold stepB
            rw [g1, g2]
          refine w_nil ?_
          refine l_any ?_
          rw [steps_inc]
          refine WC_some rfl ?_
          refine ifB (fun hi => ?_) (fun hi => ?_)
          · (repeat (first | refine w_var rfl ?_ | refine w_cst ?_ | refine w_glob ?_ | refine w_nil ?_ | refine w_cons ?_ | refine w_bin ?_ | refine w_ix ?_ | refine w_call ?_ | refine w_blt ?_ | refine w_isi ?_ | refine w_tup ?_ | refine w_lstT ?_ | refine w_lstF ?_ | refine e_and ?_ | refine e_or ?_ | refine w_not ?_ | refine w_neg ?_ | refine w_ite ?_ | refine w_cmp ?_ | refine w_chain ?_ | refine w_slice ?_ | refine w_oN ?_ | refine w_oS ?_ | refine t_val' ?_ | refine t_cmp' ?_ | refine t_chain' ?_ | refine t_not' ?_ | refine t_and' ?_ | refine t_or' ?_ | refine ts_nil ?_ | refine ts_cons ?_ | refine x_nil ?_ | refine x_cons ?_ | refine x_set ?_ | refine x_expr ?_ | refine x_ret ?_ | refine x_retN ?_ | refine x_ifs ?_ | refine x_setIx ?_ | refine x_unpack ?_ | refine l_add ?_ | refine l_sub ?_ | refine l_eqI ?_ | refine l_neI ?_ | refine l_eqB ?_ | refine l_neB ?_ | refine l_lt ?_ | refine l_le ?_ | refine l_gt ?_ | refine l_ge ?_ | refine ifT' rfl ?_ | refine ifF' rfl ?_ | refine ⟨_, rfl, ?_⟩ | refine ⟨rfl, ?_⟩ | refine ⟨Nat.le_of_ble_eq_true rfl, ?_⟩ | refine WC_some rfl ?_ | refine W_some rfl ?_))
            refine fin_same rfl hS rfl ?_
            have : incB es = false := by simpa using hi
            simpa [autB, this, hes] using q
          have hi' : incB es = true := by simpa using hi
          refine x_nil ?_
          refine x_cons ?_
          refine x_set ?_
          refine w_blt ?_
          refine w_cons ?_
          refine w_var rfl ?_
          refine w_nil ?_
          refine l_dictT hs ?_
          have hS1 : (S ++ [O.dic (tab sg)]).all puO = true := by rw [List.all_append, hS]; simp [hs.pu]
          refine x_cons ?_
          refine x_for ?_
          refine r_seq ?_
          refine w_var rfl ?_
          refine WC_some rfl ?_
          refine for_inv (l := moves) (fun i env S2 => S2 = S ++ [.dic (tab sg)] ∧ (∃ o, env = [some (.tup sg), some (.tup [.int many, .tup moves, .tup (es.map .int)]), some (.ref S.length), o, some (.int many), some (.tup moves), some (.tup (es.map .int)), none, none]) ∧ ∀ j x, j < i → moves[j]? = some x → moveB (tab sg) many x = true) rfl ⟨rfl, ⟨_, rfl⟩, fun j x h => by omega⟩ (fun i env S2 ⟨e, _, _⟩ => rfl) ?_ ?_
          · rintro i x env S2 hx ⟨rfl, ⟨o, rfl⟩, hall⟩
            refine ⟨_, rfl, ?_⟩
            refine moveL (o := o) hs (gds_get gb.2 hx) hS1 (fun hb => ?_) (fun hb => ⟨rfl, ⟨_, rfl⟩, fun j y hj hy => ?_⟩)
            · refine fin_drop rfl hS rfl ?_
              rw [aut_bad hx hb] at q
              exact q
            · by_cases e : j = i
              · subst e; rw [hx] at hy; cases hy; exact hb
              · exact hall j y (by omega) hy
          · rintro env S2 ⟨rfl, ⟨o, rfl⟩, hall⟩
            have hm4 : moves.all (moveB (tab sg) many) = true := List.all_eq_true.mpr fun x hx => by
              obtain ⟨i, hi, e⟩ := List.getElem_of_mem hx
              exact hall i x hi (by rw [List.getElem?_eq_getElem hi, e])
            refine x_cons ?_
            refine x_ret ?_
            refine w_cst ?_
            refine fin_drop rfl hS rfl ?_
            simpa only [autB, hm', ha', hi', hes, hm4, Bool.and_self] using q
        | fzl _ => simp [gd] at gc
        | ref _ => simp [gd] at gc
        | _ =>
          (repeat (first | refine w_var rfl ?_ | refine w_cst ?_ | refine w_glob ?_ | refine w_nil ?_ | refine w_cons ?_ | refine w_bin ?_ | refine w_ix ?_ | refine w_call ?_ | refine w_blt ?_ | refine w_isi ?_ | refine w_tup ?_ | refine w_lstT ?_ | refine w_lstF ?_ | refine e_and ?_ | refine e_or ?_ | refine w_not ?_ | refine w_neg ?_ | refine w_ite ?_ | refine w_cmp ?_ | refine w_chain ?_ | refine w_slice ?_ | refine w_oN ?_ | refine w_oS ?_ | refine t_val' ?_ | refine t_cmp' ?_ | refine t_chain' ?_ | refine t_not' ?_ | refine t_and' ?_ | refine t_or' ?_ | refine ts_nil ?_ | refine ts_cons ?_ | refine x_nil ?_ | refine x_cons ?_ | refine x_set ?_ | refine x_expr ?_ | refine x_ret ?_ | refine x_retN ?_ | refine x_ifs ?_ | refine x_setIx ?_ | refine x_unpack ?_ | refine l_add ?_ | refine l_sub ?_ | refine l_eqI ?_ | refine l_neI ?_ | refine l_eqB ?_ | refine l_neB ?_ | refine l_lt ?_ | refine l_le ?_ | refine l_gt ?_ | refine l_ge ?_ | refine ifT' rfl ?_ | refine ifF' rfl ?_ | refine ⟨_, rfl, ?_⟩ | refine ⟨rfl, ?_⟩ | refine ⟨Nat.le_of_ble_eq_true rfl, ?_⟩ | refine WC_some rfl ?_ | refine W_some rfl ?_))
          exact fin_same rfl hS rfl q
      | fzl _ => simp [gd] at gb
      | ref _ => simp [gd] at gb
      | _ =>
        (repeat (first | refine w_var rfl ?_ | refine w_cst ?_ | refine w_glob ?_ | refine w_nil ?_ | refine w_cons ?_ | refine w_bin ?_ | refine w_ix ?_ | refine w_call ?_ | refine w_blt ?_ | refine w_isi ?_ | refine w_tup ?_ | refine w_lstT ?_ | refine w_lstF ?_ | refine e_and ?_ | refine e_or ?_ | refine w_not ?_ | refine w_neg ?_ | refine w_ite ?_ | refine w_cmp ?_ | refine w_chain ?_ | refine w_slice ?_ | refine w_oN ?_ | refine w_oS ?_ | refine t_val' ?_ | refine t_cmp' ?_ | refine t_chain' ?_ | refine t_not' ?_ | refine t_and' ?_ | refine t_or' ?_ | refine ts_nil ?_ | refine ts_cons ?_ | refine x_nil ?_ | refine x_cons ?_ | refine x_set ?_ | refine x_expr ?_ | refine x_ret ?_ | refine x_retN ?_ | refine x_ifs ?_ | refine x_setIx ?_ | refine x_unpack ?_ | refine l_add ?_ | refine l_sub ?_ | refine l_eqI ?_ | refine l_neI ?_ | refine l_eqB ?_ | refine l_neB ?_ | refine l_lt ?_ | refine l_le ?_ | refine l_gt ?_ | refine l_ge ?_ | refine ifT' rfl ?_ | refine ifF' rfl ?_ | refine ⟨_, rfl, ?_⟩ | refine ⟨rfl, ?_⟩ | refine ⟨Nat.le_of_ble_eq_true rfl, ?_⟩ | refine WC_some rfl ?_ | refine W_some rfl ?_))
        exact fin_same rfl hS rfl q
    · refine x_cons ?_
      (repeat (first | refine w_var rfl ?_ | refine w_cst ?_ | refine w_glob ?_ | refine w_nil ?_ | refine w_cons ?_ | refine w_bin ?_ | refine w_ix ?_ | refine w_call ?_ | refine w_blt ?_ | refine w_isi ?_ | refine w_tup ?_ | refine w_lstT ?_ | refine w_lstF ?_ | refine e_and ?_ | refine e_or ?_ | refine w_not ?_ | refine w_neg ?_ | refine w_ite ?_ | refine w_cmp ?_ | refine w_chain ?_ | refine w_slice ?_ | refine w_oN ?_ | refine w_oS ?_ | refine t_val' ?_ | refine t_cmp' ?_ | refine t_chain' ?_ | refine t_not' ?_ | refine t_and' ?_ | refine t_or' ?_ | refine ts_nil ?_ | refine ts_cons ?_ | refine x_nil ?_ | refine x_set ?_ | refine x_expr ?_ | refine x_ret ?_ | refine x_retN ?_ | refine x_ifs ?_ | refine x_setIx ?_ | refine x_unpack ?_ | refine l_add ?_ | refine l_sub ?_ | refine l_eqI ?_ | refine l_neI ?_ | refine l_eqB ?_ | refine l_neB ?_ | refine l_lt ?_ | refine l_le ?_ | refine l_gt ?_ | refine l_ge ?_ | refine ifT' rfl ?_ | refine ifF' rfl ?_ | refine ⟨_, rfl, ?_⟩ | refine ⟨rfl, ?_⟩ | refine ⟨Nat.le_of_ble_eq_true rfl, ?_⟩ | refine WC_some rfl ?_ | refine W_some rfl ?_))
      refine ifT' (by simp; omega) ?_
      (repeat (first | refine w_var rfl ?_ | refine w_cst ?_ | refine w_glob ?_ | refine w_nil ?_ | refine w_cons ?_ | refine w_bin ?_ | refine w_ix ?_ | refine w_call ?_ | refine w_blt ?_ | refine w_isi ?_ | refine w_tup ?_ | refine w_lstT ?_ | refine w_lstF ?_ | refine e_and ?_ | refine e_or ?_ | refine w_not ?_ | refine w_neg ?_ | refine w_ite ?_ | refine w_cmp ?_ | refine w_chain ?_ | refine w_slice ?_ | refine w_oN ?_ | refine w_oS ?_ | refine t_val' ?_ | refine t_cmp' ?_ | refine t_chain' ?_ | refine t_not' ?_ | refine t_and' ?_ | refine t_or' ?_ | refine ts_nil ?_ | refine ts_cons ?_ | refine x_nil ?_ | refine x_cons ?_ | refine x_set ?_ | refine x_expr ?_ | refine x_ret ?_ | refine x_retN ?_ | refine x_ifs ?_ | refine x_setIx ?_ | refine x_unpack ?_ | refine l_add ?_ | refine l_sub ?_ | refine l_eqI ?_ | refine l_neI ?_ | refine l_eqB ?_ | refine l_neB ?_ | refine l_lt ?_ | refine l_le ?_ | refine l_gt ?_ | refine l_ge ?_ | refine ifT' rfl ?_ | refine ifF' rfl ?_ | refine ⟨_, rfl, ?_⟩ | refine ⟨rfl, ?_⟩ | refine ⟨Nat.le_of_ble_eq_true rfl, ?_⟩ | refine WC_some rfl ?_ | refine W_some rfl ?_))
      refine fin_same rfl hS rfl ?_
      have : autB sg (.tup p) = false := by
        unfold autB
        split
        · rename_i e; cases e; exact absurd rfl hp
        · rfl
      rw [this] at q
      exact q
  | fzl _ => simp [gd] at hv
  | ref _ => simp [gd] at hv
  | _ =>
    (repeat (first | refine w_var rfl ?_ | refine w_cst ?_ | refine w_glob ?_ | refine w_nil ?_ | refine w_cons ?_ | refine w_bin ?_ | refine w_ix ?_ | refine w_call ?_ | refine w_blt ?_ | refine w_isi ?_ | refine w_tup ?_ | refine w_lstT ?_ | refine w_lstF ?_ | refine e_and ?_ | refine e_or ?_ | refine w_not ?_ | refine w_neg ?_ | refine w_ite ?_ | refine w_cmp ?_ | refine w_chain ?_ | refine w_slice ?_ | refine w_oN ?_ | refine w_oS ?_ | refine t_val' ?_ | refine t_cmp' ?_ | refine t_chain' ?_ | refine t_not' ?_ | refine t_and' ?_ | refine t_or' ?_ | refine ts_nil ?_ | refine ts_cons ?_ | refine x_nil ?_ | refine x_cons ?_ | refine x_set ?_ | refine x_expr ?_ | refine x_ret ?_ | refine x_retN ?_ | refine x_ifs ?_ | refine x_setIx ?_ | refine x_unpack ?_ | refine l_add ?_ | refine l_sub ?_ | refine l_eqI ?_ | refine l_neI ?_ | refine l_eqB ?_ | refine l_neB ?_ | refine l_lt ?_ | refine l_le ?_ | refine l_gt ?_ | refine l_ge ?_ | refine ifT' rfl ?_ | refine ifF' rfl ?_ | refine ⟨_, rfl, ?_⟩ | refine ⟨rfl, ?_⟩ | refine ⟨Nat.le_of_ble_eq_true rfl, ?_⟩ | refine WC_some rfl ?_ | refine W_some rfl ?_))
    exact fin_same rfl hS rfl q
end Tt.L
end

section
/-! k16: something changed. -/
namespace Tt.L
open PySem Tt Tt.P L2
/-- a value nested d deep at most, its rows short -/
def Smv : Nat → D → Prop
  | 0, v => gd v = true ∧ flatD v = true
  | d + 1, v => (gd v = true ∧ flatD v = true) ∨ ∃ l, v = .tup l ∧ l.length ≤ 20 ∧ ∀ x ∈ l, Smv d x
theorem Smv.gd : ∀ {d : Nat} {v : D}, Smv d v → Tt.L.gd v = true
  | 0, _, h => h.1
  | d + 1, _, .inl h => h.1
  | d + 1, _, .inr ⟨l, e, hl, hx⟩ => by
    subst e
    simp only [Tt.L.gd, Bool.and_eq_true, decide_eq_true_eq]
    exact ⟨by omega, gds_all fun x hx' => Smv.gd (hx x hx')⟩
/-- such a value may be compared -/
theorem Smv.py : ∀ {d : Nat} {v : D}, Smv d v → ∃ x, pyD v = some x ∧ x.canLay0 = true ∧ x.depth ≤ d := by
  intro d
  induction d with
  | zero =>
    rintro v ⟨h1, h2⟩
    cases v <;> first
      | (simp [flatD] at h2; done)
      | (simp only [Tt.L.gd, Bool.and_eq_true] at h1; exact ⟨_, rfl, by simp only [PyData.canLay0]; exact h1.1, by simp [PyData.depth]⟩)
      | exact ⟨_, rfl, by simp [PyData.canLay0], by simp [PyData.depth]⟩
  | succ d ih =>
    rintro v (⟨h1, h2⟩ | ⟨l, rfl, hl, hx⟩)
    · cases v <;> first
        | (simp [flatD] at h2; done)
        | (simp only [Tt.L.gd, Bool.and_eq_true] at h1; exact ⟨_, rfl, by simp only [PyData.canLay0]; exact h1.1, by simp [PyData.depth]⟩)
        | exact ⟨_, rfl, by simp [PyData.canLay0], by simp [PyData.depth]⟩
    · have : ∃ xs, pyL l = some xs ∧ PyData.canLayAll0 xs = true ∧ PyData.depthAll xs ≤ d := by
        clear hl
        induction l with
        | nil => exact ⟨[], rfl, by simp [PyData.canLayAll0], by simp [PyData.depthAll]⟩
        | cons a l ihl =>
          obtain ⟨x, e1, e2, e3⟩ := ih (hx a (by simp))
          obtain ⟨xs, f1, f2, f3⟩ := ihl fun y hy => hx y (by simp [hy])
          exact ⟨x :: xs, by simp [pyL, e1, f1], by simp [PyData.canLayAll0, e2, f2], by simp [PyData.depthAll]; omega⟩
      obtain ⟨xs, e1, e2, e3⟩ := this
      exact ⟨.tuple xs, by simp [pyD, e1], by simp only [PyData.canLay0]; exact e2, by simp only [PyData.depth]; omega⟩
/-- part != () -/
theorem l_neE {d : Nat} {p : List D} {S : Sto} {QC : Bool → Prop} (h : Smv d (.tup p)) (hd : d ≤ 60) (q : QC (!p.isEmpty)) : WC (cmpD .ne (.tup p) (.tup []) S) QC := by
  refine ⟨_, ?_, q⟩
  obtain ⟨x, e1, e2, e3⟩ := h.py
  have e1' := e1
  simp only [pyD, Option.map_eq_some_iff] at e1
  obtain ⟨xs, f1, rfl⟩ := e1
  have s1 : SeqAt.shaped (.tuple xs) = true := Bool.and_eq_true_iff.mpr ⟨e2, by simp; omega⟩
  have s2 : SeqAt.shaped (.tuple []) = true := by decide +kernel
  have e4 : PyData.eqv (.tuple xs) (.tuple []) = p.isEmpty := by
    cases p with
    | nil => simp only [pyL, Option.some.injEq] at f1; subst f1; rfl
    | cons a p =>
      simp only [pyL, Option.bind_eq_some_iff, Option.map_eq_some_iff] at f1
      obtain ⟨y, _, ys, _, rfl⟩ := f1
      rfl
  have e5 : pyD (.tup []) = some (.tuple []) := rfl
  simp only [cmpD, eqD, e1', e5, Option.bind_some, s1, s2, Bool.and_self, if_true, Option.map_some, e4]
end Tt.L
end

section
/-! k16: something changed, somewhere. -/
namespace Tt.L
open PySem Tt Tt.P L2
def odd : List D := [.non, .bl true, .int 0, .int 3, .int 4, .int (-1), .int 400, .int 401, .str "a", .str "x1", .str "zz", .str "", .str "A_1", .str "a1234567", .str "a12345678", .str "9", .str "a#", .tup [], .tup [.int 0], .lst [], .str "f", .tup [.str "a", .int 0]]
theorem odd_gd : gds odd = true := by decide +kernel
theorem gd_tup {l : List D} (h1 : l.length ≤ 60) (h2 : gds l = true) : gd (.tup l) = true := by simp [gd, h1, h2]
theorem cut_gd {l : List D} {lo hi : Option Int} (h : gds l = true) : gds (cutD l lo hi) = true := gds_all fun x hx => by
  unfold cutD at hx
  exact gds_mem h (List.mem_of_mem_drop (List.mem_of_mem_take hx))
theorem cut_len {l : List D} {lo hi : Option Int} : (cutD l lo hi).length ≤ l.length := by
  unfold cutD
  rw [List.length_take, List.length_drop]
  omega
theorem x_cut {f : Sm → En → Sto → Option (Fl × En × Sto)} {s : Sm} {ss : List Sm} {env : En} {S : Sto} {Q : Fl → En → Sto → Prop} {P : En → Sto → Prop}
    (h : WS (f s env S) fun fl e2 S2 => fl = .nx ∧ P e2 S2) (g : ∀ e2 S2, P e2 S2 → WS (exs f ss e2 S2) Q) : WS (exs f (s :: ss) env S) Q :=
  x_cons (h.mono fun fl e2 S2 ⟨e, p⟩ => by subst e; exact g _ _ p)
theorem changed_step {K d : Nat} {l : List D} {o : O} {R : Sto} {Q : D → Sto → Prop} (hd : d ≤ 60) (hl : l.length ≤ 20) (hx : ∀ x ∈ l, Smv d x) (ho : Stm o) (hR : R.all puO = true)
    (rec : ∀ (p : List D) (o' : O) (Q' : D → Sto → Prop), D.tup p ∈ l → Stm o' → (∀ v o2, Stm o2 → gd v = true → Q' v (o2 :: R)) → W (calls pg (K + 2) 16 [.ref 0, .tup p] (o' :: R)) Q')
    (q : ∀ v o', Stm o' → gd v = true → Q v (o' :: R)) : W (calls pg (K + 3) 16 [.ref 0, .tup l] (o :: R)) Q := by
  refine call_run (di := d16) rfl (w_run rfl ?_)
  have hg : gds l = true := gds_all fun x h => (hx x h).gd
  refine x_cut (P := fun e2 S2 => e2 = [some (.ref 0), some (.tup l), some (.lst odd), none, none] ∧ S2 = o :: R) ?_ ?_
  case refine_1 =>
    refine x_set ?_
    (repeat (first | refine w_var rfl ?_ | refine w_cst ?_ | refine w_glob ?_ | refine w_nil ?_ | refine w_cons ?_ | refine w_bin ?_ | refine w_ix ?_ | refine w_call ?_ | refine w_blt ?_ | refine w_isi ?_ | refine w_tup ?_ | refine w_lstT ?_ | refine w_lstF ?_ | refine e_and ?_ | refine e_or ?_ | refine w_not ?_ | refine w_neg ?_ | refine w_ite ?_ | refine w_cmp ?_ | refine w_chain ?_ | refine w_slice ?_ | refine w_oN ?_ | refine w_oS ?_ | refine t_val' ?_ | refine t_cmp' ?_ | refine t_chain' ?_ | refine t_not' ?_ | refine t_and' ?_ | refine t_or' ?_ | refine ts_nil ?_ | refine ts_cons ?_ | refine x_nil ?_ | refine x_set ?_ | refine x_expr ?_ | refine x_ret ?_ | refine x_retN ?_ | refine x_ifs ?_ | refine x_setIx ?_ | refine x_unpack ?_ | refine l_add ?_ | refine l_sub ?_ | refine l_eqI ?_ | refine l_neI ?_ | refine l_eqB ?_ | refine l_neB ?_ | refine l_lt ?_ | refine l_le ?_ | refine l_gt ?_ | refine l_ge ?_ | refine ifT' rfl ?_ | refine ifF' rfl ?_ | refine ⟨_, rfl, ?_⟩ | refine ⟨rfl, ?_⟩ | refine ⟨Nat.le_of_ble_eq_true rfl, ?_⟩ | refine WC_some rfl ?_ | refine W_some rfl ?_))
    exact rfl
  rintro e2 S2 ⟨rfl, rfl⟩
  refine x_cons ?_
  (repeat (first | refine w_var rfl ?_ | refine w_cst ?_ | refine w_glob ?_ | refine w_nil ?_ | refine w_cons ?_ | refine w_bin ?_ | refine w_ix ?_ | refine w_call ?_ | refine w_blt ?_ | refine w_isi ?_ | refine w_tup ?_ | refine w_lstT ?_ | refine w_lstF ?_ | refine e_and ?_ | refine e_or ?_ | refine w_not ?_ | refine w_neg ?_ | refine w_ite ?_ | refine w_cmp ?_ | refine w_chain ?_ | refine w_slice ?_ | refine w_oN ?_ | refine w_oS ?_ | refine t_val' ?_ | refine t_cmp' ?_ | refine t_chain' ?_ | refine t_not' ?_ | refine t_and' ?_ | refine t_or' ?_ | refine ts_nil ?_ | refine ts_cons ?_ | refine x_nil ?_ | refine x_set ?_ | refine x_expr ?_ | refine x_ret ?_ | refine x_retN ?_ | refine x_ifs ?_ | refine x_setIx ?_ | refine x_unpack ?_ | refine l_add ?_ | refine l_sub ?_ | refine l_eqI ?_ | refine l_neI ?_ | refine l_eqB ?_ | refine l_neB ?_ | refine l_lt ?_ | refine l_le ?_ | refine l_gt ?_ | refine l_ge ?_ | refine ifT' rfl ?_ | refine ifF' rfl ?_ | refine ⟨_, rfl, ?_⟩ | refine ⟨rfl, ?_⟩ | refine ⟨Nat.le_of_ble_eq_true rfl, ?_⟩ | refine WC_some rfl ?_ | refine W_some rfl ?_))
  refine draw ho hR (by omega) (by omega) fun r o1 ho1 h1 h2 => ?_
  refine x_cons ?_
  (repeat (first | refine w_var rfl ?_ | refine w_cst ?_ | refine w_glob ?_ | refine w_nil ?_ | refine w_cons ?_ | refine w_bin ?_ | refine w_ix ?_ | refine w_call ?_ | refine w_blt ?_ | refine w_isi ?_ | refine w_tup ?_ | refine w_lstT ?_ | refine w_lstF ?_ | refine e_and ?_ | refine e_or ?_ | refine w_not ?_ | refine w_neg ?_ | refine w_ite ?_ | refine w_cmp ?_ | refine w_chain ?_ | refine w_slice ?_ | refine w_oN ?_ | refine w_oS ?_ | refine t_val' ?_ | refine t_cmp' ?_ | refine t_chain' ?_ | refine t_not' ?_ | refine t_and' ?_ | refine t_or' ?_ | refine ts_nil ?_ | refine ts_cons ?_ | refine x_nil ?_ | refine x_set ?_ | refine x_expr ?_ | refine x_ret ?_ | refine x_retN ?_ | refine x_ifs ?_ | refine x_setIx ?_ | refine x_unpack ?_ | refine l_add ?_ | refine l_sub ?_ | refine l_eqI ?_ | refine l_neI ?_ | refine l_eqB ?_ | refine l_neB ?_ | refine l_lt ?_ | refine l_le ?_ | refine l_gt ?_ | refine l_ge ?_ | refine ifT' rfl ?_ | refine ifF' rfl ?_ | refine ⟨_, rfl, ?_⟩ | refine ⟨rfl, ?_⟩ | refine ⟨Nat.le_of_ble_eq_true rfl, ?_⟩ | refine WC_some rfl ?_ | refine W_some rfl ?_))
  refine ifB (fun he => ?_) (fun he => ?_)
  · refine x_cons ?_
    refine x_ret ?_
    refine w_call ?_
    refine w_cons ?_
    refine w_var rfl ?_
    refine w_cons ?_
    refine w_lstT ?_
    refine w_cons ?_
    refine w_bin ?_
    refine w_var rfl ?_
    refine w_tup ?_
    refine w_cons ?_
    refine w_call ?_
    (repeat (first | refine w_var rfl ?_ | refine w_cst ?_ | refine w_glob ?_ | refine w_nil ?_ | refine w_cons ?_ | refine w_bin ?_ | refine w_ix ?_ | refine w_call ?_ | refine w_blt ?_ | refine w_isi ?_ | refine w_tup ?_ | refine w_lstT ?_ | refine w_lstF ?_ | refine e_and ?_ | refine e_or ?_ | refine w_not ?_ | refine w_neg ?_ | refine w_ite ?_ | refine w_cmp ?_ | refine w_chain ?_ | refine w_slice ?_ | refine w_oN ?_ | refine w_oS ?_ | refine t_val' ?_ | refine t_cmp' ?_ | refine t_chain' ?_ | refine t_not' ?_ | refine t_and' ?_ | refine t_or' ?_ | refine ts_nil ?_ | refine ts_cons ?_ | refine x_nil ?_ | refine x_set ?_ | refine x_expr ?_ | refine x_ret ?_ | refine x_retN ?_ | refine x_ifs ?_ | refine x_setIx ?_ | refine x_unpack ?_ | refine l_add ?_ | refine l_sub ?_ | refine l_eqI ?_ | refine l_neI ?_ | refine l_eqB ?_ | refine l_neB ?_ | refine l_lt ?_ | refine l_le ?_ | refine l_gt ?_ | refine l_ge ?_ | refine ifT' rfl ?_ | refine ifF' rfl ?_ | refine ⟨_, rfl, ?_⟩ | refine ⟨rfl, ?_⟩ | refine ⟨Nat.le_of_ble_eq_true rfl, ?_⟩ | refine WC_some rfl ?_ | refine W_some rfl ?_))
    refine pick (l := odd) (.inl rfl) (by decide) (by decide) (by decide +kernel) ho1 hR fun i x o2 ho2 hxi => ?_
    have hxg : gd x = true := gds_get odd_gd hxi
    refine w_nil ?_
    refine ⟨Nat.le_of_ble_eq_true rfl, ?_⟩
    refine l_catT (Nat.le_trans (show l.length + 1 ≤ 21 by omega) (by decide)) ?_
    refine w_cons ?_
    (repeat (first | refine w_var rfl ?_ | refine w_cst ?_ | refine w_glob ?_ | refine w_nil ?_ | refine w_cons ?_ | refine w_bin ?_ | refine w_ix ?_ | refine w_call ?_ | refine w_blt ?_ | refine w_isi ?_ | refine w_tup ?_ | refine w_lstT ?_ | refine w_lstF ?_ | refine e_and ?_ | refine e_or ?_ | refine w_not ?_ | refine w_neg ?_ | refine w_ite ?_ | refine w_cmp ?_ | refine w_chain ?_ | refine w_slice ?_ | refine w_oN ?_ | refine w_oS ?_ | refine t_val' ?_ | refine t_cmp' ?_ | refine t_chain' ?_ | refine t_not' ?_ | refine t_and' ?_ | refine t_or' ?_ | refine ts_nil ?_ | refine ts_cons ?_ | refine x_nil ?_ | refine x_set ?_ | refine x_expr ?_ | refine x_ret ?_ | refine x_retN ?_ | refine x_ifs ?_ | refine x_setIx ?_ | refine x_unpack ?_ | refine l_add ?_ | refine l_sub ?_ | refine l_eqI ?_ | refine l_neI ?_ | refine l_eqB ?_ | refine l_neB ?_ | refine l_lt ?_ | refine l_le ?_ | refine l_gt ?_ | refine l_ge ?_ | refine ifT' rfl ?_ | refine ifF' rfl ?_ | refine ⟨_, rfl, ?_⟩ | refine ⟨rfl, ?_⟩ | refine ⟨Nat.le_of_ble_eq_true rfl, ?_⟩ | refine WC_some rfl ?_ | refine W_some rfl ?_))
    refine l_listT (Nat.le_trans hl (by decide)) ?_
    (repeat (first | refine w_var rfl ?_ | refine w_cst ?_ | refine w_glob ?_ | refine w_nil ?_ | refine w_cons ?_ | refine w_bin ?_ | refine w_ix ?_ | refine w_call ?_ | refine w_blt ?_ | refine w_isi ?_ | refine w_tup ?_ | refine w_lstT ?_ | refine w_lstF ?_ | refine e_and ?_ | refine e_or ?_ | refine w_not ?_ | refine w_neg ?_ | refine w_ite ?_ | refine w_cmp ?_ | refine w_chain ?_ | refine w_slice ?_ | refine w_oN ?_ | refine w_oS ?_ | refine t_val' ?_ | refine t_cmp' ?_ | refine t_chain' ?_ | refine t_not' ?_ | refine t_and' ?_ | refine t_or' ?_ | refine ts_nil ?_ | refine ts_cons ?_ | refine x_nil ?_ | refine x_set ?_ | refine x_expr ?_ | refine x_ret ?_ | refine x_retN ?_ | refine x_ifs ?_ | refine x_setIx ?_ | refine x_unpack ?_ | refine l_add ?_ | refine l_sub ?_ | refine l_eqI ?_ | refine l_neI ?_ | refine l_eqB ?_ | refine l_neB ?_ | refine l_lt ?_ | refine l_le ?_ | refine l_gt ?_ | refine l_ge ?_ | refine ifT' rfl ?_ | refine ifF' rfl ?_ | refine ⟨_, rfl, ?_⟩ | refine ⟨rfl, ?_⟩ | refine ⟨Nat.le_of_ble_eq_true rfl, ?_⟩ | refine WC_some rfl ?_ | refine W_some rfl ?_))
    refine l_catT (Nat.le_trans (show l.length + l.length ≤ 40 by omega) (by decide)) ?_
    (repeat (first | refine w_var rfl ?_ | refine w_cst ?_ | refine w_glob ?_ | refine w_nil ?_ | refine w_cons ?_ | refine w_bin ?_ | refine w_ix ?_ | refine w_call ?_ | refine w_blt ?_ | refine w_isi ?_ | refine w_tup ?_ | refine w_lstT ?_ | refine w_lstF ?_ | refine e_and ?_ | refine e_or ?_ | refine w_not ?_ | refine w_neg ?_ | refine w_ite ?_ | refine w_cmp ?_ | refine w_chain ?_ | refine w_slice ?_ | refine w_oN ?_ | refine w_oS ?_ | refine t_val' ?_ | refine t_cmp' ?_ | refine t_chain' ?_ | refine t_not' ?_ | refine t_and' ?_ | refine t_or' ?_ | refine ts_nil ?_ | refine ts_cons ?_ | refine x_nil ?_ | refine x_set ?_ | refine x_expr ?_ | refine x_ret ?_ | refine x_retN ?_ | refine x_ifs ?_ | refine x_setIx ?_ | refine x_unpack ?_ | refine l_add ?_ | refine l_sub ?_ | refine l_eqI ?_ | refine l_neI ?_ | refine l_eqB ?_ | refine l_neB ?_ | refine l_lt ?_ | refine l_le ?_ | refine l_gt ?_ | refine l_ge ?_ | refine ifT' rfl ?_ | refine ifF' rfl ?_ | refine ⟨_, rfl, ?_⟩ | refine ⟨rfl, ?_⟩ | refine ⟨Nat.le_of_ble_eq_true rfl, ?_⟩ | refine WC_some rfl ?_ | refine W_some rfl ?_))
    have g1 : gd (.tup (l ++ [x])) = true := gd_tup (by simp; omega) (by rw [gds_append, hg]; simp [gds, hxg])
    have g2 : ∀ hi, gd (.tup (cutD l none hi)) = true := fun hi => gd_tup (Nat.le_trans cut_len (by omega)) (cut_gd hg)
    have g3 : gd (.lst l) = true := by simp [gd, hg]; omega
    have g4 : gd (.tup (l ++ l)) = true := gd_tup (by simp; omega) (by rw [gds_append, hg]; rfl)
    have g5 : gds [.tup (l ++ [x]), .tup (cutD l none (some ((l.length : Int) - 1))), .lst l, .tup (l ++ l)] = true := by simp only [gds, g1, g2, g3, g4, Bool.and_self]
    refine pick (k := K) (l := [.tup (l ++ [x]), .tup (cutD l none (some ((l.length : Int) - 1))), .lst l, .tup (l ++ l)]) (.inl rfl) (Nat.le_of_ble_eq_true rfl) (Nat.le_of_ble_eq_true rfl) (gds_pu g5) ho2 hR fun j v o3 ho3 hj => ?_
    have hv : gd v = true := gds_get g5 hj
    exact fin_st rfl rfl ho3 hR (gd_pu hv) (q v o3 ho3 hv)
  · have hlt : r.toNat < l.length := by
      have : r ≠ (l.length : Int) := by simpa using he
      omega
    have hr : r = (r.toNat : Int) := by omega
    have hpx := hx l[r.toNat] (List.getElem_mem hlt)
    have hpg := hpx.gd
    generalize hpart : l[r.toNat] = part at hpx hpg
    refine x_nil ?_
    refine x_cons ?_
    refine x_set ?_
    refine w_ix ?_
    refine w_var rfl ?_
    refine w_var rfl ?_
    refine WC_some (d := part) (by
      show L2.atI l r = some part
      rw [← hpart]
      have h2' : r < (l.length : Int) := by omega
      simp [L2.atI, L2.ixN, h1, h2', hlt]) ?_
    refine x_cut (P := fun e2 S2 => ∃ v o3, Stm o3 ∧ gd v = true ∧ e2 = [some (.ref 0), some (.tup l), some (.lst odd), some (.int r), some v] ∧ S2 = o3 :: R) ?_ ?_
    case refine_2 =>
      rintro e2 S2 ⟨v, o3, h3, hv, rfl, rfl⟩
      refine x_cons ?_
      (repeat (first | refine w_var rfl ?_ | refine w_cst ?_ | refine w_glob ?_ | refine w_nil ?_ | refine w_cons ?_ | refine w_bin ?_ | refine w_ix ?_ | refine w_call ?_ | refine w_blt ?_ | refine w_isi ?_ | refine w_tup ?_ | refine w_lstT ?_ | refine w_lstF ?_ | refine e_and ?_ | refine e_or ?_ | refine w_not ?_ | refine w_neg ?_ | refine w_ite ?_ | refine w_cmp ?_ | refine w_chain ?_ | refine w_slice ?_ | refine w_oN ?_ | refine w_oS ?_ | refine t_val' ?_ | refine t_cmp' ?_ | refine t_chain' ?_ | refine t_not' ?_ | refine t_and' ?_ | refine t_or' ?_ | refine ts_nil ?_ | refine ts_cons ?_ | refine x_nil ?_ | refine x_set ?_ | refine x_expr ?_ | refine x_ret ?_ | refine x_retN ?_ | refine x_ifs ?_ | refine x_setIx ?_ | refine x_unpack ?_ | refine l_add ?_ | refine l_sub ?_ | refine l_eqI ?_ | refine l_neI ?_ | refine l_eqB ?_ | refine l_neB ?_ | refine l_lt ?_ | refine l_le ?_ | refine l_gt ?_ | refine l_ge ?_ | refine ifT' rfl ?_ | refine ifF' rfl ?_ | refine ⟨_, rfl, ?_⟩ | refine ⟨rfl, ?_⟩ | refine ⟨Nat.le_of_ble_eq_true rfl, ?_⟩ | refine WC_some rfl ?_ | refine W_some rfl ?_))
      refine l_catT (Nat.le_trans (show _ ≤ 21 by have := cut_len (l := l) (lo := none) (hi := some r); simp; omega) (by decide)) ?_
      (repeat (first | refine w_var rfl ?_ | refine w_cst ?_ | refine w_glob ?_ | refine w_nil ?_ | refine w_cons ?_ | refine w_bin ?_ | refine w_ix ?_ | refine w_call ?_ | refine w_blt ?_ | refine w_isi ?_ | refine w_tup ?_ | refine w_lstT ?_ | refine w_lstF ?_ | refine e_and ?_ | refine e_or ?_ | refine w_not ?_ | refine w_neg ?_ | refine w_ite ?_ | refine w_cmp ?_ | refine w_chain ?_ | refine w_slice ?_ | refine w_oN ?_ | refine w_oS ?_ | refine t_val' ?_ | refine t_cmp' ?_ | refine t_chain' ?_ | refine t_not' ?_ | refine t_and' ?_ | refine t_or' ?_ | refine ts_nil ?_ | refine ts_cons ?_ | refine x_nil ?_ | refine x_set ?_ | refine x_expr ?_ | refine x_ret ?_ | refine x_retN ?_ | refine x_ifs ?_ | refine x_setIx ?_ | refine x_unpack ?_ | refine l_add ?_ | refine l_sub ?_ | refine l_eqI ?_ | refine l_neI ?_ | refine l_eqB ?_ | refine l_neB ?_ | refine l_lt ?_ | refine l_le ?_ | refine l_gt ?_ | refine l_ge ?_ | refine ifT' rfl ?_ | refine ifF' rfl ?_ | refine ⟨_, rfl, ?_⟩ | refine ⟨rfl, ?_⟩ | refine ⟨Nat.le_of_ble_eq_true rfl, ?_⟩ | refine WC_some rfl ?_ | refine W_some rfl ?_))
      refine l_catT (Nat.le_trans (show _ ≤ 60 by have := cut_len (l := l) (lo := none) (hi := some r); have := cut_len (l := l) (lo := some (r + 1)) (hi := none); simp; omega) (by decide)) ?_
      have hv' : gd (.tup (cutD l none (some r) ++ [v] ++ cutD l (some (r + 1)) none)) = true := gd_tup (by have := cut_len (l := l) (lo := none) (hi := some r); have := cut_len (l := l) (lo := some (r + 1)) (hi := none); simp; omega) (by rw [gds_append, gds_append, cut_gd hg, cut_gd hg]; simp [gds, hv])
      exact fin_st rfl rfl h3 hR (gd_pu hv') (q _ o3 h3 hv')
    have other : ∀ (o2 : O), Stm o2 → WS (exs (ex (calls pg (K + 2)) 59) [.set 4 (.call 8 [(.var 0), (.var 2)])] [some (.ref 0), some (.tup l), some (.lst odd), some (.int r), some part] (o2 :: R)) fun fl e2 S2 =>
        fl = .nx ∧ ∃ v o3, Stm o3 ∧ gd v = true ∧ e2 = [some (.ref 0), some (.tup l), some (.lst odd), some (.int r), some v] ∧ S2 = o3 :: R := by
      intro o2 ho2
      refine x_cons ?_
      refine x_set ?_
      refine w_call ?_
      (repeat (first | refine w_var rfl ?_ | refine w_cst ?_ | refine w_glob ?_ | refine w_nil ?_ | refine w_cons ?_ | refine w_bin ?_ | refine w_ix ?_ | refine w_call ?_ | refine w_blt ?_ | refine w_isi ?_ | refine w_tup ?_ | refine w_lstT ?_ | refine w_lstF ?_ | refine e_and ?_ | refine e_or ?_ | refine w_not ?_ | refine w_neg ?_ | refine w_ite ?_ | refine w_cmp ?_ | refine w_chain ?_ | refine w_slice ?_ | refine w_oN ?_ | refine w_oS ?_ | refine t_val' ?_ | refine t_cmp' ?_ | refine t_chain' ?_ | refine t_not' ?_ | refine t_and' ?_ | refine t_or' ?_ | refine ts_nil ?_ | refine ts_cons ?_ | refine x_nil ?_ | refine x_set ?_ | refine x_expr ?_ | refine x_ret ?_ | refine x_retN ?_ | refine x_ifs ?_ | refine x_setIx ?_ | refine x_unpack ?_ | refine l_add ?_ | refine l_sub ?_ | refine l_eqI ?_ | refine l_neI ?_ | refine l_eqB ?_ | refine l_neB ?_ | refine l_lt ?_ | refine l_le ?_ | refine l_gt ?_ | refine l_ge ?_ | refine ifT' rfl ?_ | refine ifF' rfl ?_ | refine ⟨_, rfl, ?_⟩ | refine ⟨rfl, ?_⟩ | refine ⟨Nat.le_of_ble_eq_true rfl, ?_⟩ | refine WC_some rfl ?_ | refine W_some rfl ?_))
      refine pick (l := odd) (.inl rfl) (by decide) (by decide) (by decide +kernel) ho2 hR fun i x o3 ho3 hxi => ?_
      refine x_nil ?_
      exact ⟨rfl, x, o3, ho3, gds_get odd_gd hxi, rfl, rfl⟩
    refine x_ifs ?_
    refine t_and' ?_
    refine t_val' ?_
    refine w_isi ?_
    refine w_var rfl ?_
    cases part with
    | ref n => simp [Tt.L.gd] at hpg
    | fzl n => simp [Tt.L.gd] at hpg
    | tup p =>
      refine WC_some (d := true) rfl ?_
      refine WC_some (d := true) rfl ?_
      refine ifT' rfl ?_
      refine t_and' ?_
      refine t_cmp' ?_
      refine w_var rfl ?_
      refine w_tup ?_
      refine w_nil ?_
      refine ⟨Nat.le_of_ble_eq_true rfl, ?_⟩
      refine l_neE hpx hd ?_
      refine ifB (fun hne => ?_) (fun hne => ?_)
      · refine t_cmp' ?_
        refine w_call ?_
        (repeat (first | refine w_var rfl ?_ | refine w_cst ?_ | refine w_glob ?_ | refine w_nil ?_ | refine w_cons ?_ | refine w_bin ?_ | refine w_ix ?_ | refine w_call ?_ | refine w_blt ?_ | refine w_isi ?_ | refine w_tup ?_ | refine w_lstT ?_ | refine w_lstF ?_ | refine e_and ?_ | refine e_or ?_ | refine w_not ?_ | refine w_neg ?_ | refine w_ite ?_ | refine w_cmp ?_ | refine w_chain ?_ | refine w_slice ?_ | refine w_oN ?_ | refine w_oS ?_ | refine t_val' ?_ | refine t_cmp' ?_ | refine t_chain' ?_ | refine t_not' ?_ | refine t_and' ?_ | refine t_or' ?_ | refine ts_nil ?_ | refine ts_cons ?_ | refine x_nil ?_ | refine x_set ?_ | refine x_expr ?_ | refine x_ret ?_ | refine x_retN ?_ | refine x_ifs ?_ | refine x_setIx ?_ | refine x_unpack ?_ | refine l_add ?_ | refine l_sub ?_ | refine l_eqI ?_ | refine l_neI ?_ | refine l_eqB ?_ | refine l_neB ?_ | refine l_lt ?_ | refine l_le ?_ | refine l_gt ?_ | refine l_ge ?_ | refine ifT' rfl ?_ | refine ifF' rfl ?_ | refine ⟨_, rfl, ?_⟩ | refine ⟨rfl, ?_⟩ | refine ⟨Nat.le_of_ble_eq_true rfl, ?_⟩ | refine WC_some rfl ?_ | refine W_some rfl ?_))
        refine draw ho1 hR (by decide) (by decide) fun r2 o2 ho2 g1 g2 => ?_
        refine w_cst ?_
        refine l_gt ?_
        refine ifB (fun h4 => ?_) (fun h4 => ?_)
        · refine x_cons ?_
          refine x_set ?_
          refine w_call ?_
          refine w_cons ?_
          refine w_var rfl ?_
          refine w_cons ?_
          refine w_var rfl ?_
          refine w_nil ?_
          refine rec p o2 _ (hpart ▸ List.getElem_mem hlt) ho2 fun v o3 h3 hv => ?_
          refine x_nil ?_
          exact ⟨rfl, v, o3, h3, hv, rfl, rfl⟩
        · exact other o2 ho2
      · refine ifF' rfl ?_
        exact other o1 ho1
    | _ =>
      refine WC_some (d := false) rfl ?_
      refine WC_some (d := false) rfl ?_
      refine ifF' rfl ?_
      refine ifF' rfl ?_
      exact other o1 ho1
theorem changed : ∀ (d : Nat), d ≤ 50 → ∀ {k : Nat} {l : List D} {o : O} {R : Sto} {Q : D → Sto → Prop}, l.length ≤ 20 → (∀ x ∈ l, Smv d x) → Stm o → R.all puO = true →
    (∀ v o', Stm o' → gd v = true → Q v (o' :: R)) → W (calls pg (k + d + 3) 16 [.ref 0, .tup l] (o :: R)) Q := by
  intro d
  induction d with
  | zero =>
    intro _ k l o R Q hl hx ho hR q
    exact changed_step (K := k) (d := 0) (by decide) hl hx ho hR (fun p o' Q' hm => absurd (hx _ hm).2 (by simp [flatD])) q
  | succ d ih =>
    intro hd k l o R Q hl hx ho hR q
    refine changed_step (K := k + (d + 1)) (d := d + 1) (by omega) hl hx ho hR (fun p o' Q' hm ho' q' => ?_) q
    rcases hx _ hm with h | ⟨l', e, hl', hx'⟩
    · exact absurd h.2 (by simp [flatD])
    · injection e with e
      subst e
      exact ih (by omega) (k := k) hl' hx' ho' hR q'
end Tt.L
end

section
/-! k16: the law. -/
namespace Tt.L
open PySem Tt Tt.P L2
theorem fin_zero {df : Df} {d : D} {S : Sto} {Q : D → Sto → Prop} (hk : df.keep = false) (hd : puD d = true) (q : Q d []) : W (fin df 0 d S) Q := fin_pure hk hd (by simp) (by simpa using q)
theorem sg_smv {sg : List D} (h : SigOk sg) : ∀ x ∈ sg, Smv 1 x := fun x hx => by
  obtain ⟨w, m, rfl, hw, h0, h3⟩ := h.arity hx
  refine .inr ⟨_, rfl, by simp, fun y hy => ?_⟩
  have : y = .str w ∨ y = .int m := by simpa using hy
  rcases this with rfl | rfl
  · exact ⟨symB_gd hw, rfl⟩
  · exact ⟨rfl, rfl⟩
theorem Smv.up : ∀ {d : Nat} {v : D}, Smv d v → Smv (d + 1) v
  | 0, _, h => .inl h
  | d + 1, _, .inl h => .inl h
  | d + 1, _, .inr ⟨l, e, hl, hx⟩ => .inr ⟨l, e, hl, fun x hx' => Smv.up (hx x hx')⟩
theorem look_kvs {kvs : List (Key × D)} {k : Key} {d : D} (h : lookK kvs k = some d) : ∃ p ∈ kvs, p.2 = d := by
  unfold lookK at h
  obtain ⟨p, hp, e⟩ := Option.map_eq_some_iff.mp h
  exact ⟨p, List.mem_of_find?_eq_some hp, e⟩
theorem mv_smv {sg : List D} {many : Int} {x : D} (hs : SigOk sg) (h : goodMv sg many x) : Smv 2 x := by
  obtain ⟨h, hg⟩ := h
  unfold moveB at h
  split at h
  · rename_i w args st
    split at h
    · rename_i m hm
      rw [Bool.and_eq_true] at h
      obtain ⟨p, hp, e⟩ := look_kvs hm
      rw [hs.tab] at hp
      obtain ⟨y, hy, rfl⟩ := List.mem_map.mp hp
      obtain ⟨w', m', rfl, _, h0, h3⟩ := hs.arity hy
      have em : m' = m := by simpa [arOf] using e
      subst em
      have ha : (args.length : Int) = m' := by simpa using h.1
      have hall := List.all_eq_true.mp h.2
      have num : ∀ z ∈ args ++ [st], Smv 0 z := fun z hz => by
        obtain ⟨i, rfl⟩ := whole_int (hall z hz)
        exact ⟨rfl, rfl⟩
      have hw : Tt.L.gd (.str w) = true := by
        simp only [Tt.L.gd, gds, Bool.and_eq_true] at hg ⊢
        exact hg.2.1
      refine .inr ⟨_, rfl, by simp, fun z hz => ?_⟩
      have hz : z = .str w ∨ z = .tup args ∨ z = st := by simpa using hz
      rcases hz with rfl | rfl | rfl
      · exact .inl ⟨hw, rfl⟩
      · exact .inr ⟨_, rfl, by omega, fun z hz => num z (by simp [hz])⟩
      · exact (num _ (by simp)).up
    · cases h
  · cases h
theorem sig_true {sg : List D} (h : SigOk sg) : sigB (.tup sg) = true := by
  have h1 := h.pos
  have h2 := h.len
  simp only [sigB, Bool.and_eq_true, decide_eq_true_eq]
  exact ⟨⟨⟨by omega, by omega⟩, h.all⟩, h.nd⟩
theorem law {k : Nat} {ns : List Int} (hl : ns.length ≤ 63) : W (calls pg (k + 10) 17 [.fzl (ns.map .int)] []) fun d _ => d = .bl true := by
  refine call_run (di := d17) rfl (w_run rfl ?_)
  refine x_cons ?_
  refine x_set ?_
  refine w_call ?_
  refine w_cons ?_
  refine w_var rfl ?_
  refine w_nil ?_
  refine stream hl fun o ho => ?_
  refine x_cons ?_
  refine x_set ?_
  refine w_call ?_
  refine w_cons ?_
  refine w_var rfl ?_
  refine w_nil ?_
  refine signature ho fun sg o1 hs ho1 => ?_
  refine x_cons ?_
  refine x_set ?_
  refine w_call ?_
  refine w_cons ?_
  refine w_var rfl ?_
  refine w_cons ?_
  refine w_var rfl ?_
  refine w_nil ?_
  refine automaton hs ho1 fun v o2 ho2 hv ⟨many, ml, el, ev, hml, hel, hgm, hge⟩ => ?_
  have hS2 : ([o2] : Sto).all puO = true := by simp [ho2.pu]
  have hsg : gd (.tup sg) = true := gd_tup (Nat.le_trans hs.len (by decide)) hs.gd
  have hvg : gd v = true := by
    subst ev
    exact gd_tup (by simp) (by simp [gds, gd, hge, goodMv_gds hgm]; omega)
  have hsB : sigB (.tup sg) = true := sig_true hs
  refine x_cut (P := fun e2 S2 => e2 = [some (.fzl (ns.map .int)), some (.ref 0), some (.tup sg), some v, none] ∧ S2 = [o2]) ?_ ?_
  case refine_1 =>
    refine x_ifs ?_
    refine t_or' ?_
    refine t_not' ?_
    refine t_val' ?_
    refine w_call ?_
    refine w_cons ?_
    refine w_call ?_
    refine w_cons ?_
    refine w_var rfl ?_
    refine w_nil ?_
    refine sigP hsg hS2 ?_
    refine w_cons ?_
    refine w_cst ?_
    refine w_nil ?_
    refine same hS2 ?_
    rw [hsB]
    refine WC_some (d := true) rfl ?_
    refine ifF' rfl ?_
    refine t_not' ?_
    refine t_val' ?_
    refine w_call ?_
    refine w_cons ?_
    refine w_call ?_
    refine w_cons ?_
    refine w_var rfl ?_
    refine w_cons ?_
    refine w_var rfl ?_
    refine w_nil ?_
    refine autP hs hvg hS2 ?_
    refine w_cons ?_
    refine w_cst ?_
    refine w_nil ?_
    refine same hS2 ?_
    rw [hv]
    refine WC_some (d := true) rfl ?_
    refine ifF' rfl ?_
    refine x_nil ?_
    exact ⟨rfl, rfl, rfl⟩
  rintro e2 S2 ⟨rfl, rfl⟩
  refine x_cons ?_
  refine x_ifs ?_
  refine t_cmp' ?_
  refine w_call ?_
  refine w_cons ?_
  refine w_var rfl ?_
  refine w_cons ?_
  refine w_cst ?_
  refine w_nil ?_
  refine draw ho2 (R := []) rfl (by decide) (by decide) fun r o3 ho3 g1 g2 => ?_
  refine w_cst ?_
  refine l_eqI ?_
  refine ifB (fun he => ?_) (fun he => ?_)
  · refine x_cons ?_
    refine x_set ?_
    refine w_call ?_
    refine w_cons ?_
    refine w_var rfl ?_
    refine w_cons ?_
    refine w_var rfl ?_
    refine w_nil ?_
    refine changed 1 (by decide) (R := []) (Nat.le_trans hs.len (by decide)) (sg_smv hs) ho3 rfl fun u o4 ho4 hu => ?_
    have hS4 : ([o4] : Sto).all puO = true := by simp [ho4.pu]
    refine x_cons ?_
    refine x_ret ?_
    refine w_call ?_
    refine w_cons ?_
    refine w_call ?_
    refine w_cons ?_
    refine w_var rfl ?_
    refine w_nil ?_
    refine sigP hu hS4 ?_
    refine w_cons ?_
    refine w_call ?_
    refine w_cons ?_
    refine w_var rfl ?_
    refine w_nil ?_
    refine sigL hu hS4 ?_
    refine w_nil ?_
    refine same hS4 ?_
    exact fin_zero rfl rfl (by rw [beq_self_eq_true])
  refine x_nil ?_
  refine x_cons ?_
  refine x_set ?_
  refine w_call ?_
  refine w_cons ?_
  refine w_var rfl ?_
  refine w_cons ?_
  refine w_var rfl ?_
  refine w_nil ?_
  subst ev
  have hx : ∀ x ∈ [D.int many, .tup ml, .tup el], Smv 3 x := fun x hx => by
    have hx : x = .int many ∨ x = .tup ml ∨ x = .tup el := by simpa using hx
    rcases hx with rfl | rfl | rfl
    · exact .inl ⟨rfl, rfl⟩
    · exact .inr ⟨_, rfl, by omega, fun z hz => mv_smv hs (hgm z hz)⟩
    · exact .inr ⟨_, rfl, by omega, fun z hz => by
        have hz2 : wholeB z (many - 1) = true := by
          simp only [autB, Bool.and_eq_true] at hv
          exact List.all_eq_true.mp hv.2.1 z hz
        obtain ⟨i, rfl⟩ := whole_int hz2
        exact .inl ⟨rfl, rfl⟩⟩
  refine changed 3 (by decide) (R := []) (by simp) hx ho3 rfl fun u o4 ho4 hu => ?_
  have hS4 : ([o4] : Sto).all puO = true := by simp [ho4.pu]
  refine x_cons ?_
  refine x_ret ?_
  refine w_call ?_
  refine w_cons ?_
  refine w_call ?_
  refine w_cons ?_
  refine w_var rfl ?_
  refine w_cons ?_
  refine w_var rfl ?_
  refine w_nil ?_
  refine autP hs hu hS4 ?_
  refine w_cons ?_
  refine w_call ?_
  refine w_cons ?_
  refine w_var rfl ?_
  refine w_cons ?_
  refine w_var rfl ?_
  refine w_nil ?_
  refine autL hs hu hS4 ?_
  refine w_nil ?_
  refine same hS4 ?_
  exact fin_zero rfl rfl (by rw [beq_self_eq_true])
theorem holdsH (ns : List Int) (hl : ns.length ≤ 63) : ∃ S', Tt.calls pg (20 + 1) 17 [.fzl (ns.map .int)] [] = some (.bl true, S') := by
  obtain ⟨d, S, e, rfl⟩ := law (k := 11) hl
  exact ⟨S, e⟩
end Tt.L
end
open PySem PySem.W PyProof.Rows
set_option maxRecDepth 100000 in
set_option maxHeartbeats 8000000 in
theorem PySem.Challenge.cw_termtide_k16_forms_of_automata_holds : PySem.Challenge.rw_termtide_k16_forms_of_automata.Holds := by
  exact Tt.P.holds 20 (by decide) Tt.L.holdsH
