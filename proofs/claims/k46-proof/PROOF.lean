import PyProof.Rows.All
import Wide.All
import OpenK.AllK
import Wide.FinOn
import HandS.ForMost
import HandS.TupAny
import HandS.TupMul
import HandS.IsInst
import HandS.Wide
import HandS.WordsDict
import HandS.Flow
import HandS.Walk
import HandS.Zip
import HandS.NoneIn
import KE.GoesEnum
import HandS.Head0
import HandS.Head1
import HandS.Head2
import HandS.HeadEnd
import HandS.HeadHook1
import HandS.HeadHook2
import PySem.Challenge.RW_everysample_k46_whole_sheets_laid_over
set_option Elab.async false
set_option linter.all false
section
set_option maxRecDepth 100000
set_option maxHeartbeats 2000000
/-! QCore: pure data, the small language, its evaluator. -/
namespace Q
open PySem L2

/-- data by value: own, odc: a list, a dict of one's own slot alone (it may still change); box: a list that is shared and changes -/
inductive D where
  | non | bl (b : Bool) | int (i : Int) | str (x : Str)
  | tup (xs : List D) | lst (xs : List D) | dic (kvs : List (Key × D))
  | own (xs : List D) | odc (kvs : List (Key × D))
  | scr (ns : List Int) | box (k : Nat) | fn (k : Nat)

def D.frz : D → D
  | .own xs => .lst xs
  | .odc kvs => .dic kvs
  | d => d

structure S where
  loc : List (Option D)
  box : List (List D)

inductive Res (α : Type) where
  | ok (a : α) (s : S) | exc (d : D) (s : S) | bad

def Res.bnd {α β : Type} (r : Res α) (f : α → S → Res β) : Res β := match r with
  | .ok a s => f a s
  | .exc d s => .exc d s
  | .bad => .bad
@[simp] theorem Res.bnd_ok {α β : Type} (a : α) (s : S) (f : α → S → Res β) : (Res.ok a s).bnd f = f a s := rfl
@[simp] theorem Res.bnd_bad {α β : Type} (f : α → S → Res β) : (Res.bad : Res α).bnd f = .bad := rfl
@[simp] theorem Res.bnd_exc {α β : Type} (d : D) (s : S) (f : α → S → Res β) : (Res.exc d s : Res α).bnd f = .exc d s := rfl
/-- an answer that may lack -/
def Res.opt {α : Type} (o : Option α) (s : S) : Res α := match o with
  | some a => .ok a s
  | none => .bad
@[simp] theorem Res.opt_some {α : Type} (a : α) (s : S) : Res.opt (some a) s = .ok a s := rfl
@[simp] theorem Res.opt_none {α : Type} (s : S) : Res.opt (none : Option α) s = .bad := rfl

inductive CR where
  | ok (d : D) (b : List (List D)) | exc (d : D) (b : List (List D)) | bad

inductive BOp where | add | sub | mul | fdiv | mod | pow | shl deriving DecidableEq
inductive COp where | eq | ne | lt | le | gt | ge | isin | notin | isN | notN deriving DecidableEq
inductive Ty where | int | bool | tuple | list | str | dict deriving DecidableEq
inductive Blt where | len | abs | int | min | max | sum | any | all | tuple | list | sorted deriving DecidableEq
inductive Mth where | append | extend | pop deriving DecidableEq

inductive E where
  | nil | cons (e es : E)
  | var (i : Nat) | cst (d : D) | glb (k : Nat) | fnc (k : Nat)
  | bin (o : BOp) (a b : E) | cmp (o : COp) (a b : E) | chn (o p : COp) (a b c : E)
  | and (a b : E) | or (a b : E) | not (a : E) | neg (a : E) | ite (c a b : E)
  | tup (es : E) | lst (es : E) | bxl (es : E) | dic (kvs : E)
  | idx (a i : E) | ixv (v : Nat) (i : E) | slc (a : E) (lo hi : E) | slv (v : Nat) (lo hi : E)
  | call (k : Nat) (es : E) | blt (b : Blt) (es : E) | lenv (v : Nat) | isi (a : E) (ts : List Ty)
  | mut (m : Mth) (v : Nat) (es : E)
  | lc (elt tg it cond : E) (own : List Nat)
  | rng1 (a : E) | rng2 (a b : E) | zip (a b : E) | enm (a : E) | its (a : E) | prt (a : E) | tru (a : E) | trv (v : Nat)

inductive St where
  | nil | seq (a r : St)
  | asg (tg : E) (e : E) | asv (v : Nat) (e : E) | par (v w : Nat) (a b : E) | set (v : Nat) (i e : E) | aug (v : Nat) (o : BOp) (e : E)
  | ex (e : E) | ret (e : E) | retN | ite (c : E) (a b : St) | whl (c : E) (b : St) | for (tg it : E) (b : St)
  | rais (k : Nat) (es : E) | brk | cnt | pass

inductive Flow where | nx | rt (d : D) | bk | ct

abbrev LINE : Nat := 16777216
/-! ### values -/
def D.isFlat : D → Bool
  | .non => true | .bl _ => true | .int _ => true | .str _ => true | _ => false
def D.isNon : D → Bool
  | .non => true | _ => false
mutual
def eqD : D → D → Bool
  | .non, .non => true
  | .bl a, .bl b => a == b
  | .bl a, .int j => (if a then 1 else 0) == j
  | .int i, .bl b => i == (if b then 1 else 0)
  | .int i, .int j => i == j
  | .str x, .str y => x == y
  | .lst xs, .lst ys => eqDs xs ys
  | .tup xs, .tup ys => eqDs xs ys
  | _, _ => false
def eqDs : List D → List D → Bool
  | [], [] => true
  | x :: xs, y :: ys => eqD x y && eqDs xs ys
  | _, _ => false
end
/-- no dicts, at most n deep -/
def shN : Nat → D → Bool
  | _, .non => true | _, .bl _ => true | _, .int _ => true | _, .str x => x.cps.all (· < 0x110000)
  | n + 1, .tup xs => xs.all (shN n)
  | n + 1, .lst xs => xs.all (shN n)
  | _, _ => false
def mulOk (i j : Int) : Bool := decide (i.natAbs.log2 + j.natAbs.log2 < 1000000)
def divOk (j : Int) : Bool := decide (j ≠ 0 ∧ j.natAbs.log2 < 9000)
def powOk (i j : Int) : Bool := decide (0 ≤ j ∧ j ≤ 1000000 ∧ i.natAbs < 2 ^ 64)
def repOk (n : Nat) (k : Int) : Bool := decide (-(2 ^ 63) ≤ k ∧ k < 2 ^ 63 ∧ n * k.toNat ≤ LINE)
def repTOk (n : Nat) (k : Int) : Bool := decide (0 < n ∧ 2 ≤ k ∧ k ≤ 1000 ∧ n ≤ 1000)
def rep (xs : List D) (k : Int) : List D := (List.replicate k.toNat xs).flatten
def opB : BOp → D → D → Option D
  | .add, .int i, .int j => some (.int (i + j))
  | .add, .str x, .str y => if x.length + y.length ≤ LINE then some (.str (x ++ y)) else none
  | .add, .tup xs, .tup ys => if xs.length + ys.length ≤ LINE then some (.tup (xs ++ ys)) else none
  | .add, .lst xs, .lst ys => if xs.length + ys.length ≤ LINE then some (.own (xs ++ ys)) else none
  | .sub, .int i, .int j => some (.int (i - j))
  | .mul, .int i, .int j => if mulOk i j then some (.int (i * j)) else none
  | .mul, .tup xs, .int k => if repTOk xs.length k then some (.tup (rep xs k)) else none
  | .mul, .lst xs, .int k => if repOk xs.length k then some (.own (rep xs k)) else none
  | .fdiv, .int i, .int j => if divOk j then some (.int (i.fdiv j)) else none
  | .mod, .int i, .int j => if j ≠ 0 then some (.int (i.fmod j)) else none
  | .pow, .int i, .int j => if powOk i j then some (.int (i ^ j.toNat)) else none
  | .shl, .int i, .int j => if powOk i j then some (.int (i * 2 ^ j.toNat)) else none
  | _, _, _ => none
/-- in place, of ints -/
def opA : BOp → D → D → Option D
  | .add, .int i, .int j => some (.int (i + j))
  | .sub, .int i, .int j => some (.int (i - j))
  | .mul, .int i, .int j => if mulOk i j then some (.int (i * j)) else none
  | _, _, _ => none
def opC : COp → D → D → Option Bool
  | .eq, x, y => if shN 60 x && shN 60 y then some (eqD x y) else none
  | .ne, x, y => if shN 60 x && shN 60 y then some (!eqD x y) else none
  | .lt, .int i, .int j => some (decide (i < j))
  | .le, .int i, .int j => some (decide (i ≤ j))
  | .gt, .int i, .int j => some (decide (j < i))
  | .ge, .int i, .int j => some (decide (j ≤ i))
  | .isin, x, .tup xs => if x.isFlat && xs.all D.isFlat then some (xs.any fun y => eqD y x) else none
  | .isin, x, .lst xs => if x.isFlat && xs.all D.isFlat then some (xs.any fun y => eqD y x) else none
  | .notin, x, .tup xs => if x.isFlat && xs.all D.isFlat then some (!xs.any fun y => eqD y x) else none
  | .notin, x, .lst xs => if x.isFlat && xs.all D.isFlat then some (!xs.any fun y => eqD y x) else none
  | .isN, x, .non => some x.isNon
  | .notN, x, .non => some (!x.isNon)
  | _, _, _ => none
/-- the items of what stands at an index -/
def D.items : D → Option (List D)
  | .tup xs => some xs | .lst xs => some xs | .own xs => some xs | _ => none
def ixD : D → D → Option D
  | .tup xs, .int i => atI xs i
  | .lst xs, .int i => atI xs i
  | .own xs, .int i => atI xs i
  | _, _ => none
def cutD (xs : List D) (lo hi : Option Int) : List D := (xs.drop (HT.sIx xs.length 0 lo)).take (HT.sIx xs.length xs.length hi - HT.sIx xs.length 0 lo)
def slD (d : D) (l h : Option Int) : Option D := match d with
  | .tup xs => some (.tup (cutD xs l h))
  | .lst xs => some (.own (cutD xs l h))
  | .own xs => some (.own (cutD xs l h))
  | .scr ns => some (.own (cutD (ns.map .int) l h))
  | _ => none
def isTy : D → Ty → Bool
  | .int _, .int => true | .bl _, .int => true | .bl _, .bool => true
  | .tup _, .tuple => true | .lst _, .list => true | .own _, .list => true | .scr _, .list => true | .box _, .list => true
  | .str _, .str => true | .dic _, .dict => true | .odc _, .dict => true
  | _, _ => false
def isTyOk : D → Bool
  | .fn _ => false | _ => true
def lenD : D → Option Nat
  | .tup xs => some xs.length | .lst xs => some xs.length | .own xs => some xs.length | .scr ns => some ns.length
  | .dic kvs => some kvs.length | .odc kvs => some kvs.length
  | .str x => if x.length ≤ LINE then some x.length else none
  | _ => none
def allB : List D → Option (List Bool)
  | [] => some []
  | .bl b :: r => (allB r).map (b :: ·)
  | _ => none
def allI : List D → Option (List Int)
  | [] => some []
  | .int i :: r => (allI r).map (i :: ·)
  | _ => none
def minL : List Int → Int
  | [] => 0
  | [a] => a
  | a :: r => if a ≤ minL r then a else minL r
def maxL : List Int → Int
  | [] => 0
  | [a] => a
  | a :: r => if maxL r ≤ a then a else maxL r
def bltD : Blt → List D → Option D
  | .len, [d] => (lenD d).map fun (n : Nat) => D.int (n : Int)
  | .abs, [.int i] => some (.int (if i < 0 then -i else i))
  | .int, [.int i] => some (.int i)
  | .int, [.bl b] => some (.int (if b then 1 else 0))
  | .min, [.int i, .int j] => some (.int (if j < i then j else i))
  | .max, [.int i, .int j] => some (.int (if j > i then j else i))
  | .min, [.lst xs] => (allI xs).bind fun ns => if 0 < ns.length then some (.int (minL ns)) else none
  | .max, [.lst xs] => (allI xs).bind fun ns => if 0 < ns.length then some (.int (maxL ns)) else none
  | .sum, [.lst xs] => (allI xs).map fun ns => .int ns.sum
  | .any, [.lst xs] => (allB xs).map fun bs => .bl (bs.any id)
  | .all, [.lst xs] => (allB xs).map fun bs => .bl (bs.all id)
  | .tuple, [.lst xs] => some (.tup xs)
  | .tuple, [.tup xs] => some (.tup xs)
  | .list, [.lst xs] => some (.own xs)
  | .list, [.tup xs] => some (.own xs)
  | _, _ => none
def truD : D → Option Bool
  | .bl b => some b
  | .non => some false
  | .int i => some (i != 0)
  | .str x => if x.length ≤ LINE then some (x.length != 0) else none
  | .tup xs => some (!xs.isEmpty)
  | .lst xs => some (!xs.isEmpty)
  | .own xs => some (!xs.isEmpty)
  | .dic xs => some (!xs.isEmpty)
  | .odc xs => some (!xs.isEmpty)
  | _ => none
def rangeD (lo : Int) (n : Nat) : List D := (List.range n).map fun i => D.int (lo + (i : Nat))
def rngOk (i j : Int) : Bool := decide (-(2 ^ 62) ≤ i ∧ i < 2 ^ 62 ∧ -(2 ^ 62) ≤ j ∧ j < 2 ^ 62 ∧ (j - i).toNat ≤ LINE)
def rangeC (lo c : Int) (n : Nat) : List D := (List.range n).map fun i => D.int (lo + (i : Nat) * c)
def zipD : List D → List D → List D
  | x :: xs, y :: ys => .tup [x, y] :: zipD xs ys
  | _, _ => []
def enumD : Nat → List D → List D
  | _, [] => []
  | n, x :: xs => .tup [.int n, x] :: enumD (n + 1) xs
def keyD : D → Option Key
  | .int i => some (.inl i)
  | .str x => some (.inr x)
  | _ => none
def pairsD : List D → Option (List (Key × D))
  | [] => some []
  | k :: v :: r => (keyD k).bind fun kk => (pairsD r).map ((kk, v) :: ·)
  | _ => none
def mergeD (kvs : List (Key × D)) : List (Key × D) → List (Key × D)
  | [] => kvs
  | (k, v) :: r => mergeD (if kvs.any (fun p => decide (p.1 = k)) then kvs.map (fun p => if p.1 = k then (k, v) else p) else kvs ++ [(k, v)]) r

/-! ### slots -/
def S.get (s : S) (i : Nat) : Option D := (s.loc[i]?).bind id
def S.put (s : S) (i : Nat) (d : D) : S := { s with loc := s.loc.set i (some d) }
/-- a slot's own list is given out: it stands still from now on -/
def S.frz (s : S) (i : Nat) : S := match s.get i with
  | some (.own xs) => s.put i (.lst xs)
  | some (.odc xs) => s.put i (.dic xs)
  | _ => s
def S.frzs (s : S) : List Nat → S
  | [] => s
  | i :: r => (s.frz i).frzs r
def wipeL (l : List (Option D)) : List Nat → List (Option D)
  | [] => l
  | i :: r => (wipeL l r).set i none
def backL (l o : List (Option D)) : List Nat → List (Option D)
  | [] => l
  | i :: r => (backL l o r).set i ((o[i]?).getD none)
def asgT : E → D → S → Option S
  | .var i, d, s => if i < s.loc.length then some (s.put i d) else none
  | .tup es, .tup ds, s => asgTs es ds s
  | .tup es, .lst ds, s => asgTs es ds s
  | _, _, _ => none
where asgTs : E → List D → S → Option S
  | .nil, [], s => some s
  | .cons e es, d :: ds, s => (asgT e d s).bind fun s' => asgTs es ds s'
  | _, _, _ => none
/-- the content of a slot as a container: a box is looked up -/
def S.cont (s : S) (v : Nat) : Option D := (s.get v).bind fun d => match d with
  | .box k => (s.box[k]?).map .own
  | d => some d
def S.setItem (s : S) (v : Nat) (i x : D) : Option S := (s.get v).bind fun d => match d, i with
  | .own xs, .int k => (ixN xs.length k).map fun j => s.put v (.own (xs.set j x))
  | .box b, .int k => (s.box[b]?).bind fun xs => (ixN xs.length k).map fun j => { s with box := s.box.set b (xs.set j x) }
  | _, _ => none
def mutD (s : S) (v : Nat) : Mth → List D → Option (D × S)
  | .append, [x] => (s.get v).bind fun d => match d with
    | .own xs => if xs.length < LINE then some (.non, s.put v (.own (xs ++ [x]))) else none
    | _ => none
  | .extend, [.lst ys] => (s.get v).bind fun d => match d with
    | .own xs => if xs.length + ys.length ≤ LINE then some (.non, s.put v (.own (xs ++ ys))) else none
    | _ => none
  | .pop, [] => (s.get v).bind fun d => match d with
    | .own xs => (xs[xs.length - 1]?).map fun y => (y, s.put v (.own xs.dropLast))
    | _ => none
  | .pop, [.int i] => (s.get v).bind fun d => match d with
    | .own xs => if -(2 ^ 63) ≤ i ∧ i < 2 ^ 63 then (ixN xs.length i).bind fun k => (xs[k]?).map fun y => (y, s.put v (.own (xs.eraseIdx k))) else none
    | _ => none
  | _, _ => none

def ownL (s : S) (v : Nat) : Bool := match s.get v with
  | some (.own _) => true
  | _ => false
/-! ### the evaluator -/
def lcL (f : D → S → Res (Option D)) : List D → S → Res (List D)
  | [], s => .ok [] s
  | d :: ds, s => (f d s).bnd fun o s1 => (lcL f ds s1).bnd fun r s2 => .ok (match o with | some x => x :: r | none => r) s2
def forL (f : D → S → Res Flow) : List D → S → Res Flow
  | [], s => .ok .nx s
  | d :: ds, s => (f d s).bnd fun fl s1 => match fl with
    | .nx => forL f ds s1
    | .ct => forL f ds s1
    | .bk => .ok .nx s1
    | .rt x => .ok (.rt x) s1
def whlL (c : S → Res Bool) (b : S → Res Flow) : Nat → S → Res Flow
  | 0, _ => .bad
  | n + 1, s => (c s).bnd fun k s1 => if k then (b s1).bnd fun fl s2 => (match fl with
    | .nx => whlL c b n s2
    | .ct => whlL c b n s2
    | .bk => .ok .nx s2
    | .rt x => .ok (.rt x) s2) else .ok .nx s1

structure Env where
  call : Nat → List D → List (List D) → CR
  glb : Nat → Option D

def callR (c : Env) (k : Nat) (xs : List D) (s : S) : Res D := match c.call k xs s.box with
  | .ok d b => .ok d { s with box := b }
  | .exc d b => .exc d { s with box := b }
  | .bad => .bad
/-- nothing is raised out of a comprehension's turn -/
def Res.nox {α : Type} : Res α → Res α
  | .exc _ _ => .bad
  | r => r

mutual
def evE (c : Env) : E → S → Res D
  | .var i, s => Res.opt ((s.get i).map D.frz) (s.frz i)
  | .cst d, s => .ok d s
  | .glb k, s => Res.opt (c.glb k) s
  | .fnc k, s => .ok (.fn k) s
  | .bin o a b, s => (evE c a s).bnd fun x s1 => (evE c b s1).bnd fun y s2 => Res.opt (opB o x.frz y.frz) s2
  | .cmp o a b, s => (evE c a s).bnd fun x s1 => (evE c b s1).bnd fun y s2 => Res.opt ((opC o x.frz y.frz).map .bl) s2
  | .chn o p a b d, s => (evE c a s).bnd fun x s1 => (evE c b s1).bnd fun y s2 => (Res.opt (opC o x.frz y.frz) s2).bnd fun k s3 =>
      if k then (evE c d s3).bnd fun z s4 => Res.opt ((opC p y.frz z.frz).map .bl) s4 else .ok (.bl false) s3
  | .and a b, s => (evE c a s).bnd fun x s1 => match x with
    | .bl true => (evE c b s1).bnd fun y s2 => .ok y.frz s2
    | .bl false => .ok (.bl false) s1
    | _ => .bad
  | .or a b, s => (evE c a s).bnd fun x s1 => match x with
    | .bl false => (evE c b s1).bnd fun y s2 => .ok y.frz s2
    | .bl true => .ok (.bl true) s1
    | _ => .bad
  | .not a, s => (evE c a s).bnd fun x s1 => match x with
    | .bl k => .ok (.bl (!k)) s1
    | _ => .bad
  | .neg a, s => (evE c a s).bnd fun x s1 => match x with
    | .int i => .ok (.int (-i)) s1
    | _ => .bad
  | .ite t a b, s => (evT c t s).bnd fun k s1 => if k then (evE c a s1).bnd fun y s2 => .ok y.frz s2 else (evE c b s1).bnd fun y s2 => .ok y.frz s2
  | .tup es, s => (evA c es s).bnd fun xs s1 => if xs.length ≤ LINE then .ok (.tup xs) s1 else .bad
  | .lst es, s => (evA c es s).bnd fun xs s1 => if xs.length ≤ LINE then .ok (.own xs) s1 else .bad
  | .bxl es, s => (evA c es s).bnd fun xs s1 => if xs.length ≤ LINE then .ok (.box s1.box.length) { s1 with box := s1.box ++ [xs] } else .bad
  | .dic kvs, s => (evA c kvs s).bnd fun xs s1 => (Res.opt (pairsD xs) s1).bnd fun ps s2 => if ps.length ≤ 15 then .ok (.odc (mergeD [] ps)) s2 else .bad
  | .idx a i, s => (evE c a s).bnd fun x s1 => (evE c i s1).bnd fun y s2 => Res.opt (ixD x.frz y.frz) s2
  | .ixv v i, s => if (s.get v).isSome then (evE c i s).bnd fun y s1 => Res.opt ((s1.cont v).bind fun x => ixD x y.frz) s1 else .bad
  | .slc a lo hi, s => (evE c a s).bnd fun x s1 => (evO c lo s1).bnd fun l s2 => (evO c hi s2).bnd fun h s3 => Res.opt (slD x.frz l h) s3
  | .slv v lo hi, s => if (s.get v).isSome then (evO c lo s).bnd fun l s2 => (evO c hi s2).bnd fun h s3 => Res.opt ((s3.cont v).bind fun x => slD x l h) s3 else .bad
  | .call k es, s => (evA c es s).bnd fun xs s1 => callR c k xs s1
  | .blt b es, s => (evA c es s).bnd fun xs s1 => Res.opt (bltD b xs) s1
  | .lenv v, s => Res.opt (((s.cont v).bind lenD).map fun (n : Nat) => D.int (n : Int)) s
  | .isi a ts, s => (evE c a s).bnd fun x s1 => if isTyOk x then .ok (.bl (ts.any (isTy x.frz))) s1 else .bad
  | .mut m v es, s => if ownL s v then (evA c es s).bnd fun xs s1 => (Res.opt (mutD s1 v m xs) s1).bnd fun p _ => .ok p.1 p.2 else .bad
  | .lc elt tg it cond own, s => (evI c it s).bnd fun ds s1 => if ds.length ≤ LINE then
      (lcL (fun d s2 => (Res.opt (asgT tg d { s2 with loc := wipeL s2.loc own }) s2).bnd fun s3 _ => (evT c cond s3).nox.bnd fun k s4 =>
        if k then (evE c elt s4).nox.bnd fun y s5 => .ok (some y.frz) s5 else .ok none s4) ds (s1.frzs own)).bnd fun ys s2 => .ok (.own ys) { s2 with loc := backL s2.loc (s1.frzs own).loc own }
      else .bad
  | _, _ => .bad
/-- a slice's part -/
def evO (c : Env) : E → S → Res (Option Int)
  | .nil, s => .ok none s
  | .prt a, s => (evE c a s).bnd fun d s1 => match d with
    | .int i => .ok (some i) s1
    | _ => .bad
  | _, _ => .bad
/-- in a test's place -/
def evT (c : Env) : E → S → Res Bool
  | .nil, s => .ok true s
  | .and a b, s => (evT c a s).bnd fun k s1 => if k then evT c b s1 else .ok false s1
  | .or a b, s => (evT c a s).bnd fun k s1 => if k then .ok true s1 else evT c b s1
  | .not a, s => (evT c a s).bnd fun k s1 => .ok (!k) s1
  | .tru a, s => (evE c a s).bnd fun d s1 => Res.opt (truD d) s1
  | .trv v, s => Res.opt ((s.get v).bind truD) s
  | _, _ => .bad
def evA (c : Env) : E → S → Res (List D)
  | .nil, s => .ok [] s
  | .cons e es, s => (evE c e s).bnd fun x s1 => (evA c es s1).bnd fun xs s2 => .ok (x.frz :: xs) s2
  | _, _ => .bad
/-- what a loop walks, as it stands at the loop's head -/
def evI (c : Env) : E → S → Res (List D)
  | .rng1 a, s => (evE c a s).bnd fun x s1 => match x with
    | .int j => if rngOk 0 j then .ok (rangeD 0 j.toNat) s1 else .bad
    | _ => .bad
  | .rng2 a b, s => (evE c a s).bnd fun x s1 => (evE c b s1).bnd fun y s2 => match x, y with
    | .int i, .int j => if rngOk i j then .ok (rangeD i (j - i).toNat) s2 else .bad
    | _, _ => .bad
  | .zip a b, s => (evE c a s).bnd fun x s1 => (evE c b s1).bnd fun y s2 => match x.frz.items, y.frz.items with
    | some xs, some ys => .ok (zipD xs ys) s2
    | _, _ => .bad
  | .enm a, s => (evE c a s).bnd fun x s1 => match x.frz.items with
    | some xs => .ok (enumD 0 xs) s1
    | _ => .bad
  | .its a, s => (evE c a s).bnd fun x s1 => Res.opt x.frz.items s1
  | _, _ => .bad
end

def evS (c : Env) (L : Nat) : St → S → Res Flow
  | .nil, s => .ok .nx s
  | .seq a r, s => (evS c L a s).bnd fun fl s1 => match fl with
    | .nx => evS c L r s1
    | fl => .ok fl s1
  | .asg tg e, s => (evE c e s).bnd fun d s1 => (Res.opt (asgT tg d s1) s1).bnd fun s2 _ => .ok .nx s2
  | .asv v e, s => (evE c e s).bnd fun d s1 => if v < s1.loc.length then .ok .nx (s1.put v d) else .bad
  | .par v w a b, s => (evE c a s).bnd fun x s1 => (evE c b s1).bnd fun y s2 => if v < s2.loc.length ∧ w < s2.loc.length ∧ v ≠ w then .ok .nx ((s2.put v x).put w y) else .bad
  | .set v i e, s => (evE c e s).bnd fun x s1 => if (s1.get v).isSome then (evE c i s1).bnd fun k s2 => (Res.opt (s2.setItem v k.frz x.frz) s2).bnd fun s3 _ => .ok .nx s3 else .bad
  | .aug v o e, s => match s.get v with
    | some x => (evE c e s).bnd fun y s1 => (Res.opt (opA o x y.frz) s1).bnd fun z s2 => .ok .nx (s2.put v z)
    | none => .bad
  | .ex e, s => (evE c e s).bnd fun _ s1 => .ok .nx s1
  | .ret e, s => (evE c e s).bnd fun d s1 => .ok (.rt d) s1
  | .retN, s => .ok (.rt .non) s
  | .ite t a b, s => (evT c t s).bnd fun k s1 => if k then evS c L a s1 else evS c L b s1
  | .whl t b, s => whlL (evT c t) (evS c L b) L s
  | .for tg it b, s => (evI c it s).bnd fun ds s1 => forL (fun d s2 => (Res.opt (asgT tg d s2) s2).bnd fun s3 _ => evS c L b s3) ds s1
  | .brk, s => .ok .bk s
  | .cnt, s => .ok .ct s
  | .pass, s => .ok .nx s
  | .rais k es, s => (evA c es s).bnd fun xs s1 => .exc (.tup (.fn k :: xs)) s1

structure Fn where
  np : Nat
  nn : Nat
  body : St
def startL (f : Fn) (xs : List D) : List (Option D) := xs.map some ++ List.replicate (f.nn - xs.length) none
def runF (c : Env) (L : Nat) (f : Fn) (xs : List D) (b : List (List D)) : CR :=
  if xs.length = f.np then match evS c L f.body ⟨startL f xs, b⟩ with
    | .ok (.rt d) s => .ok d s.box
    | .ok .nx s => .ok .non s.box
    | .exc d s => .exc d s.box
    | _ => .bad
  else .bad
def callN (tbl : Nat → Option Fn) (glb : Nat → Option D) (L : Nat) : Nat → Nat → List D → List (List D) → CR
  | 0, _, _, _ => .bad
  | n + 1, k, xs, b => match tbl k with
    | some f => runF ⟨callN tbl glb L n, glb⟩ L f xs b
    | none => .bad
end Q
end

section
set_option maxRecDepth 100000
set_option maxHeartbeats 2000000
/-! QRep: how data stand in the heap; what is held of a frame's state. -/
namespace Q
open PySem PySem.Spec PyProof.Rows L2

def Ex (H H' : Hp) : Prop := ∀ a o, H a = some o → H' a = some o
theorem Ex.refl (H : Hp) : Ex H H := fun _ _ h => h
theorem Ex.trans {H H1 H2 : Hp} (a : Ex H H1) (b : Ex H1 H2) : Ex H H2 := fun x o h => b x o (a x o h)
theorem Ex.new {H : Hp} {p : Addr} {o : HO} (h : H p = none) : Ex H (upd H p o) := fun a u e => by
  rw [upd_ne (ne_of_none e h)]; exact e
theorem Ex.mut {H H' : Hp} {p : Addr} {o : HO} (e : Ex H H') (h : H p = none) : Ex H (upd H' p o) := fun a u ha => by
  rw [upd_ne (ne_of_none ha h)]; exact e a u ha
theorem Ex.free {H H' : Hp} {p : Addr} (e : Ex H H') (h : H' p = none) : H p = none := by
  cases q : H p with
  | none => rfl
  | some o => rw [e p o q] at h; cases h
theorem ex_rd {H H' : Hp} {a : Addr} {u : HO} (e : Ex H H') (h : Rd H a u) : Rd H' a u := by
  rcases h with h | ⟨o, h⟩
  · exact .inl (e a _ h)
  · exact .inr ⟨o, e a _ h⟩
theorem ex_l {K : PySem.W.Frag} {H H' : Hp} {a : Addr} {xs : List V} (e : Ex H H') (h : SqL K H a xs) : SqL K H' a xs := by
  rcases h with h | h
  · exact .inl (ex_rd e h)
  · exact .inr h
theorem ex_t {K : PySem.W.Frag} {H H' : Hp} {a : Addr} {xs : List V} (e : Ex H H') (h : SqT K H a xs) : SqT K H' a xs := by
  rcases h with h | h
  · exact .inl (ex_rd e h)
  · exact .inr h

section
variable (K : PySem.W.Frag) (fa : Nat → Option Addr) (F : Hp) (B : List Addr)
mutual
/-- a value for good: what it is made of does not change -/
def Rep : D → V → Prop
  | .non, v => v = .non
  | .bl b, v => v = .bl b
  | .int i, v => v = .int i
  | .str x, v => v = .str x
  | .tup ds, v => ∃ p vs, v = .ref p ∧ SqT K F p vs ∧ Reps ds vs
  | .lst ds, v => ∃ p vs, v = .ref p ∧ F p = some (.lst vs) ∧ Reps ds vs
  | .dic kvs, v => ∃ p ws, v = .ref p ∧ F p = some (.dK ws) ∧ RepK kvs ws
  | .scr ns, v => ∃ p, v = .ref p ∧ SqL K F p (ns.map V.int)
  | .box k, v => ∃ p, v = .ref p ∧ B[k]? = some p
  | .fn k, v => ∃ p, v = .ref p ∧ fa k = some p
  | .own _, _ => False
  | .odc _, _ => False
def Reps : List D → List V → Prop
  | [], vs => vs = []
  | d :: ds, vs => ∃ w ws, vs = w :: ws ∧ Rep d w ∧ Reps ds ws
def RepK : List (Key × D) → List (Key × V) → Prop
  | [], vs => vs = []
  | (k, d) :: ds, vs => ∃ w ws, vs = (k, w) :: ws ∧ Rep d w ∧ RepK ds ws
end
end
section
variable {K : PySem.W.Frag} {fa : Nat → Option Addr} {F F' : Hp} {B B' : List Addr}
mutual
theorem Rep.mono (e : Ex F F') (b : ∃ r, B' = B ++ r) : ∀ (d : D) (v : V), Rep K fa F B d v → Rep K fa F' B' d v
  | .non, v, h => h
  | .bl b, v, h => h
  | .int i, v, h => h
  | .str x, v, h => h
  | .tup ds, v, h => by
    unfold Rep at h ⊢
    obtain ⟨p, vs, h1, h2, h3⟩ := h
    exact ⟨p, vs, h1, ex_t e h2, Reps.mono e b ds vs h3⟩
  | .lst ds, v, h => by
    unfold Rep at h ⊢
    obtain ⟨p, vs, h1, h2, h3⟩ := h
    exact ⟨p, vs, h1, e _ _ h2, Reps.mono e b ds vs h3⟩
  | .dic kvs, v, h => by
    unfold Rep at h ⊢
    obtain ⟨p, vs, h1, h2, h3⟩ := h
    exact ⟨p, vs, h1, e _ _ h2, RepK.mono e b kvs vs h3⟩
  | .scr ns, v, h => by
    unfold Rep at h ⊢
    obtain ⟨p, h1, h2⟩ := h
    exact ⟨p, h1, ex_l e h2⟩
  | .box k, v, h => by
    unfold Rep at h ⊢
    obtain ⟨p, h1, h2⟩ := h
    obtain ⟨r, rfl⟩ := b
    exact ⟨p, h1, by rw [List.getElem?_append_left (List.getElem?_eq_some_iff.mp h2).1]; exact h2⟩
  | .fn k, v, h => h
  | .own _, _, h => h
  | .odc _, _, h => h
theorem Reps.mono (e : Ex F F') (b : ∃ r, B' = B ++ r) : ∀ (ds : List D) (vs : List V), Reps K fa F B ds vs → Reps K fa F' B' ds vs
  | [], vs, h => h
  | d :: ds, vs, h => by
    unfold Reps at h ⊢
    obtain ⟨w, ws, h1, h2, h3⟩ := h
    exact ⟨w, ws, h1, Rep.mono e b d w h2, Reps.mono e b ds ws h3⟩
theorem RepK.mono (e : Ex F F') (b : ∃ r, B' = B ++ r) : ∀ (ds : List (Key × D)) (vs : List (Key × V)), RepK K fa F B ds vs → RepK K fa F' B' ds vs
  | [], vs, h => h
  | (k, d) :: ds, vs, h => by
    unfold RepK at h ⊢
    obtain ⟨w, ws, h1, h2, h3⟩ := h
    exact ⟨w, ws, h1, Rep.mono e b d w h2, RepK.mono e b ds ws h3⟩
end
theorem Reps.length : ∀ {ds : List D} {vs : List V}, Reps K fa F B ds vs → vs.length = ds.length
  | [], vs, h => by unfold Reps at h; rw [h]; rfl
  | d :: ds, vs, h => by
    unfold Reps at h
    obtain ⟨w, ws, rfl, _, h3⟩ := h
    simp [Reps.length h3]
theorem Reps.get : ∀ {ds : List D} {vs : List V} {i : Nat} {d : D}, Reps K fa F B ds vs → ds[i]? = some d → ∃ v, vs[i]? = some v ∧ Rep K fa F B d v
  | [], vs, i, d, h, e => by simp at e
  | d0 :: ds, vs, i, d, h, e => by
    unfold Reps at h
    obtain ⟨w, ws, rfl, h2, h3⟩ := h
    cases i with
    | zero => simp at e; subst e; exact ⟨w, rfl, h2⟩
    | succ i =>
      obtain ⟨v, h4, h5⟩ := Reps.get (i := i) (d := d) h3 (by simpa using e)
      exact ⟨v, by simpa using h4, h5⟩
theorem Reps.set : ∀ {ds : List D} {vs : List V} (i : Nat) {d : D} {v : V}, Reps K fa F B ds vs → Rep K fa F B d v → Reps K fa F B (ds.set i d) (vs.set i v)
  | [], vs, i, d, v, h, r => by unfold Reps at h; subst h; simp [Reps]
  | d0 :: ds, vs, i, d, v, h, r => by
    unfold Reps at h
    obtain ⟨w, ws, rfl, h2, h3⟩ := h
    cases i with
    | zero => unfold List.set; unfold Reps; exact ⟨v, ws, rfl, r, h3⟩
    | succ i =>
      show Reps K fa F B (d0 :: ds.set i d) (w :: ws.set i v)
      unfold Reps
      exact ⟨w, _, rfl, h2, Reps.set i h3 r⟩
theorem Reps.append : ∀ {ds es : List D} {vs ws : List V}, Reps K fa F B ds vs → Reps K fa F B es ws → Reps K fa F B (ds ++ es) (vs ++ ws)
  | [], es, vs, ws, h, r => by unfold Reps at h; subst h; exact r
  | d :: ds, es, vs, ws, h, r => by
    unfold Reps at h
    obtain ⟨w, us, rfl, h2, h3⟩ := h
    show Reps K fa F B (d :: (ds ++ es)) (w :: (us ++ ws))
    unfold Reps
    exact ⟨w, _, rfl, h2, Reps.append h3 r⟩
theorem Reps.one {d : D} {v : V} (r : Rep K fa F B d v) : Reps K fa F B [d] [v] := by
  unfold Reps; exact ⟨v, [], rfl, r, by unfold Reps; rfl⟩
theorem Reps.nil : Reps K fa F B [] [] := by unfold Reps; rfl
theorem Reps.cons {d : D} {ds : List D} {v : V} {vs : List V} (r : Rep K fa F B d v) (q : Reps K fa F B ds vs) : Reps K fa F B (d :: ds) (v :: vs) := by
  unfold Reps; exact ⟨v, vs, rfl, r, q⟩
theorem Reps.drop : ∀ {ds : List D} {vs : List V} (n : Nat), Reps K fa F B ds vs → Reps K fa F B (ds.drop n) (vs.drop n)
  | ds, vs, 0, h => h
  | [], vs, n + 1, h => by unfold Reps at h; subst h; exact .nil
  | d :: ds, vs, n + 1, h => by
    unfold Reps at h
    obtain ⟨w, us, rfl, h2, h3⟩ := h
    exact Reps.drop n h3
theorem Reps.take : ∀ {ds : List D} {vs : List V} (n : Nat), Reps K fa F B ds vs → Reps K fa F B (ds.take n) (vs.take n)
  | ds, vs, 0, h => .nil
  | [], vs, n + 1, h => by unfold Reps at h; subst h; exact .nil
  | d :: ds, vs, n + 1, h => by
    unfold Reps at h
    obtain ⟨w, us, rfl, h2, h3⟩ := h
    exact .cons h2 (Reps.take n h3)
theorem Reps.eraseIdx : ∀ {ds : List D} {vs : List V} (n : Nat), Reps K fa F B ds vs → Reps K fa F B (ds.eraseIdx n) (vs.eraseIdx n)
  | [], vs, n, h => by unfold Reps at h; subst h; exact .nil
  | d :: ds, vs, 0, h => by
    unfold Reps at h
    obtain ⟨w, us, rfl, h2, h3⟩ := h
    exact h3
  | d :: ds, vs, n + 1, h => by
    unfold Reps at h
    obtain ⟨w, us, rfl, h2, h3⟩ := h
    exact .cons h2 (Reps.eraseIdx n h3)
theorem Reps.ints : ∀ (ns : List Int), Reps K fa F B (ns.map D.int) (ns.map V.int)
  | [] => .nil
  | n :: ns => .cons (by unfold Rep; rfl) (Reps.ints ns)
theorem Reps.rep {ds : List D} {vs : List V} (h : Reps K fa F B ds vs) : ∀ k : Nat, Reps K fa F B (List.replicate k ds).flatten (List.replicate k vs).flatten
  | 0 => .nil
  | k + 1 => by
    rw [List.replicate_succ, List.replicate_succ, List.flatten_cons, List.flatten_cons]
    exact Reps.append h (Reps.rep h k)
theorem Reps.at_ {ds : List D} {vs : List V} {i : Int} {d : D} (h : Reps K fa F B ds vs) (e : atI ds i = some d) : ∃ v, atI vs i = some v ∧ Rep K fa F B d v := by
  unfold atI at e ⊢
  rw [h.length]
  cases q : ixN ds.length i with
  | none => rw [q] at e; simp at e
  | some j =>
    rw [q] at e
    exact h.get (by simpa using e)
theorem Reps.cut {ds : List D} {vs : List V} (h : Reps K fa F B ds vs) (lo hi : Option Int) : Reps K fa F B (cutD ds lo hi) (cutV vs lo hi) := by
  unfold cutD cutV
  rw [h.length]
  exact (h.drop _).take _
end
end Q
end

section
set_option maxRecDepth 100000
set_option maxHeartbeats 2000000
/-! QRel: what is held of a frame's state. -/
namespace Q
open PySem PySem.Spec PyProof.Rows L2

def D.isOwn : D → Bool
  | .own _ => true | .odc _ => true | _ => false
theorem frz_of {d : D} (h : d.isOwn = false) : d.frz = d := by cases d <;> first | rfl | cases h
theorem frz_frz (d : D) : d.frz.frz = d.frz := by cases d <;> rfl
theorem frz_own (d : D) : d.frz.isOwn = false := by cases d <;> rfl

section
variable (K : PySem.W.Frag) (fa : Nat → Option Addr) (W F : Hp) (B : List Addr)
/-- a slot's value: an own list, an own dict, or a value for good -/
def SlV (H : Hp) (d : D) (v : V) : Prop := match d with
  | .own xs => ∃ p vs, v = .ref p ∧ H p = some (.lst vs) ∧ Reps K fa F B xs vs ∧ W p = none ∧ F p = none ∧ p ∉ B
  | .odc kvs => ∃ p ws, v = .ref p ∧ H p = some (.dK ws) ∧ RepK K fa F B kvs ws ∧ W p = none ∧ F p = none ∧ p ∉ B
  | d => Rep K fa F B d v
structure Rel (s : S) (σ : L2.St) (H : Hp) : Prop where
  ew : Ex W H
  ef : Ex F H
  len : σ.length = s.loc.length
  slot : ∀ i d, s.get i = some d → ∃ v, σ[i]? = some (some v) ∧ SlV K fa W F B H d v
  apart : ∀ i j d e v, i ≠ j → s.get i = some d → s.get j = some e → d.isOwn = true → e.isOwn = true → σ[i]? = some (some v) → σ[j]? = some (some v) → False
  bl : B.length = s.box.length
  bx : ∀ (k : Nat) (xs : List D), s.box[k]? = some xs → ∃ (p : Addr) (vs : List V), B[k]? = some p ∧ H p = some (.lst vs) ∧ Reps K fa F B xs vs ∧ W p = none ∧ F p = none
  bd : B.Nodup
/-- a result: if it may still change, no slot has it -/
def RR (s : S) (σ : L2.St) (H : Hp) (d : D) (v : V) : Prop :=
  SlV K fa W F B H d v ∧ (d.isOwn = true → ∀ i e, s.get i = some e → e.isOwn = true → σ[i]? ≠ some (some v))
end
structure Stp (W F : Hp) (B : List Addr) (F' : Hp) (B' : List Addr) : Prop where
  ex : Ex F F'
  gr : ∀ p o, F' p = some o → F p = some o ∨ W p = none
  bs : ∃ r, B' = B ++ r
theorem Stp.refl {W F : Hp} {B : List Addr} : Stp W F B F B := ⟨Ex.refl _, fun _ _ h => .inl h, [], by simp⟩
theorem Stp.trans {W F F1 F2 : Hp} {B B1 B2 : List Addr} (a : Stp W F B F1 B1) (b : Stp W F1 B1 F2 B2) : Stp W F B F2 B2 := by
  refine ⟨a.ex.trans b.ex, fun p o h => ?_, ?_⟩
  · rcases b.gr p o h with h | h
    · exact a.gr p o h
    · exact .inr h
  · obtain ⟨r, rfl⟩ := a.bs
    obtain ⟨q, rfl⟩ := b.bs
    exact ⟨r ++ q, by simp⟩

section
variable {K : PySem.W.Frag} {fa : Nat → Option Addr} {W F F' : Hp} {B B' : List Addr} {s s' : S} {σ : L2.St} {H H' : Hp} {d : D} {v : V}
theorem SlV.rep (h : SlV K fa W F B H d v) (o : d.isOwn = false) : Rep K fa F B d v := by
  cases d <;> first | exact h | cases o
theorem SlV.of (h : Rep K fa F B d v) : SlV K fa W F B H d v := by
  cases d <;> first | exact h | (unfold Rep at h; exact h.elim)
theorem Rep.notOwn (h : Rep K fa F B d v) : d.isOwn = false := by
  cases d <;> first | rfl | (unfold Rep at h; exact h.elim)
theorem RR.of (h : Rep K fa F B d v) : RR K fa W F B s σ H d v := ⟨SlV.of h, fun o => by rw [h.notOwn] at o; cases o⟩
theorem RR.rep (h : RR K fa W F B s σ H d v) (o : d.isOwn = false) : Rep K fa F B d v := h.1.rep o
/-- SlV under steps that leave what it leans on -/
theorem SlV.mono (h : SlV K fa W F B H d v) (e : Ex F F') (b : ∃ r, B' = B ++ r) (ho : ∀ p o, d.isOwn = true → v = .ref p → H p = some o → H' p = some o)
    (hf : ∀ p, d.isOwn = true → v = .ref p → F p = none → F' p = none) (hb : ∀ p, d.isOwn = true → v = .ref p → p ∉ B → p ∉ B') : SlV K fa W F' B' H' d v := by
  cases d with
  | own xs =>
    obtain ⟨p, vs, h1, h2, h3, h4, h5, h6⟩ := h
    exact ⟨p, vs, h1, ho p _ rfl h1 h2, Reps.mono e b _ _ h3, h4, hf p rfl h1 h5, hb p rfl h1 h6⟩
  | odc xs =>
    obtain ⟨p, vs, h1, h2, h3, h4, h5, h6⟩ := h
    exact ⟨p, vs, h1, ho p _ rfl h1 h2, RepK.mono e b _ _ h3, h4, hf p rfl h1 h5, hb p rfl h1 h6⟩
  | _ => exact Rep.mono e b _ _ h
theorem SlV.own (h : SlV K fa W F B H d v) (o : d.isOwn = true) : ∃ p u, v = .ref p ∧ H p = some u ∧ W p = none ∧ F p = none ∧ p ∉ B := by
  cases d with
  | own xs => obtain ⟨p, vs, h1, h2, _, h4, h5, h6⟩ := h; exact ⟨p, _, h1, h2, h4, h5, h6⟩
  | odc xs => obtain ⟨p, vs, h1, h2, _, h4, h5, h6⟩ := h; exact ⟨p, _, h1, h2, h4, h5, h6⟩
  | _ => cases o

/-- what is frozen and the boxes stay, own objects stay: a new heap -/
theorem Rel.grow (r : Rel K fa W F B s σ H) (st : Stp W F B F' B) (ew : Ex W H') (ef : Ex F' H')
    (ho : ∀ i e p o, s.get i = some e → e.isOwn = true → σ[i]? = some (some (.ref p)) → H p = some o → H' p = some o ∧ F' p = none)
    (hb : ∀ p o, p ∈ B → H p = some o → H' p = some o ∧ F' p = none) : Rel K fa W F' B s σ H' := by
  refine ⟨ew, ef, r.len, fun i d e => ?_, r.apart, r.bl, fun k xs e => ?_, r.bd⟩
  · obtain ⟨v, h1, h2⟩ := r.slot i d e
    refine ⟨v, h1, ?_⟩
    refine h2.mono st.ex st.bs (fun p o q1 q2 q3 => ?_) (fun p q1 q2 q3 => ?_) (fun p _ _ q => q)
    · subst q2; exact (ho i d p o e q1 h1 q3).1
    · subst q2
      obtain ⟨p', u, q5, q6, _⟩ := h2.own q1
      cases q5
      exact (ho i d p u e q1 h1 q6).2
  · obtain ⟨p, vs, h1, h2, h3, h4, h5⟩ := r.bx k xs e
    obtain ⟨h6, h7⟩ := hb p _ (List.mem_of_getElem? h1) h2
    exact ⟨p, vs, h1, h6, Reps.mono st.ex st.bs _ _ h3, h4, h7⟩
/-- a new object that stands for good -/
theorem Rel.new {p : Addr} {o : HO} (r : Rel K fa W F B s σ H) (n : H p = none) : Rel K fa W (upd F p o) B s σ (upd H p o) ∧ Stp W F B (upd F p o) B := by
  have nf : F p = none := r.ef.free n
  have nw : W p = none := r.ew.free n
  have st : Stp W F B (upd F p o) B := ⟨Ex.new nf, fun q u h => by
    by_cases e : q = p
    · subst e; exact .inr nw
    · rw [upd_ne e] at h; exact .inl h, [], by simp⟩
  refine ⟨r.grow st (r.ew.mut nw) (fun q u h => ?_) (fun i e q u h1 h2 h3 h4 => ?_) (fun q u h1 h2 => ?_), st⟩
  · by_cases e : q = p
    · subst e; rw [upd_same] at h ⊢; exact h
    · rw [upd_ne e] at h ⊢; exact r.ef _ _ h
  · have ne : q ≠ p := ne_of_none h4 n
    rw [upd_ne ne, upd_ne ne]
    obtain ⟨v, h5, h6⟩ := r.slot i e h1
    rw [h3] at h5; cases h5
    obtain ⟨q', _, h7, _, _, h8, _⟩ := h6.own h2
    cases h7
    exact ⟨h4, h8⟩
  · have ne : q ≠ p := ne_of_none h2 n
    rw [upd_ne ne, upd_ne ne]
    obtain ⟨k, hk⟩ := List.getElem?_of_mem h1
    have hk' : k < s.box.length := by rw [← r.bl]; exact (List.getElem?_eq_some_iff.mp hk).1
    obtain ⟨q', _, h3, _, _, _, h5⟩ := r.bx k s.box[k] (by simp [hk'])
    rw [hk] at h3; cases h3
    exact ⟨h2, h5⟩
/-- a new object of nobody's yet -/
theorem Rel.newO {p : Addr} {o : HO} (r : Rel K fa W F B s σ H) (n : H p = none) : Rel K fa W F B s σ (upd H p o) := by
  have nf : F p = none := r.ef.free n
  have nw : W p = none := r.ew.free n
  refine r.grow Stp.refl (r.ew.mut nw) (r.ef.mut nf) (fun i e q u h1 h2 h3 h4 => ?_) (fun q u h1 h2 => ?_)
  · have ne : q ≠ p := ne_of_none h4 n
    rw [upd_ne ne]
    obtain ⟨v, h5, h6⟩ := r.slot i e h1
    rw [h3] at h5; cases h5
    obtain ⟨q', _, h7, _, _, h8, _⟩ := h6.own h2
    cases h7
    exact ⟨h4, h8⟩
  · have ne : q ≠ p := ne_of_none h2 n
    rw [upd_ne ne]
    obtain ⟨k, hk⟩ := List.getElem?_of_mem h1
    have hk' : k < s.box.length := by rw [← r.bl]; exact (List.getElem?_eq_some_iff.mp hk).1
    obtain ⟨q', _, h3, _, _, _, h5⟩ := r.bx k s.box[k] (by simp [hk'])
    rw [hk] at h3; cases h3
    exact ⟨h2, h5⟩
theorem Rel.notB {p : Addr} (r : Rel K fa W F B s σ H) (n : H p = none) : p ∉ B := fun h => by
  obtain ⟨k, hk⟩ := List.getElem?_of_mem h
  have hk' : k < s.box.length := by rw [← r.bl]; exact (List.getElem?_eq_some_iff.mp hk).1
  obtain ⟨q', _, h3, h4, _⟩ := r.bx k s.box[k] (by simp [hk'])
  rw [hk] at h3; cases h3
  rw [n] at h4; cases h4
theorem Rel.newT {p : Addr} {ds : List D} {vs : List V} (r : Rel K fa W F B s σ H) (n : H p = none) (q : Reps K fa F B ds vs) :
    Rel K fa W (upd F p (.tup vs)) B s σ (upd H p (.tup vs)) ∧ Stp W F B (upd F p (.tup vs)) B ∧ Rep K fa (upd F p (.tup vs)) B (.tup ds) (.ref p) := by
  obtain ⟨h1, h2⟩ := r.new (o := .tup vs) n
  refine ⟨h1, h2, ?_⟩
  unfold Rep
  exact ⟨p, vs, rfl, SqT.of upd_same, Reps.mono h2.ex h2.bs _ _ q⟩
theorem Rel.newL {p : Addr} {ds : List D} {vs : List V} (r : Rel K fa W F B s σ H) (n : H p = none) (q : Reps K fa F B ds vs) :
    Rel K fa W F B s σ (upd H p (.lst vs)) ∧ RR K fa W F B s σ (upd H p (.lst vs)) (.own ds) (.ref p) := by
  refine ⟨r.newO n, ⟨p, vs, rfl, upd_same, q, r.ew.free n, r.ef.free n, r.notB n⟩, fun _ i e h1 h2 h3 => ?_⟩
  obtain ⟨v, h5, h6⟩ := r.slot i e h1
  rw [h3] at h5; cases h5
  obtain ⟨q', _, h7, h8, _⟩ := h6.own h2
  cases h7
  rw [n] at h8; cases h8
theorem Rel.newK {p : Addr} {ds : List (Key × D)} {vs : List (Key × V)} (r : Rel K fa W F B s σ H) (n : H p = none) (q : RepK K fa F B ds vs) :
    Rel K fa W F B s σ (upd H p (.dK vs)) ∧ RR K fa W F B s σ (upd H p (.dK vs)) (.odc ds) (.ref p) := by
  refine ⟨r.newO n, ⟨p, vs, rfl, upd_same, q, r.ew.free n, r.ef.free n, r.notB n⟩, fun _ i e h1 h2 h3 => ?_⟩
  obtain ⟨v, h5, h6⟩ := r.slot i e h1
  rw [h3] at h5; cases h5
  obtain ⟨q', _, h7, h8, _⟩ := h6.own h2
  cases h7
  rw [n] at h8; cases h8
/-- a fresh result is given out -/
theorem Rel.frzR (r : Rel K fa W F B s σ H) (h : RR K fa W F B s σ H d v) : ∃ F', Stp W F B F' B ∧ Rel K fa W F' B s σ H ∧ Rep K fa F' B d.frz v := by
  have key : ∀ p u, v = .ref p → H p = some u → d.isOwn = true → W p = none → F p = none → p ∉ B → Stp W F B (upd F p u) B ∧ Rel K fa W (upd F p u) B s σ H := by
    intro p u h1 h2 ho h4 h5 h6
    have st : Stp W F B (upd F p u) B := ⟨Ex.new h5, fun q o e => by
      by_cases c : q = p
      · subst c; exact .inr h4
      · rw [upd_ne c] at e; exact .inl e, [], by simp⟩
    refine ⟨st, r.grow st r.ew (fun q o e => ?_) (fun i e q o a1 a2 a3 a4 => ?_) (fun q o a1 a2 => ?_)⟩
    · by_cases c : q = p
      · subst c; rw [upd_same] at e; rw [h2]; exact e
      · rw [upd_ne c] at e; exact r.ef _ _ e
    · have ne : q ≠ p := fun c => h.2 ho i e a1 a2 (by rw [h1, ← c]; exact a3)
      rw [upd_ne ne]
      obtain ⟨v', h7, h8⟩ := r.slot i e a1
      rw [a3] at h7; cases h7
      obtain ⟨q', _, h9, _, _, h10, _⟩ := h8.own a2
      cases h9
      exact ⟨a4, h10⟩
    · have ne : q ≠ p := fun c => h6 (c ▸ a1)
      rw [upd_ne ne]
      obtain ⟨k, hk⟩ := List.getElem?_of_mem a1
      have hk' : k < s.box.length := by rw [← r.bl]; exact (List.getElem?_eq_some_iff.mp hk).1
      obtain ⟨q', _, h3, _, _, _, h5⟩ := r.bx k s.box[k] (by simp [hk'])
      rw [hk] at h3; cases h3
      exact ⟨a2, h5⟩
  cases d with
  | own xs =>
    obtain ⟨p, vs, h1, h2, h3, h4, h5, h6⟩ := h.1
    obtain ⟨st, r'⟩ := key p _ h1 h2 rfl h4 h5 h6
    refine ⟨_, st, r', ?_⟩
    show Rep K fa (upd F p (.lst vs)) B (.lst xs) v
    unfold Rep
    exact ⟨p, vs, h1, upd_same, Reps.mono st.ex st.bs _ _ h3⟩
  | odc xs =>
    obtain ⟨p, vs, h1, h2, h3, h4, h5, h6⟩ := h.1
    obtain ⟨st, r'⟩ := key p _ h1 h2 rfl h4 h5 h6
    refine ⟨_, st, r', ?_⟩
    show Rep K fa (upd F p (.dK vs)) B (.dic xs) v
    unfold Rep
    exact ⟨p, vs, h1, upd_same, RepK.mono st.ex st.bs _ _ h3⟩
  | _ => exact ⟨F, Stp.refl, r, h.1⟩

/-! ### slots -/
theorem get_put_same {s : S} {i : Nat} {d : D} (h : i < s.loc.length) : (s.put i d).get i = some d := by
  unfold S.get S.put
  simp [h]
theorem get_put_ne {s : S} {i j : Nat} {d : D} (h : j ≠ i) : (s.put i d).get j = s.get j := by
  unfold S.get S.put
  simp [List.getElem?_set_ne (Ne.symm h)]
theorem get_lt {s : S} {i : Nat} {d : D} (h : s.get i = some d) : i < s.loc.length := by
  unfold S.get at h
  cases q : s.loc[i]? with
  | none => rw [q] at h; simp at h
  | some o => exact (List.getElem?_eq_some_iff.mp q).1
theorem put_len (s : S) (i : Nat) (d : D) : (s.put i d).loc.length = s.loc.length := by unfold S.put; simp
theorem put_box (s : S) (i : Nat) (d : D) : (s.put i d).box = s.box := rfl
/-- a slot's own content is frozen -/
theorem Rel.frzS (r : Rel K fa W F B s σ H) {i : Nat} (h : s.get i = some d) : ∃ F' v, Stp W F B F' B ∧ Rel K fa W F' B (s.frz i) σ H ∧ σ[i]? = some (some v) ∧ Rep K fa F' B d.frz v := by
  obtain ⟨v, h1, h2⟩ := r.slot i d h
  by_cases ho : d.isOwn = true
  · obtain ⟨p, u, g1, g2, g3, g4, g5⟩ := h2.own ho
    have st : Stp W F B (upd F p u) B := ⟨Ex.new g4, fun q o e => by
      by_cases c : q = p
      · subst c; exact .inr g3
      · rw [upd_ne c] at e; exact .inl e, [], by simp⟩
    have hf : s.frz i = s.put i d.frz := by
      unfold S.frz
      rw [h]
      cases d <;> first | rfl | cases ho
    have rd : Rep K fa (upd F p u) B d.frz v := by
      cases d with
      | own xs =>
        obtain ⟨p', vs, a1, a2, a3, _⟩ := h2
        rw [g1] at a1; cases a1
        rw [g2] at a2; cases a2
        show Rep K fa _ B (.lst xs) v
        unfold Rep
        exact ⟨p, vs, g1, upd_same, Reps.mono st.ex st.bs _ _ a3⟩
      | odc xs =>
        obtain ⟨p', vs, a1, a2, a3, _⟩ := h2
        rw [g1] at a1; cases a1
        rw [g2] at a2; cases a2
        show Rep K fa _ B (.dic xs) v
        unfold Rep
        exact ⟨p, vs, g1, upd_same, RepK.mono st.ex st.bs _ _ a3⟩
      | _ => cases ho
    refine ⟨_, v, st, ?_, h1, rd⟩
    rw [hf]
    have hi := get_lt h
    refine ⟨r.ew, fun q o e => ?_, by rw [put_len]; exact r.len, fun j e hj => ?_, fun j k e f w hne hj hk oe of hv1 hv2 => ?_, r.bl, fun k xs e => ?_, r.bd⟩
    · by_cases c : q = p
      · subst c; rw [upd_same] at e; rw [g2]; exact e
      · rw [upd_ne c] at e; exact r.ef _ _ e
    · by_cases hji : j = i
      · subst hji
        rw [get_put_same hi] at hj; cases hj
        exact ⟨v, h1, SlV.of rd⟩
      · rw [get_put_ne hji] at hj
        obtain ⟨w, b1, b2⟩ := r.slot j e hj
        refine ⟨w, b1, b2.mono st.ex st.bs (fun _ _ _ _ q => q) (fun q q1 q2 q3 => ?_) (fun _ _ _ q => q)⟩
        have : q ≠ p := fun c => r.apart j i e d w hji hj h q1 ho b1 (by rw [q2, c, ← g1]; exact h1)
        rw [upd_ne this]; exact q3
    · have hji : j ≠ i := fun c => by subst c; rw [get_put_same hi] at hj; cases hj; rw [frz_own] at oe; cases oe
      have hki : k ≠ i := fun c => by subst c; rw [get_put_same hi] at hk; cases hk; rw [frz_own] at of; cases of
      rw [get_put_ne hji] at hj
      rw [get_put_ne hki] at hk
      exact r.apart j k e f w hne hj hk oe of hv1 hv2
    · obtain ⟨q, vs, c1, c2, c3, c4, c5⟩ := r.bx k xs e
      refine ⟨q, vs, c1, c2, Reps.mono st.ex st.bs _ _ c3, c4, ?_⟩
      have : q ≠ p := fun c => g5 (c ▸ List.mem_of_getElem? c1)
      rw [upd_ne this]; exact c5
  · have ho' : d.isOwn = false := by cases q : d.isOwn <;> simp_all
    have hf : s.frz i = s := by
      unfold S.frz
      rw [h]
      cases d <;> first | rfl | cases ho'
    rw [hf, frz_of ho']
    exact ⟨F, v, Stp.refl, r, h1, h2.rep ho'⟩
/-- a value is put into a slot -/
theorem Rel.put (r : Rel K fa W F B s σ H) {i : Nat} (hi : i < s.loc.length) (h : RR K fa W F B s σ H d v) : Rel K fa W F B (s.put i d) (σ.set i (some v)) H := by
  have hσ : i < σ.length := by rw [r.len]; exact hi
  refine ⟨r.ew, r.ef, by rw [put_len]; simpa using r.len, fun j e hj => ?_, fun j k e f w hne hj hk oe of hv1 hv2 => ?_, r.bl, r.bx, r.bd⟩
  · by_cases hji : j = i
    · subst hji
      rw [get_put_same hi] at hj; cases hj
      exact ⟨v, by simp [hσ], h.1⟩
    · rw [get_put_ne hji] at hj
      rw [List.getElem?_set_ne (Ne.symm hji)]
      exact r.slot j e hj
  · by_cases hji : j = i
    · subst hji
      have hki : k ≠ j := Ne.symm hne
      rw [get_put_same hi] at hj; cases hj
      rw [get_put_ne hki] at hk
      rw [List.getElem?_set_self hσ] at hv1; cases hv1
      rw [List.getElem?_set_ne (Ne.symm hki)] at hv2
      exact h.2 oe k f hk of hv2
    · rw [get_put_ne hji] at hj
      rw [List.getElem?_set_ne (Ne.symm hji)] at hv1
      by_cases hki : k = i
      · subst hki
        rw [get_put_same hi] at hk; cases hk
        rw [List.getElem?_set_self hσ] at hv2; cases hv2
        exact h.2 of j e hj oe hv1
      · rw [get_put_ne hki] at hk
        rw [List.getElem?_set_ne (Ne.symm hki)] at hv2
        exact r.apart j k e f w hne hj hk oe of hv1 hv2
/-- what a slot no longer has -/
theorem RR.mono' (h : RR K fa W F B s σ H d v) (st : Stp W F B F' B') (o : d.isOwn = false) : RR K fa W F' B' s' σ H' d v := RR.of (Rep.mono st.ex st.bs _ _ (h.rep o))
end
end Q
end

section
set_option maxRecDepth 100000
set_option maxHeartbeats 2000000
/-! QOps: the operations on data are the machine's. -/
namespace Q
open PySem PySem.Spec PyProof.Rows L2

theorem line_eq : sizeLine = LINE := sizeLine_eq
section
variable (K : PySem.W.Frag) (fa : Nat → Option Addr) (W F : Hp) (B : List Addr) (s : S) (σ : L2.St)
def Post (d : D) (Q : VK) : Prop := ∀ F' B' H' v, Stp W F B F' B' → Rel K fa W F' B' s σ H' → RR K fa W F' B' s σ H' d v → Q v H'
end
section
variable {K : PySem.W.Frag} {fa : Nat → Option Addr} {W F F' : Hp} {B B' : List Addr} {s s' : S} {σ : L2.St} {H H' : Hp} {d x y : D} {v u : V} {Q : VK}
theorem Post.same (p : Post K fa W F B s σ d Q) (r : Rel K fa W F B s σ H) (h : Rep K fa F B d v) : Q v H := p F B H v Stp.refl r (RR.of h)
theorem Post.tup {ds : List D} {vs : List V} (p : Post K fa W F B s σ (.tup ds) Q) (r : Rel K fa W F B s σ H) (h : Reps K fa F B ds vs) : ∀ a, H a = none → Q (.ref a) (upd H a (.tup vs)) := fun a n =>
  let ⟨r', st, h'⟩ := r.newT n h
  p _ _ _ _ st r' (RR.of h')
theorem Post.own {ds : List D} {vs : List V} (p : Post K fa W F B s σ (.own ds) Q) (r : Rel K fa W F B s σ H) (h : Reps K fa F B ds vs) : ∀ a, H a = none → Q (.ref a) (upd H a (.lst vs)) := fun a n =>
  let ⟨r', h'⟩ := r.newL n h
  p _ _ _ _ Stp.refl r' h'

theorem rep_int {i : Int} (h : Rep K fa F B (.int i) v) : v = .int i := by unfold Rep at h; exact h
theorem rep_bl {i : Bool} (h : Rep K fa F B (.bl i) v) : v = .bl i := by unfold Rep at h; exact h
theorem rep_str {i : Str} (h : Rep K fa F B (.str i) v) : v = .str i := by unfold Rep at h; exact h
theorem rep_non (h : Rep K fa F B .non v) : v = .non := by unfold Rep at h; exact h
theorem rep_tup {ds : List D} (h : Rep K fa F B (.tup ds) v) : ∃ p vs, v = .ref p ∧ SqT K F p vs ∧ Reps K fa F B ds vs := by unfold Rep at h; exact h
theorem rep_lst {ds : List D} (h : Rep K fa F B (.lst ds) v) : ∃ p vs, v = .ref p ∧ F p = some (.lst vs) ∧ Reps K fa F B ds vs := by unfold Rep at h; exact h
theorem of_int (i : Int) : Rep K fa F B (.int i) (.int i) := by unfold Rep; rfl
theorem of_bl (i : Bool) : Rep K fa F B (.bl i) (.bl i) := by unfold Rep; rfl
theorem of_str (i : Str) : Rep K fa F B (.str i) (.str i) := by unfold Rep; rfl
theorem of_non : Rep K fa F B .non .non := by unfold Rep; rfl
end

theorem mulOk_ok {i j : Int} (h : mulOk i j = true) : CMulW i j := of_decide_eq_true (p := i.natAbs.log2 + j.natAbs.log2 < 1000000) h
theorem powOk_ok {i j : Int} (h : powOk i j = true) : CPow i j := of_decide_eq_true (p := 0 ≤ j ∧ j ≤ 1000000 ∧ i.natAbs < 2 ^ 64) h
/-! ### two-place operators -/
def oB : BOp → Operator
  | .add => .Add | .sub => .Sub | .mul => .Mult | .fdiv => .FloorDiv | .mod => .Mod | .pow => .Pow | .shl => .LShift
def rDivW : R2 := rI (fun _ j => j ≠ 0 ∧ j.natAbs.log2 < 9000) fun i j => .int (i.fdiv j)
theorem op_divW {X : Cx} : OpR X (binaryOp .FloorDiv) rDivW := opI fun i j _ _ _ _ _ hc q => floordiv_int hc.1 q (.inl (PyProof.noPylong_of_log2 hc.2))
def rB (K : PySem.W.Frag) : BOp → R2
  | .add => fun x y H Q => rI0 (fun i j => .int (i + j)) x y H Q ∨ (∃ i j, x = .str i ∧ y = .str j ∧ i.length + j.length ≤ sizeLine ∧ Q (.str (i ++ j)) H) ∨ rCatA K x y H Q ∨ rCat x y H Q
  | .sub => rI0 fun i j => .int (i - j)
  | .mul => fun x y H Q => rI CMulW (fun i j => .int (i * j)) x y H Q ∨ rRepT K x y H Q ∨ rRep x y H Q
  | .fdiv => rDivW
  | .mod => rI (fun _ j => j ≠ 0) fun i j => .int (i.fmod j)
  | .pow => rI CPow fun i j => .int (i ^ j.toNat)
  | .shl => rI CPow fun i j => .int (i * 2 ^ j.toNat)
theorem op_rB {X : Cx} (o : BOp) : OpR X (binaryOp (oB o)) (rB X.K o) := by
  cases o with
  | add => exact op_add.or (op_add_str.or (op_catA.or op_cat))
  | sub => exact op_sub
  | mul => exact op_mulW.or (op_repT.or op_rep)
  | fdiv => exact op_divW
  | mod => exact op_modN
  | pow => exact op_pow
  | shl => exact op_shl
section
variable {K : PySem.W.Frag} {fa : Nat → Option Addr} {W F F' : Hp} {B B' : List Addr} {s s' : S} {σ : L2.St} {H H' : Hp} {d x y : D} {v u : V} {Q : VK}
theorem rB_ok {o : BOp} (h : opB o x y = some d) (rx : Rep K fa F B x v) (ry : Rep K fa F B y u) (r : Rel K fa W F B s σ H) (p : Post K fa W F B s σ d Q) : rB K o v u H Q := by
  unfold opB at h
  split at h
  · cases h; rw [rep_int rx, rep_int ry]; exact .inl ⟨_, _, rfl, rfl, p.same r (of_int _)⟩
  · rename_i xs ys
    split at h <;> cases h
    rw [rep_str rx, rep_str ry]
    exact .inr (.inl ⟨_, _, rfl, rfl, by rw [line_eq]; assumption, p.same r (of_str _)⟩)
  · rename_i xs ys
    split at h <;> cases h
    rename_i hl
    obtain ⟨a, vs, rfl, q1, q2⟩ := rep_tup rx
    obtain ⟨b, ws, rfl, q3, q4⟩ := rep_tup ry
    refine .inr (.inr (.inl ⟨a, b, vs, ws, rfl, rfl, ex_t r.ef q1, ex_t r.ef q3, by rw [q2.length, q4.length, line_eq]; exact hl, fun e => ?_, fun _ e => ?_, fun _ _ => p.tup r (q2.append q4)⟩))
    · subst e
      have : xs = [] := List.eq_nil_of_length_eq_zero (by rw [← q2.length]; rfl)
      subst this
      exact p.same r ry
    · subst e
      have : ys = [] := List.eq_nil_of_length_eq_zero (by rw [← q4.length]; rfl)
      subst this
      refine p.same r ?_
      rw [List.append_nil]; exact rx
  · rename_i xs ys
    split at h <;> cases h
    rename_i hl
    obtain ⟨a, vs, rfl, q1, q2⟩ := rep_lst rx
    obtain ⟨b, ws, rfl, q3, q4⟩ := rep_lst ry
    exact .inr (.inr (.inr ⟨a, b, vs, ws, rfl, rfl, r.ef _ _ q1, r.ef _ _ q3, by rw [q2.length, q4.length, line_eq]; exact hl, p.own r (q2.append q4)⟩))
  · cases h; rw [rep_int rx, rep_int ry]; exact ⟨_, _, rfl, rfl, p.same r (of_int _)⟩
  · split at h <;> cases h
    rename_i hm
    rw [rep_int rx, rep_int ry]
    exact .inl ⟨_, _, rfl, rfl, mulOk_ok hm, p.same r (of_int _)⟩
  · rename_i xs k
    split at h <;> cases h
    rename_i hm
    obtain ⟨h1, h2, h3, h4⟩ := of_decide_eq_true hm
    obtain ⟨a, vs, rfl, q1, q2⟩ := rep_tup rx
    rw [rep_int ry]
    have hl := q2.length
    exact .inr (.inl ⟨a, k, vs, rfl, rfl, ex_t r.ef q1, fun e => by subst e; simp at hl; omega, h2, h3, by omega, p.tup r (q2.rep _)⟩)
  · rename_i xs k
    split at h <;> cases h
    rename_i hm
    obtain ⟨h1, h2, h3⟩ := of_decide_eq_true hm
    obtain ⟨a, vs, rfl, q1, q2⟩ := rep_lst rx
    rw [rep_int ry]
    exact .inr (.inr ⟨a, k, vs, rfl, rfl, r.ef _ _ q1, h1, h2, by rw [q2.length, line_eq]; exact h3, p.own r (q2.rep _)⟩)
  · split at h <;> cases h
    rename_i hm
    rw [rep_int rx, rep_int ry]
    exact ⟨_, _, rfl, rfl, of_decide_eq_true hm, p.same r (of_int _)⟩
  · split at h <;> cases h
    rename_i hm
    rw [rep_int rx, rep_int ry]
    exact ⟨_, _, rfl, rfl, hm, p.same r (of_int _)⟩
  · split at h <;> cases h
    rename_i hm
    rw [rep_int rx, rep_int ry]
    exact ⟨_, _, rfl, rfl, powOk_ok hm, p.same r (of_int _)⟩
  · split at h <;> cases h
    rename_i hm
    rw [rep_int rx, rep_int ry]
    exact ⟨_, _, rfl, rfl, powOk_ok hm, p.same r (of_int _)⟩
  · cases h
end

/-! ### comparisons -/
mutual
def pyD : D → PyData
  | .non => .none | .bl b => .bool b | .int i => .int i | .str x => .str x
  | .tup xs => .tuple (pyDs xs) | .lst xs => .list (pyDs xs)
  | _ => .none
def pyDs : List D → List PyData
  | [] => []
  | x :: xs => pyD x :: pyDs xs
end
mutual
theorem eq_py : ∀ (n m : Nat) (x y : D), shN n x = true → shN m y = true → PyData.eqv (pyD x) (pyD y) = eqD x y
  | n, m, x, y, hx, hy => by
    cases x <;> cases y <;> first
      | rfl
      | (simp only [shN] at hx; done)
      | (simp only [shN] at hy; done)
      | (cases n <;> simp [shN] at hx; done)
      | (cases m <;> simp [shN] at hy; done)
      | skip
    · rename_i xs ys
      cases n with
      | zero => simp [shN] at hx
      | succ n =>
        cases m with
        | zero => simp [shN] at hy
        | succ m =>
          simp only [shN, List.all_eq_true] at hx hy
          simp only [pyD, eqD, PyData.eqv]
          exact eq_pys n m xs ys hx hy
    · rename_i xs ys
      cases n with
      | zero => simp [shN] at hx
      | succ n =>
        cases m with
        | zero => simp [shN] at hy
        | succ m =>
          simp only [shN, List.all_eq_true] at hx hy
          simp only [pyD, eqD, PyData.eqv]
          exact eq_pys n m xs ys hx hy
theorem eq_pys : ∀ (n m : Nat) (xs ys : List D), (∀ x ∈ xs, shN n x = true) → (∀ y ∈ ys, shN m y = true) → PyData.eqvAll (pyDs xs) (pyDs ys) = eqDs xs ys
  | n, m, [], [], _, _ => rfl
  | n, m, [], _ :: _, _, _ => rfl
  | n, m, _ :: _, [], _, _ => rfl
  | n, m, x :: xs, y :: ys, hx, hy => by
    simp only [pyDs, eqDs, PyData.eqvAll]
    rw [eq_py n m x y (hx x (by simp)) (hy y (by simp)), eq_pys n m xs ys (fun z hz => hx z (by simp [hz])) (fun z hz => hy z (by simp [hz]))]
end

mutual
theorem sh_lay : ∀ (n : Nat) (d : D), shN n d = true → (pyD d).canLay0 = true ∧ (pyD d).depth ≤ n
  | n, .non, _ => ⟨rfl, Nat.zero_le _⟩
  | n, .bl _, _ => ⟨rfl, Nat.zero_le _⟩
  | n, .int _, _ => ⟨rfl, Nat.zero_le _⟩
  | n, .str x, h => ⟨by cases n <;> exact h, Nat.zero_le _⟩
  | 0, .tup xs, h => by simp [shN] at h
  | n + 1, .tup xs, h => by
    obtain ⟨h1, h2⟩ := sh_lays n xs (by simpa [shN] using h)
    exact ⟨h1, by simpa [pyD, PyData.depth] using h2⟩
  | 0, .lst xs, h => by simp [shN] at h
  | n + 1, .lst xs, h => by
    obtain ⟨h1, h2⟩ := sh_lays n xs (by simpa [shN] using h)
    exact ⟨h1, by simpa [pyD, PyData.depth] using h2⟩
  | n, .dic _, h => by cases n <;> simp [shN] at h
  | n, .own _, h => by cases n <;> simp [shN] at h
  | n, .odc _, h => by cases n <;> simp [shN] at h
  | n, .scr _, h => by cases n <;> simp [shN] at h
  | n, .box _, h => by cases n <;> simp [shN] at h
  | n, .fn _, h => by cases n <;> simp [shN] at h
theorem sh_lays : ∀ (n : Nat) (ds : List D), (∀ d ∈ ds, shN n d = true) → PyData.canLayAll0 (pyDs ds) = true ∧ PyData.depthAll (pyDs ds) ≤ n
  | n, [], _ => ⟨rfl, Nat.zero_le _⟩
  | n, d :: ds, h => by
    obtain ⟨h1, h2⟩ := sh_lay n d (h d (by simp))
    obtain ⟨h3, h4⟩ := sh_lays n ds (fun z hz => h z (by simp [hz]))
    refine ⟨by simp [pyDs, PyData.canLayAll0, h1, h3], ?_⟩
    simp only [pyDs, PyData.depthAll]
    omega
end
theorem shaped_of {d : D} (h : shN 60 d = true) : SeqAt.shaped (pyD d) = true := by
  obtain ⟨h1, h2⟩ := sh_lay 60 d h
  unfold SeqAt.shaped
  rw [h1, decide_eq_true (by omega : (pyD d).depth ≤ 64)]
  rfl
section
variable {K : PySem.W.Frag} {fa : Nat → Option Addr} {W F F' : Hp} {B B' : List Addr} {s s' : S} {σ : L2.St} {H H' : Hp} {d x y : D} {v u : V} {Q : VK}
mutual
theorem dp_of (e : Ex F H) : ∀ (n : Nat) (d : D) (v : V), shN n d = true → Rep K fa F B d v → Dp K H v (pyD d)
  | n, .non, v, _, h => by rw [rep_non h]; exact .non
  | n, .bl b, v, _, h => by rw [rep_bl h]; exact .bl b
  | n, .int i, v, _, h => by rw [rep_int h]; exact .int i
  | n, .str x, v, _, h => by rw [rep_str h]; exact .str x
  | 0, .tup xs, v, h, _ => by simp [shN] at h
  | n + 1, .tup xs, v, h, r => by
    obtain ⟨p, vs, rfl, h1, h2⟩ := rep_tup r
    exact .tup (ex_t e h1) (dps_of e n xs vs (by simpa [shN] using h) h2)
  | 0, .lst xs, v, h, _ => by simp [shN] at h
  | n + 1, .lst xs, v, h, r => by
    obtain ⟨p, vs, rfl, h1, h2⟩ := rep_lst r
    exact .lst (SqL.of (e _ _ h1)) (dps_of e n xs vs (by simpa [shN] using h) h2)
  | n, .dic _, _, h, _ => by cases n <;> simp [shN] at h
  | n, .own _, _, h, _ => by cases n <;> simp [shN] at h
  | n, .odc _, _, h, _ => by cases n <;> simp [shN] at h
  | n, .scr _, _, h, _ => by cases n <;> simp [shN] at h
  | n, .box _, _, h, _ => by cases n <;> simp [shN] at h
  | n, .fn _, _, h, _ => by cases n <;> simp [shN] at h
theorem dps_of (e : Ex F H) : ∀ (n : Nat) (ds : List D) (vs : List V), (∀ d ∈ ds, shN n d = true) → Reps K fa F B ds vs → DpAll K H vs (pyDs ds)
  | n, [], vs, _, h => by unfold Reps at h; subst h; exact .nil
  | n, d :: ds, vs, h, r => by
    unfold Reps at r
    obtain ⟨w, ws, rfl, h1, h2⟩ := r
    exact .cons (dp_of e n d w (h d (by simp)) h1) (dps_of e n ds ws (fun z hz => h z (by simp [hz])) h2)
end
theorem flat_of (h : Rep K fa F B d v) (f : d.isFlat = true) : flatV v = true := by
  cases d <;> first | (cases f; done) | skip
  · rw [rep_non h]; rfl
  · rw [rep_bl h]; rfl
  · rw [rep_int h]; rfl
  · rw [rep_str h]; rfl
theorem eqV_of (h : Rep K fa F B x v) (h' : Rep K fa F B y u) (f : x.isFlat = true) (f' : y.isFlat = true) : eqV v u = eqD x y := by
  cases x <;> first | (cases f; done) | skip
  all_goals first | have e := rep_non h | have e := rep_bl h | have e := rep_int h | have e := rep_str h
  all_goals subst e
  all_goals cases y <;> first | (cases f'; done) | skip
  all_goals first | have e := rep_non h' | have e := rep_bl h' | have e := rep_int h' | have e := rep_str h'
  all_goals subst e
  all_goals rfl
theorem flats_of : ∀ {ds : List D} {vs : List V}, Reps K fa F B ds vs → ds.all D.isFlat = true → vs.all flatV = true
  | [], vs, h, _ => by unfold Reps at h; subst h; rfl
  | d :: ds, vs, h, f => by
    unfold Reps at h
    obtain ⟨w, ws, rfl, h1, h2⟩ := h
    rw [List.all_cons, Bool.and_eq_true] at f ⊢
    exact ⟨flat_of h1 f.1, flats_of h2 f.2⟩
theorem inV_of (rx : Rep K fa F B x v) (fx : x.isFlat = true) : ∀ {ds : List D} {vs : List V}, Reps K fa F B ds vs → ds.all D.isFlat = true → inV v vs = ds.any fun y => eqD y x
  | [], vs, h, _ => by unfold Reps at h; subst h; rfl
  | d :: ds, vs, h, f => by
    unfold Reps at h
    obtain ⟨w, ws, rfl, h1, h2⟩ := h
    rw [List.all_cons, Bool.and_eq_true] at f
    show (eqV w v || inV v ws) = (eqD d x || ds.any fun y => eqD y x)
    rw [eqV_of h1 rx f.1 fx, inV_of rx fx h2 f.2]
end
def oC : COp → CmpOp
  | .eq => .Eq | .ne => .NotEq | .lt => .Lt | .le => .LtE | .gt => .Gt | .ge => .GtE | .isin => .In | .notin => .NotIn | .isN => .Is | .notN => .IsNot
def rC (K : PySem.W.Frag) : COp → R2
  | .eq => rEqD K
  | .ne => rNeD K
  | .lt => rI0 fun i j => .bl (decide (i < j))
  | .le => rI0 fun i j => .bl (decide (i ≤ j))
  | .gt => rI0 fun i j => .bl (decide (j < i))
  | .ge => rI0 fun i j => .bl (decide (j ≤ i))
  | .isin => rIn K false
  | .notin => rIn K true
  | .isN => fun x y H Q => y = .non ∧ Q (.bl (decide (x = .non))) H
  | .notN => fun x y H Q => y = .non ∧ Q (.bl (!decide (x = .non))) H
theorem op_rC {X : Cx} (hu : X.A.units + 64 < cLine) (o : COp) : OpR X (compareOp (oC o)) (rC X.K o) := by
  cases o with
  | eq => exact op_eqD hu
  | ne => exact op_neD hu
  | lt => exact op_lt
  | le => exact op_le
  | gt => exact op_gt
  | ge => exact op_ge
  | isin => exact op_in_seq
  | notin => exact op_notIn_seq
  | isN => exact op_isN
  | notN => exact op_notN
section
variable {K : PySem.W.Frag} {fa : Nat → Option Addr} {W F F' : Hp} {B B' : List Addr} {s s' : S} {σ : L2.St} {H H' : Hp} {d x y : D} {v u : V} {Q : VK}
theorem rep_isN (h : Rep K fa F B x v) : decide (v = .non) = x.isNon := by
  cases x <;> unfold Rep at h
  · subst h; rfl
  · subst h; rfl
  · subst h; rfl
  · subst h; rfl
  · obtain ⟨p, _, rfl, _⟩ := h; rfl
  · obtain ⟨p, _, rfl, _⟩ := h; rfl
  · obtain ⟨p, _, rfl, _⟩ := h; rfl
  · exact h.elim
  · exact h.elim
  · obtain ⟨p, rfl, _⟩ := h; rfl
  · obtain ⟨p, rfl, _⟩ := h; rfl
  · obtain ⟨p, rfl, _⟩ := h; rfl
theorem rC_ok {o : COp} {b : Bool} (h : opC o x y = some b) (rx : Rep K fa F B x v) (ry : Rep K fa F B y u) (e : Ex F H) (q : Q (.bl b) H) : rC K o v u H Q := by
  unfold opC at h
  split at h
  · split at h <;> cases h
    rename_i hs
    rw [Bool.and_eq_true] at hs
    exact ⟨pyD x, pyD y, dp_of e _ _ _ hs.1 rx, dp_of e _ _ _ hs.2 ry, shaped_of hs.1, shaped_of hs.2, by rw [eq_py _ _ _ _ hs.1 hs.2]; exact q⟩
  · split at h <;> cases h
    rename_i hs
    rw [Bool.and_eq_true] at hs
    exact ⟨pyD x, pyD y, dp_of e _ _ _ hs.1 rx, dp_of e _ _ _ hs.2 ry, shaped_of hs.1, shaped_of hs.2, by rw [eq_py _ _ _ _ hs.1 hs.2]; exact q⟩
  · cases h; rw [rep_int rx, rep_int ry]; exact ⟨_, _, rfl, rfl, q⟩
  · cases h; rw [rep_int rx, rep_int ry]; exact ⟨_, _, rfl, rfl, q⟩
  · cases h; rw [rep_int rx, rep_int ry]; exact ⟨_, _, rfl, rfl, q⟩
  · cases h; rw [rep_int rx, rep_int ry]; exact ⟨_, _, rfl, rfl, q⟩
  · split at h <;> cases h
    rename_i hs
    rw [Bool.and_eq_true] at hs
    obtain ⟨p, vs, rfl, h1, h2⟩ := rep_tup ry
    refine ⟨p, vs, rfl, .inr (ex_t e h1), flat_of rx hs.1, flats_of h2 hs.2, ?_⟩
    rw [inV_of rx hs.1 h2 hs.2]; exact q
  · split at h <;> cases h
    rename_i hs
    rw [Bool.and_eq_true] at hs
    obtain ⟨p, vs, rfl, h1, h2⟩ := rep_lst ry
    refine ⟨p, vs, rfl, .inl (SqL.of (e _ _ h1)), flat_of rx hs.1, flats_of h2 hs.2, ?_⟩
    rw [inV_of rx hs.1 h2 hs.2]; exact q
  · split at h <;> cases h
    rename_i hs
    rw [Bool.and_eq_true] at hs
    obtain ⟨p, vs, rfl, h1, h2⟩ := rep_tup ry
    refine ⟨p, vs, rfl, .inr (ex_t e h1), flat_of rx hs.1, flats_of h2 hs.2, ?_⟩
    rw [inV_of rx hs.1 h2 hs.2]; exact q
  · split at h <;> cases h
    rename_i hs
    rw [Bool.and_eq_true] at hs
    obtain ⟨p, vs, rfl, h1, h2⟩ := rep_lst ry
    refine ⟨p, vs, rfl, .inl (SqL.of (e _ _ h1)), flat_of rx hs.1, flats_of h2 hs.2, ?_⟩
    rw [inV_of rx hs.1 h2 hs.2]; exact q
  · cases h
    refine ⟨rep_non ry, ?_⟩
    rw [rep_isN rx]; exact q
  · cases h
    refine ⟨rep_non ry, ?_⟩
    rw [rep_isN rx]; exact q
  · cases h
end
end Q
end

section
set_option maxRecDepth 100000
set_option maxHeartbeats 2000000
/-! QOps2: subscripts, slices, lengths, truth, built-ins on data. -/
namespace Q
open PySem PySem.Spec PyProof.Rows L2

section
variable {K : PySem.W.Frag} {fa : Nat → Option Addr} {W F F' : Hp} {B B' : List Addr} {s s' : S} {σ : L2.St} {H H' : Hp} {d x y : D} {v u : V} {Q : VK}
/-- what stands in a slot, a box, or a value: its items in the heap now -/
def SqA (K : PySem.W.Frag) (H : Hp) (v : V) (vs : List V) : Prop := ∃ p, v = .ref p ∧ (SqL K H p vs ∨ SqT K H p vs)
theorem rep_scr {ns : List Int} (h : Rep K fa F B (.scr ns) v) : ∃ p, v = .ref p ∧ SqL K F p (ns.map V.int) := by unfold Rep at h; exact h
theorem rep_dic {ns : List (Key × D)} (h : Rep K fa F B (.dic ns) v) : ∃ p ws, v = .ref p ∧ F p = some (.dK ws) ∧ RepK K fa F B ns ws := by unfold Rep at h; exact h
theorem rep_box {k : Nat} (h : Rep K fa F B (.box k) v) : ∃ p, v = .ref p ∧ B[k]? = some p := by unfold Rep at h; exact h
/-- a slot's container: what is found in it stands so in the heap -/
theorem Rel.cont (r : Rel K fa W F B s σ H) {i : Nat} (h : s.cont i = some d) : (∃ v, σ[i]? = some (some v) ∧ (Rep K fa F B d v ∨ ∃ xs, d = .own xs ∧ ∃ p vs, v = .ref p ∧ H p = some (.lst vs) ∧ Reps K fa F B xs vs)) ∨ (∃ v, σ[i]? = some (some v) ∧ ∃ xs p ws, d = .odc xs ∧ v = .ref p ∧ H p = some (.dK ws) ∧ RepK K fa F B xs ws) := by
  unfold S.cont at h
  cases q : s.get i with
  | none => rw [q] at h; simp at h
  | some e =>
    rw [q] at h
    obtain ⟨v, h1, h2⟩ := r.slot i e q
    cases e with
    | box k =>
      have h' : (s.box[k]?).map D.own = some d := h
      cases q2 : s.box[k]? with
      | none => rw [q2] at h'; cases h'
      | some xs =>
        rw [q2] at h'; cases h'
        obtain ⟨p, e1, e2⟩ := rep_box (SlV.rep h2 rfl)
        obtain ⟨p', vs, a1, a2, a3, _⟩ := r.bx k xs q2
        rw [e2] at a1; cases a1
        exact .inl ⟨v, h1, .inr ⟨xs, rfl, p, vs, e1, a2, a3⟩⟩
    | own xs =>
      cases h
      obtain ⟨p, vs, a1, a2, a3, _⟩ := h2
      exact .inl ⟨v, h1, .inr ⟨xs, rfl, p, vs, a1, a2, a3⟩⟩
    | odc xs =>
      cases h
      obtain ⟨p, vs, a1, a2, a3, _⟩ := h2
      exact .inr ⟨v, h1, xs, p, vs, rfl, a1, a2, a3⟩
    | _ => cases h; exact .inl ⟨v, h1, .inl h2⟩
theorem rIx_tup {p : Addr} {ds : List D} {vs : List V} {i : Int} (h : SqT K H p vs) (q : Reps K fa F B ds vs) (e : atI ds i = some d) (k : ∀ w, Rep K fa F B d w → Q w H) : rIx K (.ref p) (.int i) H Q := by
  obtain ⟨w, h1, h2⟩ := q.at_ e
  exact .inr (.inl ⟨p, vs, i, w, rfl, rfl, h, h1, k w h2⟩)
theorem rIx_lst {p : Addr} {ds : List D} {vs : List V} {i : Int} (h : SqL K H p vs) (q : Reps K fa F B ds vs) (e : atI ds i = some d) (k : ∀ w, Rep K fa F B d w → Q w H) : rIx K (.ref p) (.int i) H Q := by
  obtain ⟨w, h1, h2⟩ := q.at_ e
  exact .inl ⟨p, vs, i, w, rfl, rfl, h, h1, k w h2⟩
theorem rIx_ok (h : ixD x y = some d) (rx : Rep K fa F B x v) (ry : Rep K fa F B y u) (e : Ex F H) (k : ∀ w, Rep K fa F B d w → Q w H) : rIx K v u H Q := by
  unfold ixD at h
  split at h
  · obtain ⟨p, vs, rfl, h1, h2⟩ := rep_tup rx
    rw [rep_int ry]
    exact rIx_tup (ex_t e h1) h2 h k
  · obtain ⟨p, vs, rfl, h1, h2⟩ := rep_lst rx
    rw [rep_int ry]
    exact rIx_lst (SqL.of (e _ _ h1)) h2 h k
  · unfold Rep at rx; exact rx.elim
  · cases h
theorem rIx_slot {i : Nat} (r : Rel K fa W F B s σ H) (h : ((s.cont i).bind fun x => ixD x y) = some d) (hv : σ[i]? = some (some v)) (ry : Rep K fa F B y u) (k : ∀ w, Rep K fa F B d w → Q w H) : rIx K v u H Q := by
  cases q : s.cont i with
  | none => rw [q] at h; simp at h
  | some e =>
    rw [q] at h
    rcases r.cont q with ⟨w, h1, h2 | ⟨xs, rfl, p, vs, rfl, h3, h4⟩⟩ | ⟨w, h1, xs, p, ws, rfl, _⟩
    · rw [hv] at h1; cases h1
      exact rIx_ok h h2 ry r.ef k
    · rw [hv] at h1; cases h1
      have h' : ixD (.own xs) y = some d := h
      unfold ixD at h'
      split at h' <;> first | (cases h'; done) | skip
      all_goals rename_i e1
      all_goals cases e1
      rw [rep_int ry]
      exact rIx_lst (SqL.of h3) h4 h' k
    · have h' : ixD (.odc xs) y = some d := h
      unfold ixD at h'
      split at h' <;> first | (cases h'; done) | (rename_i e1; cases e1)
/-! ### slices -/
def rSl (K : PySem.W.Frag) : V → Option Int → Option Int → Hp → VK → Prop := fun x lo hi H Q => rSlL K x lo hi H Q ∨ rSlA K x lo hi H Q
theorem sl_any {X : Cx} : L2.SlR X (rSl X.K) := sl_list.or sl_tupA
theorem cut_whole {ds : List D} {lo hi : Option Int} (h1 : HT.sIx ds.length 0 lo = 0) (h2 : HT.sIx ds.length ds.length hi = ds.length) : cutD ds lo hi = ds := by
  unfold cutD
  rw [h1, h2]; simp
theorem rSl_tup {p : Addr} {ds : List D} {vs : List V} {lo hi : Option Int} (r : Rel K fa W F B s σ H) (h : SqT K H p vs) (q : Reps K fa F B ds vs) (hp : Rep K fa F B (.tup ds) (.ref p)) (k : Post K fa W F B s σ (.tup (cutD ds lo hi)) Q) : rSl K (.ref p) lo hi H Q := by
  refine .inr ⟨p, vs, rfl, h, fun e => ?_, fun _ => k.tup r (q.cut lo hi)⟩
  refine k.same r ?_
  rw [cut_whole (by rw [← q.length]; exact e.1) (by rw [← q.length]; exact e.2)]
  exact hp
theorem rSl_lst {p : Addr} {ds : List D} {vs : List V} {lo hi : Option Int} (r : Rel K fa W F B s σ H) (h : SqL K H p vs) (q : Reps K fa F B ds vs) (k : Post K fa W F B s σ (.own (cutD ds lo hi)) Q) : rSl K (.ref p) lo hi H Q :=
  .inl ⟨p, vs, rfl, h, k.own r (q.cut lo hi)⟩
theorem rSl_ok {l h' : Option Int} (h : slD x l h' = some d) (rx : Rep K fa F B x v) (r : Rel K fa W F B s σ H) (k : Post K fa W F B s σ d Q) : rSl K v l h' H Q := by
  unfold slD at h
  cases x <;> first | (cases h; done) | skip
  · cases h
    obtain ⟨p, vs, rfl, h1, h2⟩ := rep_tup rx
    exact rSl_tup r (ex_t r.ef h1) h2 rx k
  · cases h
    obtain ⟨p, vs, rfl, h1, h2⟩ := rep_lst rx
    exact rSl_lst r (SqL.of (r.ef _ _ h1)) h2 k
  · unfold Rep at rx; exact rx.elim
  · cases h
    obtain ⟨p, rfl, h1⟩ := rep_scr rx
    exact rSl_lst r (ex_l r.ef h1) (Reps.ints _) k
theorem rSl_slot {i : Nat} {l h' : Option Int} (r : Rel K fa W F B s σ H) (h : ((s.cont i).bind fun x => slD x l h') = some d) (hv : σ[i]? = some (some v)) (k : Post K fa W F B s σ d Q) : rSl K v l h' H Q := by
  cases q : s.cont i with
  | none => rw [q] at h; simp at h
  | some e =>
    rw [q] at h
    rcases r.cont q with ⟨w, h1, h2 | ⟨xs, rfl, p, vs, rfl, h3, h4⟩⟩ | ⟨w, h1, xs, p, ws, rfl, _⟩
    · rw [hv] at h1; cases h1
      exact rSl_ok h h2 r k
    · rw [hv] at h1; cases h1
      have h1 : slD (.own xs) l h' = some d := h
      cases h1
      exact rSl_lst r (SqL.of h3) h4 k
    · have h1 : slD (.odc xs) l h' = some d := h
      cases h1
/-! ### truth -/
theorem empty_of {ds : List D} {vs : List V} (h : Reps K fa F B ds vs) : (!vs.isEmpty) = !ds.isEmpty := by
  have e := h.length
  cases ds <;> cases vs <;> first | rfl | simp at e
theorem emptyK_of : ∀ {ds : List (Key × D)} {vs : List (Key × V)}, RepK K fa F B ds vs → vs.length = ds.length
  | [], vs, h => by unfold RepK at h; subst h; rfl
  | (k, d) :: ds, vs, h => by
    unfold RepK at h
    obtain ⟨w, ws, rfl, _, h2⟩ := h
    simp [emptyK_of h2]
theorem empty_ofK {ds : List (Key × D)} {vs : List (Key × V)} (h : RepK K fa F B ds vs) : (!vs.isEmpty) = !ds.isEmpty := by
  have e := emptyK_of h
  cases ds <;> cases vs <;> first | rfl | simp at e
theorem tru_rep {b : Bool} (h : truD d = some b) (r : SlV K fa W F B H d v) (e : Ex F H) : TruV K v H b := by
  cases d with
  | non => cases h; rw [rep_non (r.rep rfl)]; rfl
  | bl k => cases h; rw [rep_bl (r.rep rfl)]; rfl
  | int k => cases h; rw [rep_int (r.rep rfl)]; rfl
  | str x =>
    rw [rep_str (r.rep rfl)]
    have h' : (if x.length ≤ LINE then some (x.length != 0) else none) = some b := h
    split at h'
    · rename_i hl
      cases h'
      refine ⟨by rw [line_eq]; exact hl, ?_⟩
      rw [Bool.eq_iff_iff]
      simp
    · cases h'
  | tup xs =>
    cases h
    obtain ⟨p, vs, rfl, h1, h2⟩ := rep_tup (r.rep rfl)
    exact .inr (.inl ⟨vs, ex_t e h1, (empty_of h2).symm⟩)
  | lst xs =>
    cases h
    obtain ⟨p, vs, rfl, h1, h2⟩ := rep_lst (r.rep rfl)
    exact .inl ⟨vs, SqL.of (e _ _ h1), (empty_of h2).symm⟩
  | own xs =>
    cases h
    obtain ⟨p, vs, rfl, h1, h2, _⟩ := r
    exact .inl ⟨vs, SqL.of h1, (empty_of h2).symm⟩
  | dic xs =>
    cases h
    obtain ⟨p, vs, rfl, h1, h2⟩ := rep_dic (r.rep rfl)
    exact .inr (.inr ⟨vs, e _ _ h1, (empty_ofK h2).symm⟩)
  | odc xs =>
    cases h
    obtain ⟨p, vs, rfl, h1, h2, _⟩ := r
    exact .inr (.inr ⟨vs, h1, (empty_ofK h2).symm⟩)
  | _ => cases h
/-! ### isinstance -/
def tyN : Ty → String
  | .int => "int" | .bool => "bool" | .tuple => "tuple" | .list => "list" | .str => "str" | .dict => "dict"
def tyD : D → Option String
  | .non => some "NoneType" | .bl _ => some "bool" | .int _ => some "int" | .str _ => some "str" | .tup _ => some "tuple" | .lst _ => some "list" | .own _ => some "list"
  | .dic _ => some "dict" | .odc _ => some "dict" | .scr _ => some "list" | .box _ => some "list" | .fn _ => none
theorem kit_tab (t : Ty) : (kitB "NoneType" (tyN t) = some (isTy .non t)) ∧ (kitB "bool" (tyN t) = some (isTy (.bl true) t)) ∧ (kitB "int" (tyN t) = some (isTy (.int 0) t)) ∧ (kitB "str" (tyN t) = some (isTy (.str "") t)) ∧
    (kitB "tuple" (tyN t) = some (isTy (.tup []) t)) ∧ (kitB "list" (tyN t) = some (isTy (.lst []) t)) ∧ (kitB "dict" (tyN t) = some (isTy (.dic []) t)) := by
  cases t <;> decide +kernel
theorem kit_of' {n : String} (h : tyD d = some n) (t : Ty) : kitB n (tyN t) = some (isTy d.frz t) := by
  obtain ⟨h1, h2, h3, h4, h5, h6, h7⟩ := kit_tab t
  cases d <;> cases h <;> cases t <;> assumption
theorem tyX_of {n : String} (h : tyD d = some n) (r : Rel K fa W F B s σ H) (q : Rep K fa F B d v) : TyX K H v (.type n) := by
  cases d with
  | non => cases h; rw [rep_non q]; exact .base .non
  | bl k => cases h; rw [rep_bl q]; exact .base (.bl _)
  | int k => cases h; rw [rep_int q]; exact .base (.int _)
  | str x => cases h; rw [rep_str q]; exact .base (.str _)
  | tup xs =>
    cases h
    obtain ⟨p, vs, rfl, h1, h2⟩ := rep_tup q
    rcases ex_t r.ef h1 with (h3 | ⟨o, h3⟩) | ⟨o, its, k, h3, h4, _⟩
    · exact .base (.tup h3)
    · exact .fTuple h3
    · exact .kTuple h3 h4
  | lst xs =>
    cases h
    obtain ⟨p, vs, rfl, h1, h2⟩ := rep_lst q
    exact .base (.lst (r.ef _ _ h1))
  | dic xs =>
    cases h
    obtain ⟨p, vs, rfl, h1, h2⟩ := rep_dic q
    exact .base (.dK (r.ef _ _ h1))
  | scr xs =>
    cases h
    obtain ⟨p, rfl, h1⟩ := rep_scr q
    rcases ex_l r.ef h1 with (h3 | ⟨o, h3⟩) | ⟨o, its, k, h3, h4, _⟩
    · exact .base (.lst h3)
    · exact .base (.frz h3)
    · exact .kList h3 h4
  | box k =>
    cases h
    obtain ⟨p, rfl, h1⟩ := rep_box q
    have hk : k < s.box.length := by rw [← r.bl]; exact (List.getElem?_eq_some_iff.mp h1).1
    obtain ⟨p', vs, a1, a2, _⟩ := r.bx k s.box[k] (by simp [hk])
    rw [h1] at a1; cases a1
    exact .base (.lst a2)
  | fn k => cases h
  | own xs => unfold Rep at q; exact q.elim
  | odc xs => unfold Rep at q; exact q.elim
theorem kitAny_of {n : String} (h : tyD d = some n) : ∀ ts : List Ty, PySem.W.kitAny K (.type n) (ts.map fun t => Value.type (tyN t)) = some (ts.any (isTy d.frz))
  | [] => rfl
  | t :: ts => kitAny_cons (kit_ty (kit_of' h t)) (fun e => by rw [kitAny_of h ts, List.any_cons, e]; rfl) (fun e => by rw [List.any_cons, e]; rfl)
/-! ### built-ins -/
theorem allB_ok : ∀ {ds : List D} {bs : List Bool} {vs : List V}, allB ds = some bs → Reps K fa F B ds vs → vs = bs.map V.bl
  | [], bs, vs, h, r => by cases h; unfold Reps at r; exact r
  | d :: ds, bs, vs, h, r => by
    unfold Reps at r
    obtain ⟨w, ws, rfl, h1, h2⟩ := r
    cases d <;> first | (cases h; done) | skip
    rename_i b
    have h' : (allB ds).map (b :: ·) = some bs := h
    cases q : allB ds with
    | none => rw [q] at h'; cases h'
    | some cs =>
      rw [q] at h'; cases h'
      rw [rep_bl h1, allB_ok q h2]; rfl
theorem allI_ok : ∀ {ds : List D} {bs : List Int} {vs : List V}, allI ds = some bs → Reps K fa F B ds vs → vs = bs.map V.int
  | [], bs, vs, h, r => by cases h; unfold Reps at r; exact r
  | d :: ds, bs, vs, h, r => by
    unfold Reps at r
    obtain ⟨w, ws, rfl, h1, h2⟩ := r
    cases d <;> first | (cases h; done) | skip
    rename_i b
    have h' : (allI ds).map (b :: ·) = some bs := h
    cases q : allI ds with
    | none => rw [q] at h'; cases h'
    | some cs =>
      rw [q] at h'; cases h'
      rw [rep_int h1, allI_ok q h2]; rfl
theorem minL_uni : ∀ {ns : List Int} {m : Int}, m ∈ ns → (∀ y, y ∈ ns → m ≤ y) → minL ns = m
  | [], m, h, _ => by cases h
  | [a], m, h, _ => by simp at h; subst h; rfl
  | a :: b :: r, m, h, k => by
    show (if a ≤ minL (b :: r) then a else minL (b :: r)) = m
    have ex : ∀ (l : List Int), l ≠ [] → minL l ∈ l ∧ ∀ y ∈ l, minL l ≤ y := by
      intro l
      induction l with
      | nil => intro h; exact absurd rfl h
      | cons c t ih =>
        intro _
        cases t with
        | nil => exact ⟨by simp [minL], fun y hy => by simp at hy; subst hy; exact Int.le_refl _⟩
        | cons e t =>
          obtain ⟨i1, i2⟩ := ih (by simp)
          show (if c ≤ minL (e :: t) then c else minL (e :: t)) ∈ _ ∧ ∀ y ∈ _, (if c ≤ minL (e :: t) then c else minL (e :: t)) ≤ y
          split
          · refine ⟨by simp, fun y hy => ?_⟩
            rcases List.mem_cons.mp hy with rfl | hy
            · exact Int.le_refl _
            · have := i2 y hy; omega
          · refine ⟨List.mem_cons_of_mem _ i1, fun y hy => ?_⟩
            rcases List.mem_cons.mp hy with rfl | hy
            · omega
            · exact i2 y hy
    obtain ⟨i1, i2⟩ := ex (b :: r) (by simp)
    split
    · rename_i c
      have := k a (by simp)
      rcases List.mem_cons.mp h with rfl | h'
      · rfl
      · have := i2 m h'; omega
    · rename_i c
      have := k _ (List.mem_cons_of_mem a i1)
      rcases List.mem_cons.mp h with rfl | h'
      · omega
      · have := i2 m h'; omega
theorem maxL_uni : ∀ {ns : List Int} {m : Int}, m ∈ ns → (∀ y, y ∈ ns → y ≤ m) → maxL ns = m
  | [], m, h, _ => by cases h
  | [a], m, h, _ => by simp at h; subst h; rfl
  | a :: b :: r, m, h, k => by
    show (if maxL (b :: r) ≤ a then a else maxL (b :: r)) = m
    have ex : ∀ (l : List Int), l ≠ [] → maxL l ∈ l ∧ ∀ y ∈ l, y ≤ maxL l := by
      intro l
      induction l with
      | nil => intro h; exact absurd rfl h
      | cons c t ih =>
        intro _
        cases t with
        | nil => exact ⟨by simp [maxL], fun y hy => by simp at hy; subst hy; exact Int.le_refl _⟩
        | cons e t =>
          obtain ⟨i1, i2⟩ := ih (by simp)
          show (if maxL (e :: t) ≤ c then c else maxL (e :: t)) ∈ _ ∧ ∀ y ∈ _, y ≤ (if maxL (e :: t) ≤ c then c else maxL (e :: t))
          split
          · refine ⟨by simp, fun y hy => ?_⟩
            rcases List.mem_cons.mp hy with rfl | hy
            · exact Int.le_refl _
            · have := i2 y hy; omega
          · refine ⟨List.mem_cons_of_mem _ i1, fun y hy => ?_⟩
            rcases List.mem_cons.mp hy with rfl | hy
            · omega
            · exact i2 y hy
    obtain ⟨i1, i2⟩ := ex (b :: r) (by simp)
    split
    · rename_i c
      have := k a (by simp)
      rcases List.mem_cons.mp h with rfl | h'
      · rfl
      · have := i2 m h'; omega
    · rename_i c
      have := k _ (List.mem_cons_of_mem a i1)
      rcases List.mem_cons.mp h with rfl | h'
      · omega
      · have := i2 m h'; omega
end
end Q
end

section
set_option maxRecDepth 100000
set_option maxHeartbeats 2000000
/-! QExp: expressions of the small language against the machine's. -/
namespace Q
open PySem PySem.Spec PyProof.Rows L2

theorem bnd_inv {α β : Type} {r : Res α} {f : α → S → Res β} {b : β} {s : S} (h : r.bnd f = .ok b s) : ∃ a s1, r = .ok a s1 ∧ f a s1 = .ok b s := by
  cases r with
  | ok a s1 => exact ⟨a, s1, rfl, h⟩
  | exc d s1 => cases h
  | bad => cases h
theorem opt_inv {α : Type} {o : Option α} {a : α} {s s' : S} (h : Res.opt o s = .ok a s') : o = some a ∧ s' = s := by
  cases o with
  | some b => cases h; exact ⟨rfl, rfl⟩
  | none => cases h
theorem map_inv {α β : Type} {o : Option α} {f : α → β} {b : β} (h : o.map f = some b) : ∃ a, o = some a ∧ f a = b := by
  cases o with
  | some a => cases h; exact ⟨a, rfl, rfl⟩
  | none => cases h
theorem bind_inv {α β : Type} {o : Option α} {f : α → Option β} {b : β} (h : o.bind f = some b) : ∃ a, o = some a ∧ f a = some b := by
  cases o with
  | some a => exact ⟨a, rfl, h⟩
  | none => cases h
theorem pe_w {X : Cx} {e : Expr} {t t' : TE} (h : PE X e t) (w : ∀ σ H Q, t' σ H Q → t σ H Q) : PE X e t' := ⟨fun pins s σ H Q I q => h.run pins s σ H Q I (w σ H Q q)⟩
theorem pt_w {X : Cx} {e : Expr} {t t' : TT} (h : PT X e t) (w : ∀ σ H Q, t' σ H Q → t σ H Q) : PT X e t' := ⟨fun pins s σ H Q I q => h.run pins s σ H Q I (w σ H Q q)⟩
theorem pw_w {X : Cx} {e : Expr} {t t' : TT} (h : PW X e t) (w : ∀ σ H Q, t' σ H Q → t σ H Q) : PW X e t' := ⟨fun wh pins s σ H Q I q => h.run wh pins s σ H Q I (w σ H Q q)⟩
theorem pa_w {X : Cx} {e : List Expr} {t t' : TA} (h : PA X e t) (w : ∀ σ H Q, t' σ H Q → t σ H Q) : PA X e t' := ⟨fun pos pins s σ H Q I q => h.run pos pins s σ H Q I (w σ H Q q)⟩
theorem ps_w {X : Cx} {e : Stmt} {t t' : TS} (h : PS X e t) (w : ∀ D σ H, t' D σ H → t D σ H) : PS X e t' := ⟨fun pins s σ H D I q => h.run pins s σ H D I (w D σ H q)⟩
theorem pss_w {X : Cx} {e : List Stmt} {t t' : TS} (h : PSs X e t) (w : ∀ D σ H, t' D σ H → t D σ H) : PSs X e t' := ⟨fun pins s σ H D I q => h.run pins s σ H D I (w D σ H q)⟩

section
variable (K : PySem.W.Frag) (fa : Nat → Option Addr) (c : Env)
def tE (e : E) : TE := fun σ H Q => ∃ W F B s d s', Rel K fa W F B s σ H ∧ evE c e s = .ok d s' ∧ ∀ F' B' H' v, Stp W F B F' B' → Rel K fa W F' B' s' σ H' → RR K fa W F' B' s' σ H' d v → Q v H'
def tT (e : E) : TT := fun σ H Q => ∃ W F B s d s', Rel K fa W F B s σ H ∧ evT c e s = .ok d s' ∧ ∀ F' B' H', Stp W F B F' B' → Rel K fa W F' B' s' σ H' → Q d H'
def tA (e : E) : TA := fun σ H Q => ∃ W F B s ds s', Rel K fa W F B s σ H ∧ evA c e s = .ok ds s' ∧ ∀ F' B' H' vs, Stp W F B F' B' → Rel K fa W F' B' s' σ H' → Reps K fa F' B' ds vs → Q vs H'
end
section
variable {K : PySem.W.Frag} {fa : Nat → Option Addr} {c : Env} {W F F' : Hp} {B B' : List Addr} {s s1 : S} {σ : L2.St} {H H' : Hp} {d x y : D} {v u : V} {Q : VK} {e : E}
theorem Rep.stp (h : Rep K fa F B d v) (st : Stp W F B F' B') : Rep K fa F' B' d v := Rep.mono st.ex st.bs _ _ h
theorem Reps.stp {ds : List D} {vs : List V} (h : Reps K fa F B ds vs) (st : Stp W F B F' B') : Reps K fa F' B' ds vs := Reps.mono st.ex st.bs _ _ h
/-- an operand: its value for good -/
theorem tE_use (r : Rel K fa W F B s σ H) (h : evE c e s = .ok d s1) (k : ∀ F1 B1 H1 v, Stp W F B F1 B1 → Rel K fa W F1 B1 s1 σ H1 → Rep K fa F1 B1 d.frz v → Q v H1) : tE K fa c e σ H Q :=
  ⟨W, F, B, s, d, s1, r, h, fun F' B' H' v st r' rr => let ⟨F2, st2, r2, rp⟩ := r'.frzR rr; k F2 B' H' v (st.trans st2) r2 rp⟩
theorem tE_res (r : Rel K fa W F B s σ H) (h : evE c e s = .ok d s1) (k : ∀ F1 B1 H1 v, Stp W F B F1 B1 → Rel K fa W F1 B1 s1 σ H1 → RR K fa W F1 B1 s1 σ H1 d v → Q v H1) : tE K fa c e σ H Q := ⟨W, F, B, s, d, s1, r, h, k⟩
theorem tT_use {b : Bool} {Q : Bool → Hp → Prop} (r : Rel K fa W F B s σ H) (h : evT c e s = .ok b s1) (k : ∀ F1 B1 H1, Stp W F B F1 B1 → Rel K fa W F1 B1 s1 σ H1 → Q b H1) : tT K fa c e σ H Q := ⟨W, F, B, s, b, s1, r, h, k⟩
theorem tA_use {ds : List D} {Q : List V → Hp → Prop} (r : Rel K fa W F B s σ H) (h : evA c e s = .ok ds s1) (k : ∀ F1 B1 H1 vs, Stp W F B F1 B1 → Rel K fa W F1 B1 s1 σ H1 → Reps K fa F1 B1 ds vs → Q vs H1) : tA K fa c e σ H Q := ⟨W, F, B, s, ds, s1, r, h, k⟩
theorem post_of {s1 : S} {F1 : Hp} {B1 : List Addr} (st : Stp W F B F1 B1) (k : ∀ F' B' H' v, Stp W F B F' B' → Rel K fa W F' B' s1 σ H' → RR K fa W F' B' s1 σ H' d v → Q v H') : Post K fa W F1 B1 s1 σ d Q := fun F' B' H' v st' r rr => k F' B' H' v (st.trans st') r rr
end

section
variable {X : Cx} {fa : Nat → Option Addr} {c : Env} {a b d : Expr} {es : List Expr} {ea eb ed ee : E} {pos : Pos}
theorem e_var {i : Nat} {x : Str} (h : PE X (.Name x pos) (tVar i)) : PE X (.Name x pos) (tE X.K fa c (.var i)) :=
  pe_w h fun σ H Q ⟨W, F, B, s, d, s', r, h, k⟩ => by
    obtain ⟨h1, rfl⟩ := opt_inv h
    obtain ⟨d0, h2, rfl⟩ := map_inv h1
    obtain ⟨F', v, st, r', hv, rp⟩ := r.frzS h2
    exact ⟨v, hv, k F' B H v st r' (RR.of rp)⟩
theorem e_cst {e : Expr} {d : D} {v : V} (h : PE X e (tC v)) (hr : ∀ F B, Rep X.K fa F B d v) : PE X e (tE X.K fa c (.cst d)) :=
  pe_w h fun σ H Q ⟨W, F, B, s, d', s', r, h, k⟩ => by
    cases h
    exact k F B H v Stp.refl r (RR.of (hr _ _))
theorem e_glb {e : Expr} {d : D} {v : V} {g : Nat} (h : PE X e (tC v)) (hg : c.glb g = some d) (hr : ∀ F B, Rep X.K fa F B d v) : PE X e (tE X.K fa c (.glb g)) :=
  pe_w h fun σ H Q ⟨W, F, B, s, d', s', r, h, k⟩ => by
    obtain ⟨h1, rfl⟩ := opt_inv h
    rw [hg] at h1; cases h1
    exact k F B H v Stp.refl r (RR.of (hr _ _))
theorem e_fnc {e : Expr} {p : Addr} {g : Nat} (h : PE X e (tC (.ref p))) (hg : fa g = some p) : PE X e (tE X.K fa c (.fnc g)) :=
  pe_w h fun σ H Q ⟨W, F, B, s, d', s', r, h, k⟩ => by
    cases h
    exact k F B H _ Stp.refl r (RR.of (by unfold Rep; exact ⟨p, rfl, hg⟩))
theorem e_bin (o : BOp) (ha : PE X a (tE X.K fa c ea)) (hb : PE X b (tE X.K fa c eb)) : PE X (.BinOp a (oB o) b pos) (tE X.K fa c (.bin o ea eb)) :=
  pe_w (pe_op (op_rB o) ha hb) fun σ H Q ⟨W, F, B, s, d, s', r, h, k⟩ => by
    obtain ⟨x, s1, h1, h⟩ := bnd_inv h
    obtain ⟨y, s2, h2, h⟩ := bnd_inv h
    obtain ⟨q, rfl⟩ := opt_inv h
    exact tE_use r h1 fun F1 B1 H1 v1 st1 r1 rx => tE_use r1 h2 fun F2 B2 H2 v2 st2 r2 ry => rB_ok q (rx.stp st2) ry r2 (post_of (st1.trans st2) k)
theorem e_cmp (hu : X.A.units + 64 < cLine) (o : COp) (ha : PE X a (tE X.K fa c ea)) (hb : PE X b (tE X.K fa c eb)) (hm : behindInMarks (oC o) b = false) : PE X (.Compare a [oC o] [b] pos) (tE X.K fa c (.cmp o ea eb)) :=
  pe_w (pe_cmpR (op_rC hu o) ha hb hm) fun σ H Q ⟨W, F, B, s, d, s', r, h, k⟩ => by
    obtain ⟨x, s1, h1, h⟩ := bnd_inv h
    obtain ⟨y, s2, h2, h⟩ := bnd_inv h
    obtain ⟨q, rfl⟩ := opt_inv h
    obtain ⟨z, q2, rfl⟩ := map_inv q
    exact tE_use r h1 fun F1 B1 H1 v1 st1 r1 rx => tE_use r1 h2 fun F2 B2 H2 v2 st2 r2 ry => rC_ok q2 (rx.stp st2) ry r2.ef (k F2 B2 H2 _ (st1.trans st2) r2 (RR.of (of_bl z)))
theorem t_cmp (hu : X.A.units + 64 < cLine) (o : COp) (ha : PE X a (tE X.K fa c ea)) (hb : PE X b (tE X.K fa c eb)) (hm : behindInMarks (oC o) b = false) : PT X (.Compare a [oC o] [b] pos) (tT X.K fa c (.tru (.cmp o ea eb))) :=
  pt_w (pt_cmpR (op_rC hu o) ha hb hm) fun σ H Q ⟨W, F, B, s, d, s', r, h, k⟩ => by
    obtain ⟨w, s0, h0, h⟩ := bnd_inv h
    obtain ⟨q, rfl⟩ := opt_inv h
    obtain ⟨x, s1, h1, h0⟩ := bnd_inv h0
    obtain ⟨y, s2, h2, h0⟩ := bnd_inv h0
    obtain ⟨q0, rfl⟩ := opt_inv h0
    obtain ⟨z, q2, rfl⟩ := map_inv q0
    cases q
    exact tE_use r h1 fun F1 B1 H1 v1 st1 r1 rx => tE_use r1 h2 fun F2 B2 H2 v2 st2 r2 ry => rC_ok q2 (rx.stp st2) ry r2.ef ⟨_, rfl, k F2 B2 H2 (st1.trans st2) r2⟩
theorem e_chn (hu : X.A.units + 64 < cLine) (o p : COp) (ha : PE X a (tE X.K fa c ea)) (hb : PE X b (tE X.K fa c eb)) (hd : PE X d (tE X.K fa c ed)) (hm : lastMarks [oC o, oC p] [b, d] = false) : PE X (.Compare a [oC o, oC p] [b, d] pos) (tE X.K fa c (.chn o p ea eb ed)) :=
  pe_w (pe_chain (op_rC hu o) (op_rC hu p) ha hb hd hm) fun σ H Q ⟨W, F, B, s, d, s', r, h, k⟩ => by
    obtain ⟨x, s1, h1, h⟩ := bnd_inv h
    obtain ⟨y, s2, h2, h⟩ := bnd_inv h
    obtain ⟨z, s3, h3, h⟩ := bnd_inv h
    obtain ⟨q3, rfl⟩ := opt_inv h3
    refine tE_use r h1 fun F1 B1 H1 v1 st1 r1 rx => tE_use r1 h2 fun F2 B2 H2 v2 st2 r2 ry => rC_ok q3 (rx.stp st2) ry r2.ef ⟨z, rfl, ?_⟩
    cases z with
    | false =>
      cases h
      exact iteF (k F2 B2 H2 _ (st1.trans st2) r2 (RR.of (of_bl false)))
    | true =>
      obtain ⟨w, s4, h4, h⟩ := bnd_inv h
      obtain ⟨q, rfl⟩ := opt_inv h
      obtain ⟨z, q2, rfl⟩ := map_inv q
      exact iteT (tE_use r2 h4 fun F3 B3 H3 v3 st3 r3 rz => rC_ok q2 (ry.stp st3) rz r3.ef (k F3 B3 H3 _ ((st1.trans st2).trans st3) r3 (RR.of (of_bl z))))
theorem t_chn (hu : X.A.units + 64 < cLine) (o p : COp) (ha : PE X a (tE X.K fa c ea)) (hb : PE X b (tE X.K fa c eb)) (hd : PE X d (tE X.K fa c ed)) (hm : lastMarks [oC o, oC p] [b, d] = false) : PT X (.Compare a [oC o, oC p] [b, d] pos) (tT X.K fa c (.tru (.chn o p ea eb ed))) :=
  pt_w (pt_chain (op_rC hu o) (op_rC hu p) ha hb hd hm) fun σ H Q ⟨W, F, B, s, d, s', r, h, k⟩ => by
    obtain ⟨w, s0, h0, h⟩ := bnd_inv h
    obtain ⟨q, rfl⟩ := opt_inv h
    obtain ⟨x, s1, h1, h0⟩ := bnd_inv h0
    obtain ⟨y, s2, h2, h0⟩ := bnd_inv h0
    obtain ⟨z, s3, h3, h0⟩ := bnd_inv h0
    obtain ⟨q3, rfl⟩ := opt_inv h3
    refine tE_use r h1 fun F1 B1 H1 v1 st1 r1 rx => tE_use r1 h2 fun F2 B2 H2 v2 st2 r2 ry => rC_ok q3 (rx.stp st2) ry r2.ef ⟨z, rfl, ?_⟩
    cases z with
    | false =>
      cases h0; cases q
      exact iteF ⟨_, rfl, k F2 B2 H2 (st1.trans st2) r2⟩
    | true =>
      obtain ⟨w, s4, h4, h0⟩ := bnd_inv h0
      obtain ⟨q0, rfl⟩ := opt_inv h0
      obtain ⟨z, q2, rfl⟩ := map_inv q0
      cases q
      exact iteT (tE_use r2 h4 fun F3 B3 H3 v3 st3 r3 rz => rC_ok q2 (ry.stp st3) rz r3.ef ⟨_, rfl, k F3 B3 H3 ((st1.trans st2).trans st3) r3⟩)
/-! ### words -/
theorem e_and (ha : PE X a (tE X.K fa c ea)) (hb : PE X (.BoolOp .And (b :: es) pos) (tE X.K fa c eb)) : PE X (.BoolOp .And (a :: b :: es) pos) (tE X.K fa c (.and ea eb)) :=
  pe_w (pe_and ha hb) fun σ H Q ⟨W, F, B, s, d, s', r, h, k⟩ => by
    obtain ⟨x, s1, h1, h⟩ := bnd_inv h
    cases x <;> first | (cases h; done) | skip
    rename_i z
    refine tE_use r h1 fun F1 B1 H1 v1 st1 r1 rx => ⟨z, rep_bl rx, ?_⟩
    cases z with
    | false => cases h; exact iteF (k F1 B1 H1 _ st1 r1 (RR.of (of_bl false)))
    | true =>
      obtain ⟨y, s2, h2, h⟩ := bnd_inv h
      cases h
      exact iteT (tE_use r1 h2 fun F2 B2 H2 v2 st2 r2 ry => k F2 B2 H2 v2 (st1.trans st2) r2 (RR.of ry))
theorem e_or (ha : PE X a (tE X.K fa c ea)) (hb : PE X (.BoolOp .Or (b :: es) pos) (tE X.K fa c eb)) : PE X (.BoolOp .Or (a :: b :: es) pos) (tE X.K fa c (.or ea eb)) :=
  pe_w (pe_or ha hb) fun σ H Q ⟨W, F, B, s, d, s', r, h, k⟩ => by
    obtain ⟨x, s1, h1, h⟩ := bnd_inv h
    cases x <;> first | (cases h; done) | skip
    rename_i z
    refine tE_use r h1 fun F1 B1 H1 v1 st1 r1 rx => ⟨z, rep_bl rx, ?_⟩
    cases z with
    | true => cases h; exact iteT (k F1 B1 H1 _ st1 r1 (RR.of (of_bl true)))
    | false =>
      obtain ⟨y, s2, h2, h⟩ := bnd_inv h
      cases h
      exact iteF (tE_use r1 h2 fun F2 B2 H2 v2 st2 r2 ry => k F2 B2 H2 v2 (st1.trans st2) r2 (RR.of ry))
theorem e_not (ha : PE X a (tE X.K fa c ea)) : PE X (.UnaryOp .Not a pos) (tE X.K fa c (.not ea)) :=
  pe_w (pe_not ha) fun σ H Q ⟨W, F, B, s, d, s', r, h, k⟩ => by
    obtain ⟨x, s1, h1, h⟩ := bnd_inv h
    cases x <;> first | (cases h; done) | skip
    rename_i z
    cases h
    exact tE_use r h1 fun F1 B1 H1 v1 st1 r1 rx => ⟨z, rep_bl rx, k F1 B1 H1 _ st1 r1 (RR.of (of_bl _))⟩
theorem e_neg (ha : PE X a (tE X.K fa c ea)) : PE X (.UnaryOp .USub a pos) (tE X.K fa c (.neg ea)) :=
  pe_w (pe_un un_neg ha) fun σ H Q ⟨W, F, B, s, d, s', r, h, k⟩ => by
    obtain ⟨x, s1, h1, h⟩ := bnd_inv h
    cases x <;> first | (cases h; done) | skip
    rename_i z
    cases h
    exact tE_use r h1 fun F1 B1 H1 v1 st1 r1 rx => ⟨z, rep_int rx, k F1 B1 H1 _ st1 r1 (RR.of (of_int _))⟩
theorem e_ite (hd : PT X d (tT X.K fa c ed)) (ha : PE X a (tE X.K fa c ea)) (hb : PE X b (tE X.K fa c eb)) : PE X (.IfExp d a b pos) (tE X.K fa c (.ite ed ea eb)) :=
  pe_w (pe_ifExp hd ha hb) fun σ H Q ⟨W, F, B, s, d, s', r, h, k⟩ => by
    obtain ⟨x, s1, h1, h⟩ := bnd_inv h
    refine tT_use r h1 fun F1 B1 H1 st1 r1 => ?_
    cases x with
    | true =>
      obtain ⟨y, s2, h2, h⟩ := bnd_inv h
      cases h
      exact iteT (tE_use r1 h2 fun F2 B2 H2 v2 st2 r2 ry => k F2 B2 H2 v2 (st1.trans st2) r2 (RR.of ry))
    | false =>
      obtain ⟨y, s2, h2, h⟩ := bnd_inv h
      cases h
      exact iteF (tE_use r1 h2 fun F2 B2 H2 v2 st2 r2 ry => k F2 B2 H2 v2 (st1.trans st2) r2 (RR.of ry))
theorem t_and (ha : PT X a (tT X.K fa c ea)) (hb : PW X (.BoolOp .And (b :: es) pos) (tT X.K fa c eb)) : PW X (.BoolOp .And (a :: b :: es) pos) (tT X.K fa c (.and ea eb)) :=
  pw_w (pw_and ha hb) fun σ H Q ⟨W, F, B, s, d, s', r, h, k⟩ => by
    obtain ⟨x, s1, h1, h⟩ := bnd_inv h
    refine tT_use r h1 fun F1 B1 H1 st1 r1 => ?_
    cases x with
    | true => exact iteT (tT_use r1 h fun F2 B2 H2 st2 r2 => k F2 B2 H2 (st1.trans st2) r2)
    | false => cases h; exact iteF (k F1 B1 H1 st1 r1)
theorem t_or (ha : PT X a (tT X.K fa c ea)) (hb : PW X (.BoolOp .Or (b :: es) pos) (tT X.K fa c eb)) : PW X (.BoolOp .Or (a :: b :: es) pos) (tT X.K fa c (.or ea eb)) :=
  pw_w (pw_or ha hb) fun σ H Q ⟨W, F, B, s, d, s', r, h, k⟩ => by
    obtain ⟨x, s1, h1, h⟩ := bnd_inv h
    refine tT_use r h1 fun F1 B1 H1 st1 r1 => ?_
    cases x with
    | true => cases h; exact iteT (k F1 B1 H1 st1 r1)
    | false => exact iteF (tT_use r1 h fun F2 B2 H2 st2 r2 => k F2 B2 H2 (st1.trans st2) r2)
theorem t_not (ha : PT X a (tT X.K fa c ea)) : PT X (.UnaryOp .Not a pos) (tT X.K fa c (.not ea)) :=
  pt_w (pt_not ha) fun σ H Q ⟨W, F, B, s, d, s', r, h, k⟩ => by
    obtain ⟨x, s1, h1, h⟩ := bnd_inv h
    cases h
    exact tT_use r h1 fun F1 B1 H1 st1 r1 => k F1 B1 H1 st1 r1
/-- any other expression in a test's place: by its truth -/
theorem t_tru (ha : PE X a (tE X.K fa c ea)) (he : ∀ whole, isTrue a X.env whole = (do let v ← whole; standAt a.pos; holding [v] (truthy v))) : PT X a (tT X.K fa c (.tru ea)) :=
  pt_w (pt_truth ha he) fun σ H Q ⟨W, F, B, s, d, s', r, h, k⟩ => by
    obtain ⟨x, s1, h1, h⟩ := bnd_inv h
    obtain ⟨q, rfl⟩ := opt_inv h
    exact ⟨W, F, B, s, x, s', r, h1, fun F1 B1 H1 v st1 r1 rr => ⟨d, tru_rep q rr.1 r1.ef, k F1 B1 H1 st1 r1⟩⟩
theorem t_trv {i : Nat} {x : Str} (ha : PE X (.Name x pos) (tVar i)) : PT X (.Name x pos) (tT X.K fa c (.trv i)) :=
  pt_w (pt_truth ha (by intro _; rfl)) fun σ H Q ⟨W, F, B, s, d, s', r, h, k⟩ => by
    obtain ⟨q, rfl⟩ := opt_inv h
    obtain ⟨x, h1, q⟩ := bind_inv q
    obtain ⟨v, h2, h3⟩ := r.slot i x h1
    exact ⟨v, h2, d, tru_rep q h3 r.ef, k F B H Stp.refl r⟩
/-! ### displays, arguments -/
theorem a_nil : PA X [] (tA X.K fa c .nil) := pa_w pa_nil fun σ H Q ⟨W, F, B, s, d, s', r, h, k⟩ => by
  cases h
  exact k F B H [] Stp.refl r Reps.nil
theorem a_cons (ha : PE X a (tE X.K fa c ea)) (hr : PA X es (tA X.K fa c ee)) (hs : starEach (a :: es) X.env = (false, eval a X.env) :: starEach es X.env) : PA X (a :: es) (tA X.K fa c (.cons ea ee)) :=
  pa_w (pa_cons ha hr hs) fun σ H Q ⟨W, F, B, s, d, s', r, h, k⟩ => by
    obtain ⟨x, s1, h1, h⟩ := bnd_inv h
    obtain ⟨xs, s2, h2, h⟩ := bnd_inv h
    cases h
    exact tE_use r h1 fun F1 B1 H1 v1 st1 r1 rx => tA_use r1 h2 fun F2 B2 H2 vs st2 r2 rs => k F2 B2 H2 _ (st1.trans st2) r2 (.cons (rx.stp st2) rs)
theorem e_tup {n : Nat} (h : PA X es (tA X.K fa c ee)) : PE X (.Tuple es n pos) (tE X.K fa c (.tup ee)) :=
  pe_w (pe_tup h) fun σ H Q ⟨W, F, B, s, d, s', r, h, k⟩ => by
    obtain ⟨xs, s1, h1, h⟩ := bnd_inv h
    split at h <;> cases h
    rename_i hl
    exact tA_use r h1 fun F1 B1 H1 vs st1 r1 rs => ⟨by rw [rs.length, line_eq]; exact hl, (post_of st1 k).tup r1 rs⟩
theorem e_lst (h : PA X es (tA X.K fa c ee)) : PE X (.List es pos) (tE X.K fa c (.lst ee)) :=
  pe_w (pe_lst h) fun σ H Q ⟨W, F, B, s, d, s', r, h, k⟩ => by
    obtain ⟨xs, s1, h1, h⟩ := bnd_inv h
    split at h <;> cases h
    rename_i hl
    exact tA_use r h1 fun F1 B1 H1 vs st1 r1 rs => ⟨by rw [rs.length, line_eq]; exact hl, (post_of st1 k).own r1 rs⟩
/-! ### subscripts, slices -/
theorem e_idx (ha : PE X a (tE X.K fa c ea)) (hb : PE X b (tE X.K fa c eb)) (hp : PlainIx b) : PE X (.Subscript a b pos) (tE X.K fa c (.idx ea eb)) :=
  pe_w (pe_ix ix_seq ha hb hp) fun σ H Q ⟨W, F, B, s, d, s', r, h, k⟩ => by
    obtain ⟨x, s1, h1, h⟩ := bnd_inv h
    obtain ⟨y, s2, h2, h⟩ := bnd_inv h
    obtain ⟨q, rfl⟩ := opt_inv h
    exact tE_use r h1 fun F1 B1 H1 v1 st1 r1 rx => tE_use r1 h2 fun F2 B2 H2 v2 st2 r2 ry => rIx_ok q (rx.stp st2) ry r2.ef fun w rw => k F2 B2 H2 w (st1.trans st2) r2 (RR.of rw)
theorem isSome_inv {α : Type} {o : Option α} (h : o.isSome = true) : ∃ a, o = some a := by
  cases o with
  | some a => exact ⟨a, rfl⟩
  | none => cases h
theorem e_ixv {i : Nat} {x : Str} {p : Pos} (ha : PE X (.Name x p) (tVar i)) (hb : PE X b (tE X.K fa c eb)) (hp : PlainIx b) : PE X (.Subscript (.Name x p) b pos) (tE X.K fa c (.ixv i eb)) :=
  pe_w (pe_ix ix_seq ha hb hp) fun σ H Q ⟨W, F, B, s, d, s', r, h, k⟩ => by
    have h' : (if (s.get i).isSome then (evE c eb s).bnd fun y s1 => Res.opt ((s1.cont i).bind fun x => ixD x y.frz) s1 else .bad) = .ok d s' := h
    split at h' <;> first | (cases h'; done) | skip
    rename_i hs
    obtain ⟨d0, hd⟩ := isSome_inv hs
    obtain ⟨v, hv, _⟩ := r.slot i d0 hd
    obtain ⟨y, s2, h2, h3⟩ := bnd_inv h'
    obtain ⟨q, rfl⟩ := opt_inv h3
    exact ⟨v, hv, tE_use r h2 fun F2 B2 H2 v2 st2 r2 ry => rIx_slot r2 q hv ry fun w rw => k F2 B2 H2 w st2 r2 (RR.of rw)⟩
/-- a part of a slice -/
def tO (K : PySem.W.Frag) (fa : Nat → Option Addr) (c : Env) (e : E) : TO := fun σ H Q => ∃ W F B s o s', Rel K fa W F B s σ H ∧ evO c e s = .ok o s' ∧ ∀ F' B' H', Stp W F B F' B' → Rel K fa W F' B' s' σ H' → Q o H'
theorem po_w {e : Option Expr} {t t' : TO} (h : PO X e t) (w : ∀ σ H Q, t' σ H Q → t σ H Q) : PO X e t' := ⟨fun pins s σ H Q I q => h.run pins s σ H Q I (w σ H Q q)⟩
theorem o_none : PO X none (tO X.K fa c .nil) := po_w po_none fun σ H Q ⟨W, F, B, s, o, s', r, h, k⟩ => by
  cases h
  exact k F B H Stp.refl r
theorem o_some {e : Expr} {ee : E} (he : PE X e (tE X.K fa c ee)) : PO X (some e) (tO X.K fa c (.prt ee)) := po_w (po_some he) fun σ H Q ⟨W, F, B, s, o, s', r, h, k⟩ => by
  obtain ⟨x, s1, h1, h2⟩ := bnd_inv h
  cases x <;> first | (cases h2; done) | skip
  cases h2
  exact tE_use r h1 fun F1 B1 H1 v st r1 rp => ⟨_, rep_int rp, k F1 B1 H1 st r1⟩
theorem tO_use {e : E} {W F B s s1 σ H} {o : Option Int} {Q : Option Int → Hp → Prop} (r : Rel X.K fa W F B s σ H) (h : evO c e s = .ok o s1) (k : ∀ F1 B1 H1, Stp W F B F1 B1 → Rel X.K fa W F1 B1 s1 σ H1 → Q o H1) : tO X.K fa c e σ H Q := ⟨W, F, B, s, o, s1, r, h, k⟩
theorem e_slc {lo hi : Option Expr} {el eh : E} {p2 : Pos} (ha : PE X a (tE X.K fa c ea)) (hl : PO X lo (tO X.K fa c el)) (hh : PO X hi (tO X.K fa c eh)) : PE X (.Subscript a (.Slice lo hi none p2) pos) (tE X.K fa c (.slc ea el eh)) :=
  pe_w (pe_slice sl_any ha hl hh) fun σ H Q ⟨W, F, B, s, d, s', r, h, k⟩ => by
    obtain ⟨x, s1, h1, h⟩ := bnd_inv h
    obtain ⟨l, s2, h2, h⟩ := bnd_inv h
    obtain ⟨m, s3, h3, h⟩ := bnd_inv h
    obtain ⟨q, rfl⟩ := opt_inv h
    exact tE_use r h1 fun F1 B1 H1 v1 st1 r1 rx => tO_use r1 h2 fun F2 B2 H2 st2 r2 => tO_use r2 h3 fun F3 B3 H3 st3 r3 => rSl_ok q ((rx.stp st2).stp st3) r3 (post_of ((st1.trans st2).trans st3) k)
theorem e_slv {i : Nat} {x : Str} {p p2 : Pos} {lo hi : Option Expr} {el eh : E} (ha : PE X (.Name x p) (tVar i)) (hl : PO X lo (tO X.K fa c el)) (hh : PO X hi (tO X.K fa c eh)) : PE X (.Subscript (.Name x p) (.Slice lo hi none p2) pos) (tE X.K fa c (.slv i el eh)) :=
  pe_w (pe_slice sl_any ha hl hh) fun σ H Q ⟨W, F, B, s, d, s', r, h, k⟩ => by
    have h' : (if (s.get i).isSome then (evO c el s).bnd fun l s2 => (evO c eh s2).bnd fun h s3 => Res.opt ((s3.cont i).bind fun x => slD x l h) s3 else .bad) = .ok d s' := h
    split at h' <;> first | (cases h'; done) | skip
    rename_i hs
    obtain ⟨d0, hd⟩ := isSome_inv hs
    obtain ⟨v, hv, _⟩ := r.slot i d0 hd
    obtain ⟨l, s2, h2, h3⟩ := bnd_inv h'
    obtain ⟨m, s3, h3, h4⟩ := bnd_inv h3
    obtain ⟨q, rfl⟩ := opt_inv h4
    exact ⟨v, hv, tO_use r h2 fun F2 B2 H2 st2 r2 => tO_use r2 h3 fun F3 B3 H3 st3 r3 => rSl_slot r3 q hv (post_of (st2.trans st3) k)⟩
/-! ### built-ins -/
def vBlt : Blt → Value
  | .len => .builtin "len" | .abs => .builtin "abs" | .int => .type "int" | .min => .builtin "min" | .max => .builtin "max" | .sum => .builtin "sum" | .any => .builtin "any" | .all => .builtin "all"
  | .tuple => .type "tuple" | .list => .type "list" | .sorted => .builtin "sorted"
def rBlt (K : PySem.W.Frag) : Blt → List V → Hp → VK → Prop
  | .len => fun xs H Q => (∃ x n, xs = [x] ∧ LenV K x H n ∧ Q (.int n) H) ∨ ∃ a kvs, xs = [V.ref a] ∧ H a = some (.dK kvs) ∧ Q (.int kvs.length) H
  | .abs => fun xs H Q => ∃ i, xs = [.int i] ∧ Q (.int (if i < 0 then -i else i)) H
  | .int => fun xs H Q => (∃ i, xs = [.int i] ∧ Q (.int i) H) ∨ ∃ k, xs = [.bl k] ∧ Q (.int (if k then 1 else 0)) H
  | .min => fun xs H Q => (∃ i j, xs = [.int i, .int j] ∧ Q (.int (if j < i then j else i)) H) ∨ rMin K xs H Q
  | .max => fun xs H Q => (∃ i j, xs = [.int i, .int j] ∧ Q (.int (if j > i then j else i)) H) ∨ rMax K xs H Q
  | .sum => rSum K
  | .any => rAny K
  | .all => rAll K
  | .tuple => fun xs H Q => ∃ p ys, xs = [.ref p] ∧ ((SqL K H p ys ∧ ∀ l, H l = none → Q (.ref l) (upd H l (.tup ys))) ∨ (SqT K H p ys ∧ Q (.ref p) H))
  | .list => fun xs H Q => ∃ p ys, xs = [.ref p] ∧ (SqL K H p ys ∨ SqT K H p ys) ∧ ∀ l, H l = none → Q (.ref l) (upd H l (.lst ys))
  | .sorted => fun _ _ _ => False
theorem call_rBlt (hc : X.calm = true) (b : Blt) : CallR X (vBlt b) (rBlt X.K b) := by
  cases b with
  | len => exact call_len.or call_lenD
  | abs => exact call_abs
  | int => exact call_int1
  | min => exact (call_min2 hc).or (cr_min hc)
  | max => exact (call_max2 hc).or (cr_max hc)
  | sum => exact cr_sum hc
  | any => exact cr_any hc
  | all => exact cr_all hc
  | tuple => exact call_tuple_of
  | list => exact call_list_of
  | sorted => exact fun _ _ _ _ _ _ _ _ _ h => h.elim
end
section
variable {K : PySem.W.Frag} {fa : Nat → Option Addr} {c : Env} {W F F' : Hp} {B B' : List Addr} {s s1 : S} {σ : L2.St} {H H' : Hp} {d x y : D} {v u : V} {Q : VK} {e : E}
theorem reps1 {x : D} {vs : List V} (h : Reps K fa F B [x] vs) : ∃ v, vs = [v] ∧ Rep K fa F B x v := by
  unfold Reps at h
  obtain ⟨w, ws, rfl, h1, h2⟩ := h
  unfold Reps at h2
  subst h2
  exact ⟨w, rfl, h1⟩
theorem reps2 {x y : D} {vs : List V} (h : Reps K fa F B [x, y] vs) : ∃ v w, vs = [v, w] ∧ Rep K fa F B x v ∧ Rep K fa F B y w := by
  unfold Reps at h
  obtain ⟨w, ws, rfl, h1, h2⟩ := h
  obtain ⟨u, rfl, h3⟩ := reps1 h2
  exact ⟨w, u, rfl, h1, h3⟩
theorem rBlt_ok {b : Blt} {xs : List D} {vs : List V} (h : bltD b xs = some d) (rx : Reps K fa F B xs vs) (r : Rel K fa W F B s σ H) (k : Post K fa W F B s σ d Q) : rBlt K b vs H Q := by
  unfold bltD at h
  split at h
  · obtain ⟨n, h1, rfl⟩ := map_inv h
    obtain ⟨v, rfl, rv⟩ := reps1 rx
    have kk : Q (.int n) H := k.same r (of_int _)
    rename_i d0
    cases d0 <;> first | (cases h1; done) | skip
    · rename_i z
      have h2 : (if z.length ≤ LINE then some z.length else none) = some n := h1
      split at h2 <;> cases h2
      rename_i hl
      rw [rep_str rv]
      exact .inl ⟨_, _, rfl, ⟨by rw [line_eq]; exact hl, rfl⟩, kk⟩
    · cases h1
      obtain ⟨p, ws, rfl, h2, h3⟩ := rep_tup rv
      exact .inl ⟨_, _, rfl, .inr ⟨ws, ex_t r.ef h2, h3.length.symm⟩, kk⟩
    · cases h1
      obtain ⟨p, ws, rfl, h2, h3⟩ := rep_lst rv
      exact .inl ⟨_, _, rfl, .inl ⟨ws, SqL.of (r.ef _ _ h2), h3.length.symm⟩, kk⟩
    · cases h1
      obtain ⟨p, ws, rfl, h2, h3⟩ := rep_dic rv
      refine .inr ⟨_, _, rfl, r.ef _ _ h2, ?_⟩
      rw [emptyK_of h3]; exact kk
    · unfold Rep at rv; exact rv.elim
    · unfold Rep at rv; exact rv.elim
    · cases h1
      obtain ⟨p, rfl, h2⟩ := rep_scr rv
      exact .inl ⟨_, _, rfl, .inl ⟨_, ex_l r.ef h2, by simp⟩, kk⟩
  · cases h
    obtain ⟨v, rfl, rv⟩ := reps1 rx
    rw [rep_int rv]
    exact ⟨_, rfl, k.same r (of_int _)⟩
  · cases h
    obtain ⟨v, rfl, rv⟩ := reps1 rx
    rw [rep_int rv]
    exact .inl ⟨_, rfl, k.same r (of_int _)⟩
  · cases h
    obtain ⟨v, rfl, rv⟩ := reps1 rx
    rw [rep_bl rv]
    exact .inr ⟨_, rfl, k.same r (of_int _)⟩
  · cases h
    obtain ⟨v, w, rfl, rv, rw_⟩ := reps2 rx
    rw [rep_int rv, rep_int rw_]
    exact .inl ⟨_, _, rfl, k.same r (of_int _)⟩
  · cases h
    obtain ⟨v, w, rfl, rv, rw_⟩ := reps2 rx
    rw [rep_int rv, rep_int rw_]
    exact .inl ⟨_, _, rfl, k.same r (of_int _)⟩
  · obtain ⟨ns, h1, h2⟩ := bind_inv h
    split at h2 <;> cases h2
    rename_i hn
    obtain ⟨v, rfl, rv⟩ := reps1 rx
    obtain ⟨p, ws, rfl, h2, h3⟩ := rep_lst rv
    rw [allI_ok h1 h3] at h2
    exact .inr ⟨p, ns, rfl, SqL.of (r.ef _ _ h2), hn, fun m q1 q2 => by rw [← minL_uni q1 q2]; exact k.same r (of_int _)⟩
  · obtain ⟨ns, h1, h2⟩ := bind_inv h
    split at h2 <;> cases h2
    rename_i hn
    obtain ⟨v, rfl, rv⟩ := reps1 rx
    obtain ⟨p, ws, rfl, h2, h3⟩ := rep_lst rv
    rw [allI_ok h1 h3] at h2
    exact .inr ⟨p, ns, rfl, SqL.of (r.ef _ _ h2), hn, fun m q1 q2 => by rw [← maxL_uni q1 q2]; exact k.same r (of_int _)⟩
  · obtain ⟨ns, h1, rfl⟩ := map_inv h
    obtain ⟨v, rfl, rv⟩ := reps1 rx
    obtain ⟨p, ws, rfl, h2, h3⟩ := rep_lst rv
    rw [allI_ok h1 h3] at h2
    exact ⟨p, ns, rfl, SqL.of (r.ef _ _ h2), k.same r (of_int _)⟩
  · obtain ⟨ns, h1, rfl⟩ := map_inv h
    obtain ⟨v, rfl, rv⟩ := reps1 rx
    obtain ⟨p, ws, rfl, h2, h3⟩ := rep_lst rv
    rw [allB_ok h1 h3] at h2
    exact ⟨p, ns, rfl, SqL.of (r.ef _ _ h2), k.same r (of_bl _)⟩
  · obtain ⟨ns, h1, rfl⟩ := map_inv h
    obtain ⟨v, rfl, rv⟩ := reps1 rx
    obtain ⟨p, ws, rfl, h2, h3⟩ := rep_lst rv
    rw [allB_ok h1 h3] at h2
    exact ⟨p, ns, rfl, SqL.of (r.ef _ _ h2), k.same r (of_bl _)⟩
  · cases h
    obtain ⟨v, rfl, rv⟩ := reps1 rx
    obtain ⟨p, ws, rfl, h2, h3⟩ := rep_lst rv
    exact ⟨p, ws, rfl, .inl ⟨SqL.of (r.ef _ _ h2), k.tup r h3⟩⟩
  · cases h
    obtain ⟨v, rfl, rv⟩ := reps1 rx
    obtain ⟨p, ws, rfl, h2, h3⟩ := rep_tup rv
    exact ⟨p, ws, rfl, .inr ⟨ex_t r.ef h2, k.same r rv⟩⟩
  · cases h
    obtain ⟨v, rfl, rv⟩ := reps1 rx
    obtain ⟨p, ws, rfl, h2, h3⟩ := rep_lst rv
    exact ⟨p, ws, rfl, .inl (SqL.of (r.ef _ _ h2)), k.own r h3⟩
  · cases h
    obtain ⟨v, rfl, rv⟩ := reps1 rx
    obtain ⟨p, ws, rfl, h2, h3⟩ := rep_tup rv
    exact ⟨p, ws, rfl, .inr (ex_t r.ef h2), k.own r h3⟩
  · cases h
end
section
variable {X : Cx} {fa : Nat → Option Addr} {c : Env} {a b d : Expr} {es : List Expr} {ea eb ed ee : E} {pos : Pos}
theorem e_blt {e : Expr} (bt : Blt) (h : PE X e (tCB (rBlt X.K bt) (tA X.K fa c ee))) : PE X e (tE X.K fa c (.blt bt ee)) :=
  pe_w h fun σ H Q ⟨W, F, B, s, d, s', r, h, k⟩ => by
    obtain ⟨xs, s1, h1, h⟩ := bnd_inv h
    obtain ⟨q, rfl⟩ := opt_inv h
    exact tA_use r h1 fun F1 B1 H1 vs st1 r1 rs => rBlt_ok q rs r1 (post_of st1 k)
/-- len of a slot's own content -/
theorem e_lenv {e : Expr} {i : Nat} (h : PE X e (tCB (rBlt X.K .len) (tCons (tVar i) tNil))) : PE X e (tE X.K fa c (.lenv i)) :=
  pe_w h fun σ H Q ⟨W, F, B, s, d, s', r, h, k⟩ => by
    obtain ⟨q, rfl⟩ := opt_inv h
    obtain ⟨n, q1, rfl⟩ := map_inv q
    obtain ⟨x, q2, q3⟩ := bind_inv q1
    have kk : Q (.int n) H := k F B H _ Stp.refl r (RR.of (of_int _))
    rcases r.cont q2 with ⟨v, h1, h2 | ⟨xs, rfl, p, vs, rfl, h3, h4⟩⟩ | ⟨v, h1, xs, p, ws, rfl, rfl, h3, h4⟩
    · refine ⟨v, h1, ?_⟩
      exact rBlt_ok (b := .len) (xs := [x]) (by show (lenD x).map _ = _; rw [q3]; rfl) (.cons h2 .nil) r (post_of Stp.refl k)
    · refine ⟨_, h1, .inl ⟨_, n, rfl, .inl ⟨vs, SqL.of h3, ?_⟩, kk⟩⟩
      cases q3; exact h4.length.symm
    · refine ⟨_, h1, .inr ⟨p, ws, rfl, h3, ?_⟩⟩
      cases q3
      rw [emptyK_of h4]; exact kk
end
end Q
end

section
set_option maxRecDepth 100000
set_option maxHeartbeats 2000000
/-! QCall: isinstance, methods of lists, calls of defs. -/
namespace Q
open PySem PySem.Spec PyProof.Rows L2

section
variable {X : Cx} {fa : Nat → Option Addr} {c : Env} {a b d : Expr} {es : List Expr} {ea eb ed ee : E} {pos : Pos}
/-! ### isinstance -/
theorem tyD_ok {d : D} (h : isTyOk d = true) : ∃ n, tyD d.frz = some n := by
  cases d <;> first | exact ⟨_, rfl⟩ | cases h
theorem isi_ok {W F : Hp} {B : List Addr} {s : S} {σ : L2.St} {H : Hp} {x : D} {v : V} {t : Ty} {Q : VK} (h : isTyOk x = true) (r : Rel X.K fa W F B s σ H) (rx : Rep X.K fa F B x.frz v) (q : Q (.bl (isTy x.frz t)) H) : rIsi X.K [v, .ty (tyN t)] H Q := by
  obtain ⟨n, hn⟩ := tyD_ok h
  refine ⟨v, .ty (tyN t), .type n, .type (tyN t), _, rfl, .ty _, tyX_of hn r rx, kit_ty (kit_of' hn t), ?_⟩
  rw [frz_frz]; exact q
theorem e_isi1 {e : Expr} {t : Ty} (h : PE X e (tCB (rIsi X.K) (tCons (tE X.K fa c ea) (tCons (tC (.ty (tyN t))) tNil)))) : PE X e (tE X.K fa c (.isi ea [t])) :=
  pe_w h fun σ H Q ⟨W, F, B, s, d, s', r, h, k⟩ => by
    obtain ⟨x, s1, h1, h⟩ := bnd_inv h
    split at h <;> cases h
    rename_i hx
    exact tE_use r h1 fun F1 B1 H1 v1 st1 r1 rx => isi_ok hx r1 rx (k F1 B1 H1 _ st1 r1 (RR.of (by rw [List.any_cons, List.any_nil, Bool.or_false]; exact of_bl _)))
def tTys (ts : List Ty) : TA := fun σ H Q => Q (ts.map fun t => V.ty (tyN t)) H
theorem clsV_all : ∀ ts : List Ty, Paired ClsV (ts.map fun t => V.ty (tyN t)) (ts.map fun t => Value.type (tyN t))
  | [] => .nil
  | t :: ts => .cons (.ty _) (clsV_all ts)
theorem e_isiT {e : Expr} {ts : List Ty} (hl : ts.length ≤ 10) (h : PE X e (tCB (rIsiT X.K) (tCons (tE X.K fa c ea) (tCons (tTup (tTys ts)) tNil)))) : PE X e (tE X.K fa c (.isi ea ts)) :=
  pe_w h fun σ H Q ⟨W, F, B, s, d, s', r, h, k⟩ => by
    obtain ⟨x, s1, h1, h⟩ := bnd_inv h
    split at h <;> cases h
    rename_i hx
    obtain ⟨n, hn⟩ := tyD_ok hx
    refine tE_use r h1 fun F1 B1 H1 v1 st1 r1 rx => ⟨by rw [List.length_map, line_eq]; exact Nat.le_trans hl (by decide), fun p hp => ?_⟩
    obtain ⟨r2, st2⟩ := r1.new (o := .tup (ts.map fun t => V.ty (tyN t))) hp
    refine ⟨v1, p, _, .type n, _, _, rfl, upd_same, clsV_all ts, tyX_of hn r2 (rx.stp st2), kitAny_of hn ts, ?_⟩
    rw [frz_frz]
    exact k _ B1 _ _ (st1.trans st2) r2 (RR.of (of_bl _))
/-! ### methods of a slot's own list -/
section
variable {W F : Hp} {B : List Addr} {s : S} {σ : L2.St} {H : Hp} {Q : VK}
/-- a slot's own list is another one now -/
theorem Rel.setOwn {K : PySem.W.Frag} {i : Nat} {xs ys : List D} {p : Addr} {vs ws : List V} (r : Rel K fa W F B s σ H) (h : s.get i = some (.own xs)) (hv : σ[i]? = some (some (.ref p))) (hp : H p = some (.lst vs)) (q : Reps K fa F B ys ws) :
    Rel K fa W F B (s.put i (.own ys)) σ (upd H p (.lst ws)) := by
  obtain ⟨v, h1, h2⟩ := r.slot i _ h
  rw [hv] at h1; cases h1
  obtain ⟨p', vs', a1, a2, a3, a4, a5, a6⟩ := h2
  cases a1
  have hi := get_lt h
  have r1 : Rel K fa W F B s σ H := r
  refine ⟨r.ew.mut a4, r.ef.mut a5, by rw [put_len]; exact r.len, fun j e hj => ?_, fun j k e f w hne hj hk oe of h1 h2 => ?_, r.bl, fun k zs hk => ?_, r.bd⟩
  · by_cases hji : j = i
    · subst hji
      rw [get_put_same hi] at hj; cases hj
      exact ⟨_, hv, p, ws, rfl, upd_same, q, a4, a5, a6⟩
    · rw [get_put_ne hji] at hj
      obtain ⟨w, b1, b2⟩ := r.slot j e hj
      refine ⟨w, b1, b2.mono (Ex.refl _) ⟨[], by simp⟩ (fun x o q1 q2 q3 => ?_) (fun _ _ _ z => z) (fun _ _ _ z => z)⟩
      have : x ≠ p := fun e' => r.apart j i e (.own xs) w hji hj h q1 rfl b1 (by rw [q2, e']; exact hv)
      rw [upd_ne this]; exact q3
  · have ow : ∀ j e, (s.put i (.own ys)).get j = some e → e.isOwn = true → ∃ e', s.get j = some e' ∧ e'.isOwn = true := by
      intro j e hj oe
      by_cases hji : j = i
      · subst hji; exact ⟨_, h, rfl⟩
      · rw [get_put_ne hji] at hj; exact ⟨e, hj, oe⟩
    obtain ⟨e', g1, g2⟩ := ow j e hj oe
    obtain ⟨f', g3, g4⟩ := ow k f hk of
    exact r.apart j k e' f' w hne g1 g3 g2 g4 h1 h2
  · obtain ⟨x, us, b1, b2, b3, b4, b5⟩ := r.bx k zs hk
    have : x ≠ p := fun e => a6 (e ▸ List.mem_of_getElem? b1)
    exact ⟨x, us, b1, by rw [upd_ne this]; exact b2, b3, b4, b5⟩
end
def rMut : Mth → V → List V → Hp → VK → Prop
  | .append => rAppend
  | .extend => rExtend
  | .pop => fun x vs H Q => rPop x vs H Q ∨ rPopAt x vs H Q
theorem own_inv {s : S} {v : Nat} {β : Type} {f : D → Option β} {b : β} (h : (s.get v).bind f = some b) : ∃ d, s.get v = some d ∧ f d = some b := bind_inv h
theorem mut_ok {W F : Hp} {B : List Addr} {s : S} {σ : L2.St} {H : Hp} {m : Mth} {i : Nat} {xs : List D} {vs : List V} {v : V} {Q : VK} {x : D} {s' : S} (h : mutD s i m xs = some (x, s')) (r : Rel X.K fa W F B s σ H) (hv : σ[i]? = some (some v)) (rs : Reps X.K fa F B xs vs)
    (k : ∀ H' w, Rel X.K fa W F B s' σ H' → RR X.K fa W F B s' σ H' x w → Q w H') : rMut m v vs H Q := by
  unfold mutD at h
  split at h
  · obtain ⟨d, h1, h2⟩ := own_inv h
    cases d <;> first | (cases h2; done) | skip
    rename_i y ys
    have h3 : (if ys.length < LINE then some (D.non, s.put i (.own (ys ++ [y]))) else none) = some (x, s') := h2
    split at h3 <;> cases h3
    rename_i hl
    obtain ⟨w, b1, p, us, rfl, b2, b3, _⟩ := r.slot i _ h1
    rw [hv] at b1; cases b1
    obtain ⟨z, rfl, rz⟩ := reps1 rs
    exact ⟨p, us, z, rfl, rfl, b2, by rw [b3.length, line_eq]; exact hl, k _ _ (r.setOwn h1 hv b2 (b3.append (.one rz))) (RR.of of_non)⟩
  · obtain ⟨d, h1, h2⟩ := own_inv h
    cases d <;> first | (cases h2; done) | skip
    rename_i zs ys
    have h3 : (if ys.length + zs.length ≤ LINE then some (D.non, s.put i (.own (ys ++ zs))) else none) = some (x, s') := h2
    split at h3 <;> cases h3
    rename_i hl
    obtain ⟨w, b1, p, us, rfl, b2, b3, _⟩ := r.slot i _ h1
    rw [hv] at b1; cases b1
    obtain ⟨z, rfl, rz⟩ := reps1 rs
    obtain ⟨p2, us2, rfl, b4, b5⟩ := rep_lst rz
    exact ⟨p, p2, us, us2, rfl, rfl, b2, r.ef _ _ b4, by rw [b3.length, b5.length, line_eq]; exact hl, k _ _ (r.setOwn h1 hv b2 (b3.append b5)) (RR.of of_non)⟩
  · obtain ⟨d, h1, h2⟩ := own_inv h
    cases d <;> first | (cases h2; done) | skip
    rename_i ys
    obtain ⟨y, h3, h4⟩ := map_inv (show (ys[ys.length - 1]?).map (fun y => (y, s.put i (.own ys.dropLast))) = some (x, s') from h2)
    cases h4
    obtain ⟨w, b1, p, us, rfl, b2, b3, _⟩ := r.slot i _ h1
    rw [hv] at b1; cases b1
    have : vs = [] := by unfold Reps at rs; exact rs
    subst this
    obtain ⟨z, c1, c2⟩ := b3.get h3
    have e1 : us.dropLast = us.take (us.length - 1) := List.dropLast_eq_take
    have e2 : ys.dropLast = ys.take (ys.length - 1) := List.dropLast_eq_take
    refine .inl ⟨p, us, z, rfl, rfl, b2, by rw [b3.length]; exact c1, k _ _ (r.setOwn h1 hv b2 ?_) (RR.of c2)⟩
    rw [e1, e2, b3.length]
    exact b3.take _
  · obtain ⟨d, h1, h2⟩ := own_inv h
    cases d <;> first | (cases h2; done) | skip
    rename_i n ys
    have h3 : (if -(2 ^ 63) ≤ n ∧ n < 2 ^ 63 then (ixN ys.length n).bind fun k => (ys[k]?).map fun y => (y, s.put i (.own (ys.eraseIdx k))) else none) = some (x, s') := h2
    split at h3 <;> first | (cases h3; done) | skip
    rename_i hn
    obtain ⟨j, h4, h5⟩ := bind_inv h3
    obtain ⟨y, h6, h7⟩ := map_inv h5
    cases h7
    obtain ⟨w, b1, p, us, rfl, b2, b3, _⟩ := r.slot i _ h1
    rw [hv] at b1; cases b1
    obtain ⟨z, rfl, rz⟩ := reps1 rs
    obtain ⟨z2, c1, c2⟩ := b3.get h6
    exact .inr ⟨p, us, n, j, z2, rfl, by rw [rep_int rz], b2, hn.1, hn.2, by rw [b3.length]; exact (ixN_seq h4).1, c1, k _ _ (r.setOwn h1 hv b2 (b3.eraseIdx j)) (RR.of c2)⟩
  · cases h
theorem e_mut {e : Expr} {m : Mth} {i : Nat} (h : PE X e (tBM X.K "list" (rMut m) (tVar i) (tA X.K fa c ee))) : PE X e (tE X.K fa c (.mut m i ee)) :=
  pe_w h fun σ H Q ⟨W, F, B, s, d, s', r, h, k⟩ => by
    have h' : (if ownL s i then (evA c ee s).bnd fun xs s1 => (Res.opt (mutD s1 i m xs) s1).bnd fun p _ => .ok p.1 p.2 else .bad) = Res.ok d s' := h
    split at h' <;> first | (cases h'; done) | skip
    rename_i ho
    obtain ⟨xs, s1, h1, h2⟩ := bnd_inv h'
    obtain ⟨p, s2, h3, h4⟩ := bnd_inv h2
    obtain ⟨q, rfl⟩ := opt_inv h3
    cases h4
    unfold ownL at ho
    cases hg : s.get i with
    | none => rw [hg] at ho; cases ho
    | some d0 =>
      rw [hg] at ho
      cases d0 <;> first | (cases ho; done) | skip
      obtain ⟨v, b1, p0, us, rfl, b2, b3, _⟩ := r.slot i _ hg
      exact ⟨_, b1, .inl ⟨rfl, us, SqL.of b2⟩, tA_use r h1 fun F1 B1 H1 vs st1 r1 rs => mut_ok q r1 b1 rs fun H' w r2 rr => k F1 B1 H' w st1 r2 rr⟩
theorem e_mut0 {e : Expr} {m : Mth} {i : Nat} (h : PE X e (tBM0 X.K "list" (rMut m) (tVar i))) : PE X e (tE X.K fa c (.mut m i .nil)) :=
  pe_w h fun σ H Q ⟨W, F, B, s, d, s', r, h, k⟩ => by
    have h' : (if ownL s i then (evA c .nil s).bnd fun xs s1 => (Res.opt (mutD s1 i m xs) s1).bnd fun p _ => .ok p.1 p.2 else .bad) = Res.ok d s' := h
    split at h' <;> first | (cases h'; done) | skip
    rename_i ho
    obtain ⟨xs, s1, h1, h2⟩ := bnd_inv h'
    obtain ⟨p, s2, h3, h4⟩ := bnd_inv h2
    obtain ⟨q, rfl⟩ := opt_inv h3
    cases h4
    cases h1
    unfold ownL at ho
    cases hg : s.get i with
    | none => rw [hg] at ho; cases ho
    | some d0 =>
      rw [hg] at ho
      cases d0 <;> first | (cases ho; done) | skip
      obtain ⟨v, b1, p0, us, rfl, b2, b3, _⟩ := r.slot i _ hg
      exact ⟨_, b1, .inl ⟨rfl, us, SqL.of b2⟩, mut_ok q r b1 .nil fun H' w r2 rr => k F B H' w Stp.refl r2 rr⟩
end

/-! ### calls -/
/-- all that stands but the boxes -/
def below (H : Hp) (B : List Addr) : Hp := fun a => if a ∈ B then none else H a
theorem below_of {H : Hp} {B : List Addr} {p : Addr} (h : p ∉ B) : below H B p = H p := by unfold below; rw [if_neg h]
theorem below_in {H : Hp} {B : List Addr} {p : Addr} (h : p ∈ B) : below H B p = none := by unfold below; rw [if_pos h]
section
variable (K : PySem.W.Frag) (fa : Nat → Option Addr)
/-- what a def keeps to: what the evaluator tells of it -/
def spF (call : Nat → List D → List (List D) → CR) (np k : Nat) : Sp := fun vs H Q _ => vs.length = np ∧ ∃ W F B xs box d box', Rel K fa W F B ⟨[], box⟩ [] H ∧ Reps K fa F B xs vs ∧ call k xs box = .ok d box' ∧
  (∀ a o, H a = some o → a ∉ B → W a = some o) ∧ ∀ F' B' H' v, Stp W F B F' B' → Rel K fa W F' B' ⟨[], box'⟩ [] H' → RR K fa W F' B' ⟨[], box'⟩ [] H' d v → Q v H'
end
section
variable {K : PySem.W.Frag} {fa : Nat → Option Addr} {W F F' : Hp} {B B' : List Addr} {s : S} {σ : L2.St} {H H' : Hp} {d : D} {v : V}
theorem get_nil (i : Nat) (b : List (List D)) : (S.mk [] b).get i = none := by unfold S.get; simp
theorem Rel.toCall (r : Rel K fa W F B s σ H) : Rel K fa (below H B) F B ⟨[], s.box⟩ [] H := by
  refine ⟨fun a o e => ?_, r.ef, rfl, (fun i d h => by rw [get_nil] at h; cases h), (fun i j d e v _ h _ _ _ _ _ => by rw [get_nil] at h; cases h), r.bl, fun k xs h => ?_, r.bd⟩
  · by_cases hb : a ∈ B
    · rw [below_in hb] at e; cases e
    · rw [below_of hb] at e; exact e
  · obtain ⟨p, vs, h1, h2, h3, h4, h5⟩ := r.bx k xs h
    exact ⟨p, vs, h1, h2, h3, below_in (List.mem_of_getElem? h1), h5⟩
theorem Rel.ofCall {b' : List (List D)} (r : Rel K fa W F B s σ H) (st : Stp (below H B) F B F' B') (r' : Rel K fa (below H B) F' B' ⟨[], b'⟩ [] H') (rr : RR K fa (below H B) F' B' ⟨[], b'⟩ [] H' d v) :
    Stp W F B F' B' ∧ Rel K fa W F' B' { s with box := b' } σ H' ∧ RR K fa W F' B' { s with box := b' } σ H' d v := by
  have wle : ∀ a, below H B a = none → W a = none := fun a h => by
    cases q : W a with
    | none => rfl
    | some o =>
      have h1 := r.ew a o q
      by_cases hb : a ∈ B
      · obtain ⟨k, hk⟩ := List.getElem?_of_mem hb
        have hk' : k < s.box.length := by rw [← r.bl]; exact (List.getElem?_eq_some_iff.mp hk).1
        obtain ⟨p, vs, h2, h3, _, h4, _⟩ := r.bx k s.box[k] (by simp [hk'])
        rw [hk] at h2; cases h2
        rw [h4] at q; cases q
      · rw [below_of hb] at h; rw [h] at h1; cases h1
  have st' : Stp W F B F' B' := ⟨st.ex, fun p o h => (st.gr p o h).imp id (wle p), st.bs⟩
  have newB : ∀ p ∈ B', below H B p = none := fun p hp => by
    obtain ⟨k, hk⟩ := List.getElem?_of_mem hp
    have hk' : k < b'.length := by have := r'.bl; simp at this; rw [← this]; exact (List.getElem?_eq_some_iff.mp hk).1
    obtain ⟨p', vs, h2, h3, _, h4, _⟩ := r'.bx k b'[k] (by simp [hk'])
    rw [hk] at h2; cases h2
    exact h4
  have own : ∀ i e p u, s.get i = some e → e.isOwn = true → σ[i]? = some (some (.ref p)) → H p = some u → below H B p = some u ∧ F p = none := fun i e p u h1 h2 h3 h4 => by
    obtain ⟨w, h5, h6⟩ := r.slot i e h1
    rw [h3] at h5; cases h5
    obtain ⟨p', u', h7, h8, _, h9, h10⟩ := h6.own h2
    cases h7
    exact ⟨by rw [below_of h10]; exact h4, h9⟩
  refine ⟨st', ⟨fun a o e => r'.ew a o ?_, r'.ef, r.len, fun i e h => ?_, r.apart, r'.bl, fun k xs h => ?_, r'.bd⟩, ?_⟩
  · cases q : below H B a with
    | none => rw [wle a q] at e; cases e
    | some o' =>
      have h1 := r.ew a o e
      by_cases hb : a ∈ B
      · rw [below_in hb] at q; cases q
      · rw [below_of hb, h1] at q; exact q.symm
  · obtain ⟨w, h1, h2⟩ := r.slot i e h
    refine ⟨w, h1, h2.mono st.ex st.bs (fun p u q1 q2 q3 => ?_) (fun p q1 q2 q3 => ?_) (fun p q1 q2 q3 => ?_)⟩
    · subst q2
      exact r'.ew _ _ (own i e p u h q1 h1 q3).1
    · subst q2
      obtain ⟨p', u', h7, h8, _⟩ := h2.own q1
      cases h7
      cases q : F' p with
      | none => rfl
      | some o =>
        rcases st.gr p o q with h9 | h9
        · rw [q3] at h9; cases h9
        · rw [(own i e p u' h q1 h1 h8).1] at h9; cases h9
    · subst q2
      obtain ⟨p', u', h7, h8, _⟩ := h2.own q1
      cases h7
      intro hp
      have := newB p hp
      rw [(own i e p u' h q1 h1 h8).1] at this; cases this
  · obtain ⟨p, vs, h1, h2, h3, h4, h5⟩ := r'.bx k xs h
    exact ⟨p, vs, h1, h2, h3, wle p h4, h5⟩
  · refine ⟨?_, fun ho i e h1 h2 h3 => ?_⟩
    · have := rr.1
      cases d with
      | own xs => obtain ⟨p, vs, a1, a2, a3, a4, a5, a6⟩ := this; exact ⟨p, vs, a1, a2, a3, wle p a4, a5, a6⟩
      | odc xs => obtain ⟨p, vs, a1, a2, a3, a4, a5, a6⟩ := this; exact ⟨p, vs, a1, a2, a3, wle p a4, a5, a6⟩
      | _ => exact this
    · obtain ⟨p, u, a1, a2, a3, _⟩ := rr.1.own ho
      subst a1
      obtain ⟨w, b1, b2⟩ := r.slot i e h1
      have h3' : σ[i]? = some (some (V.ref p)) := h3
      rw [h3'] at b1; cases b1
      obtain ⟨p', u', h7, h8, _⟩ := b2.own h2
      cases h7
      rw [(own i e p u' h1 h2 h3' h8).1] at a3; cases a3
end
section
variable {X : Cx} {fa : Nat → Option Addr} {c : Env} {ee : E}
theorem e_call {e : Expr} {k np : Nat} {E : XK} (h : PE X e (tCall (spF X.K fa c.call np k) [] E (tA X.K fa c ee))) (hn : ∀ s s' xs, evA c ee s = .ok xs s' → xs.length = np) : PE X e (tE X.K fa c (.call k ee)) :=
  pe_w h fun σ H Q ⟨W, F, B, s, d, s', r, h, kk⟩ => by
    obtain ⟨xs, s1, h1, h2⟩ := bnd_inv h
    refine tA_use r h1 fun F1 B1 H1 vs st1 r1 rs => ?_
    rw [List.append_nil]
    unfold callR at h2
    split at h2 <;> cases h2
    rename_i b hc
    refine ⟨by rw [rs.length]; exact hn _ _ _ h1, below H1 B1, F1, B1, xs, s1.box, d, b, r1.toCall, rs, hc, fun a o e nb => by rw [below_of nb]; exact e, fun F' B' H' v st r' rr => ?_⟩
    obtain ⟨q1, q2, q3⟩ := r1.ofCall st r' rr
    exact kk F' B' H' v (st1.trans q1) q2 q3
end
end Q
end

section
set_option maxRecDepth 100000
set_option maxHeartbeats 2000000
/-! QZip: zip over lists and tuples in any mix (true: a tuple). -/
namespace Q
open PySem PySem.Spec PyProof.Rows L2

def SqB (t : Bool) (K : PySem.W.Frag) (H : Hp) (p : Addr) (xs : List V) : Prop := match t with
  | true => SqT K H p xs
  | false => SqL K H p xs
def ItB (t : Bool) (h : Heap) (i p : Addr) (n : Nat) : Prop := match t with
  | true => h.IsTupleIter i p n
  | false => h.IsListIter i p n
def HsB (t : Bool) (h : Heap) (p : Addr) (xs : Array Value) : Prop := match t with
  | true => h.IsTuple p xs
  | false => h.IsList p xs
def obB (t : Bool) (p : Addr) : Obj := match t with
  | true => { cls := .type "tuple_iterator", data := .fields #[.ref p, .int 0 0] }
  | false => { cls := .type "list_iterator", data := .fields #[.ref p, .int 0 0] }
theorem drawsB (t : Bool) {prog : Program} {w : World} {A : Around} (hh : A.handled = none) (i p : Addr) (ne : p ≠ i) (xs : Array Value) :
    Draws prog w A i [i, p] xs.size (fun n v => xs[n]? = some v) (fun n h => ItB t h i p n ∧ HsB t h p xs) := by
  cases t
  · exact Draws.list hh i p ne xs
  · exact Draws.tuple hh i p ne xs
theorem beginsB (t : Bool) (p : Addr) (xs : Array Value) : Begins (.ref p) (obB t p) (fun h => HsB t h p xs) := by
  cases t
  · exact begins_list p xs
  · exact begins_tuple p xs
theorem itB0 {t : Bool} {h : Heap} {i p : Addr} (e : h.get? i = some (obB t p)) : ItB t h i p 0 := by
  cases t
  · exact ⟨_, e, rfl, rfl⟩
  · exact ⟨_, e, rfl, rfl⟩
theorem itB_at {t : Bool} {h h' : Heap} {i p : Addr} {n : Nat} (q : ItB t h i p n) (k : ∀ o, h.get? i = some o → h'.get? i = some o) : ItB t h' i p n := by
  cases t
  · exact Heap.IsListIter.at q k
  · exact Heap.IsTupleIter.at q k
theorem itB_obj {t : Bool} {h : Heap} {i p : Addr} {n : Nat} (q : ItB t h i p n) : ∃ o vs, h.get? i = some o ∧ o.data = .fields vs := by
  cases t
  · obtain ⟨o, e, _, d⟩ := q; exact ⟨o, _, e, d⟩
  · obtain ⟨o, e, _, d⟩ := q; exact ⟨o, _, e, d⟩
section
variable {X : Cx} {pins : List (Addr × Obj)} {σ : L2.St} {H : Hp} {s : Shared} {p : Addr} {xs ys : List V} {t : Bool}
theorem inB (I : Inv X pins σ H s) (q : SqB t X.K H p xs) : ∃ its : List Value, Vals xs its ∧ HsB t s.heap p its.toArray ∧ p < s.heap.objs.size := by
  cases t
  · obtain ⟨its, r, p1, _⟩ := I.list q
    exact ⟨its, r, p1.isList, p1.lt⟩
  · obtain ⟨its, r, p1, _⟩ := I.tuple q
    obtain ⟨o, e, _⟩ := id p1
    exact ⟨its, r, p1, Heap.lt_size e⟩
theorem injB (I : Inv X pins σ H s) (q : SqB t X.K H p xs) (q' : SqB t X.K H p ys) : xs = ys := by
  cases t
  · exact I.list_inj q q'
  · exact I.tuple_inj q q'
end
/-- what stands at a and b at each turn, the items in new pairs -/
def ItzB (K : PySem.W.Frag) (t u : Bool) (a b : Addr) : It :=
  ⟨fun i H => ∃ (xs ys : List V) (x y : V), SqB t K H a xs ∧ SqB u K H b ys ∧ xs[i]? = some x ∧ ys[i]? = some y,
    fun i H v H' => ∃ T x y, v = .ref T ∧ H T = none ∧ H' = upd H T (.tup [x, y]) ∧ (∀ xs, SqB t K H a xs → xs[i]? = some x) ∧ ∀ ys, SqB u K H b ys → ys[i]? = some y,
    fun i H => ∃ xs ys : List V, SqB t K H a xs ∧ SqB u K H b ys ∧ (i = xs.length ∧ i ≤ ys.length ∨ i ≤ xs.length ∧ i = ys.length)⟩
theorem sepOf {z TI TO i1 i2 a b : Addr} (D : ZipApart z TI TO i1 i2 a b) : ZipSep2 z TI TO i1 i2 [i1, a] [i2, b] where
  TIz := D.TIz
  TOz := D.TOz
  TITO := D.TITO
  TIi1 := D.TIi1
  mem1 := by simp
  zf1 := by simp; exact ⟨D.i1z.symm, D.l1z.symm⟩
  Tf1 := by simp; exact ⟨D.TOi1, D.l1TO.symm⟩
  TIi2 := D.TIi2
  mem2 := by simp
  zf2 := by simp; exact ⟨D.i2z.symm, D.l2z.symm⟩
  Tf2 := by simp; exact ⟨D.TOi2, D.l2TO.symm⟩
  sep1_2 := by simp; exact ⟨D.i12, D.l2i1.symm⟩
  sep2_1 := by simp; exact ⟨D.i12.symm, D.l1i2.symm⟩
theorem turn_zipB {P : Program} {w : World} {K : PySem.W.Frag} {elts : List Expr} {kk : Nat} {tpos : Pos} {t u : Bool} {a b z TI TO i1 i2 : Addr} (D : ZipApart z TI TO i1 i2 a b) :
    Turn P w K (.Tuple elts kk tpos) (ItzB K t u a b) [z, TI, TO, i1, i2] z (fun i h => IsZip h z TI TO .none ∧ IsPair h TI (.ref i1) (.ref i2) ∧ (∃ x y, IsPair h TO x y) ∧ ItB t h i1 a i ∧ ItB u h i2 b i) where
  mem := by simp
  obj := fun i h st c hc => by
    obtain ⟨hz, hTI, ⟨x, y, hTO⟩, h1, h2⟩ := st
    obtain ⟨o1, vs1, e1, d1⟩ := itB_obj h1
    obtain ⟨o2, vs2, e2, d2⟩ := itB_obj h2
    have e' : c = z ∨ c = TI ∨ c = TO ∨ c = i1 ∨ c = i2 := by simpa using hc
    rcases e' with q | q | q | q | q
    · rw [q]; exact ⟨_, hz, fun v q => nomatch q⟩
    · rw [q]; exact ⟨_, hTI, fun v q => nomatch q⟩
    · rw [q]; exact ⟨_, hTO, fun v q => nomatch q⟩
    · rw [q]; exact ⟨o1, e1, fun v q => by rw [d1] at q; cases q⟩
    · rw [q]; exact ⟨o2, e2, fun v q => by rw [d2] at q; cases q⟩
  keep := fun i h h' st k => by
    obtain ⟨hz, hTI, ⟨x, y, hTO⟩, h1, h2⟩ := st
    exact ⟨k z (by simp) _ hz, k TI (by simp) _ hTI, ⟨x, y, k TO (by simp) _ hTO⟩, itB_at h1 fun o q => k i1 (by simp) o q, itB_at h2 fun o q => k i2 (by simp) o q⟩
  item := by
    intro X hP hw hK hc i pins s σ H E I hf st hg
    subst hP hw hK
    obtain ⟨hz, hTI, ⟨x0, y0, hTO⟩, h1, h2⟩ := st
    obtain ⟨xs, ys, x, y, hqx, hqy, hx, hy⟩ := hg
    obtain ⟨its, rv, p, _⟩ := inB I hqx
    obtain ⟨its2, rv2, p2, _⟩ := inB I hqy
    obtain ⟨v, hu, ru⟩ := rv.get hx
    obtain ⟨v2, hu2, ru2⟩ := rv2.get hy
    have hh : X.A.in1.handled = none := I.ok.hd hc
    have hzl : z < s.heap.objs.size := Heap.lt_size hz
    have l1 : i < its.toArray.size := by simpa using (List.getElem?_eq_some_iff.mp hu).1
    have l2 : i < its2.toArray.size := by simpa using (List.getElem?_eq_some_iff.mp hu2).1
    refine wpAny_pyNext_zipD2_item (sepOf D) (drawsB t hh i1 a D.l1i1 its.toArray) (drawsB u hh i2 b D.l2i2 its2.toArray) hz hTI hTO ⟨h1, p⟩ ⟨h2, p2⟩ l1 l2 fun x1 x2 h' tk hx1 hx2 z' TO' st1 st2 hT hsz hk => ?_
    have hx1' : x1 = v := by have := hx1; simp [hu] at this; exact this.symm
    have hx2' : x2 = v2 := by have := hx2; simp [hu2] at this; exact this.symm
    subst hx1' hx2'
    refine ⟨_, rfl, wpAny_letOwnedTupleGo_zip (s := { s with heap := h', toks := tk }) z' fun h'' z'' sb => ?_⟩
    have hT2 : h''.get? s.heap.objs.size = some { cls := .type "tuple", data := .seq #[x1, x2] } := (sb.2 _ (Nat.ne_of_gt hzl)).trans hT
    have new : ObjOk X.prog X.w (upd H s.heap.objs.size (.tup [x, y])) h'' s.heap.objs.size (.tup [x, y]) :=
      ⟨by show 2 ≤ sizeLine; decide, [x1, x2], .cons ru (.cons ru2 .nil), ⟨_, hT2, rfl, _, rfl⟩⟩
    have I1 : Inv X pins σ (upd H s.heap.objs.size (.tup [x, y])) { s with heap := h'', toks := tk } :=
      I.turnedNew (t' := tk) (ch := [z, TI, TO, i1, i2]) (fun c o hb q => (sb.2 c (fun q' => hb (by simp [q']))).trans (hk c o (fun q' => hb (by simp [q'])) (fun q' => hb (by simp [q'])) (fun q' => hb (by simp [q'])) (fun q' => hb (by simp [q'])) q)) hf (Nat.le_refl _) new
    refine ⟨.ref s.heap.objs.size, _, I1, rfl, ⟨_, x, y, rfl, I.hok.fresh (Nat.le_refl _), rfl, fun l hl => by rw [injB I hl hqx]; exact hx, fun l hl => by rw [injB I hl hqy]; exact hy⟩, ⟨z'', ?_, ⟨x1, x2, ?_⟩, ?_, ?_⟩, fun c hcm => ?_⟩
    · exact (sb.2 _ D.TIz).trans (hk _ _ D.TIz D.TITO D.TIi1 D.TIi2 hTI)
    · exact (sb.2 _ D.TOz).trans TO'
    · exact itB_at st1.1 fun o q => (sb.2 _ D.i1z).trans q
    · exact itB_at st2.1 fun o q => (sb.2 _ D.i2z).trans q
    · have hlt : c < s.heap.objs.size := by
        obtain ⟨o1, vs1, e1, d1⟩ := itB_obj h1
        obtain ⟨o2, vs2, e2, d2⟩ := itB_obj h2
        have e' : c = z ∨ c = TI ∨ c = TO ∨ c = i1 ∨ c = i2 := by simpa using hcm
        rcases e' with q | q | q | q | q
        · rw [q]; exact hzl
        · rw [q]; exact Heap.lt_size hTI
        · rw [q]; exact Heap.lt_size hTO
        · rw [q]; exact Heap.lt_size e1
        · rw [q]; exact Heap.lt_size e2
      rw [upd_ne (Nat.ne_of_lt hlt)]
      exact (hf c hcm).1
  done := by
    intro X hP hw hK hc i pins s σ H E I hf st hg
    subst hP hw hK
    obtain ⟨hz, hTI, ⟨x0, y0, hTO⟩, h1, h2⟩ := st
    obtain ⟨xs, ys, hqx, hqy, hend⟩ := hg
    obtain ⟨its, rv, p, _⟩ := inB I hqx
    obtain ⟨its2, rv2, p2, _⟩ := inB I hqy
    have l1 := rv.length
    have l2 := rv2.length
    have hh : X.A.in1.handled = none := I.ok.hd hc
    exact wpAny_pyNext_zipD2_end (sepOf D) (drawsB t hh i1 a D.l1i1 its.toArray) (drawsB u hh i2 b D.l2i2 its2.toArray) hz hTI hTO ⟨h1, p⟩ ⟨h2, p2⟩ (by simp; omega) (by simp; omega) (by simp; omega) fun h' tk hk => ⟨rfl, I.turnedL (t' := tk) (ch := [z, TI, TO, i1, i2]) (fun c o hb q =>
      hk c o (fun q' => hb (by simp [q'])) (fun q' => hb (by simp [q'])) (fun q' => hb (by simp [q'])) (fun q' => hb (by simp [q'])) q) hf⟩
  self := fun A i s Q E st h => wpAny_pyIter_zip st.1 h
def iZipB (K : PySem.W.Frag) (ta : TA) : TI := fun σ H R => ta σ H fun vs H1 => ∃ t u a b xs ys, vs = [.ref a, .ref b] ∧ SqB t K H1 a xs ∧ SqB u K H1 b ys ∧ R (ItzB K t u a b) H1
theorem pi_zipB {X : Cx} {e e2 : Expr} {ta : TA} {p pos tpos : Pos} {elts : List Expr} {kk : Nat} (hg : Gl X "zip") (hm : X.mg "zip" = none) (ha : PA X [e, e2] ta)
    (hs : starEach [e, e2] X.env = (false, eval e X.env) :: starEach [e2] X.env) (hpl : (backTo pos (starEach [e2] X.env)).any (·.1) = false) :
    PI X (.Tuple elts kk tpos) (.Call (.Name "zip" p) [e, e2] [] pos) (iZipB X.K ta) := by
  refine ⟨fun pins s σ H R I h => ?_⟩
  refine Call_ (ld_blt I hg hm PyProof.Rows.boot_zip (PyProof.Rows.callWith_type1 (thn (ha.run pos pins s σ H _ I h) fun us s1 ⟨vs, H1, I1, r1, q1⟩ => ?_) hs hpl))
  obtain ⟨t, u, a, b, xs, ys, ex, hqx, hqy, q⟩ := q1
  subst ex
  cases r1 with
  | cons r rr =>
    cases rr with
    | cons r' rr =>
      cases rr
      cases r
      cases r'
      have fresh5 : ∀ c, c ∈ [s1.heap.objs.size + 4, s1.heap.objs.size + 2, s1.heap.objs.size + 3, s1.heap.objs.size, s1.heap.objs.size + 1] → FpOk X pins H1 c := fun c hcm => by
        have e' : c = s1.heap.objs.size + 4 ∨ c = s1.heap.objs.size + 2 ∨ c = s1.heap.objs.size + 3 ∨ c = s1.heap.objs.size ∨ c = s1.heap.objs.size + 1 := by simpa using hcm
        have hle : s1.heap.objs.size ≤ c := by omega
        exact I1.fpOk hle (I1.hok.fresh hle)
      obtain ⟨its, rv, p1, lt1⟩ := inB I1 hqx
      obtain ⟨its2, rv2, p2, lt2⟩ := inB I1 hqy
      refine zip_begins2 (beginsB t a its.toArray) (beginsB u b its2.toArray) p1 p2 fun h' hz hTI hTO h1 h2 hsz hk => wpAny_pyIter_zip hz ?_
      have I2 : Inv X pins σ H1 { s1 with heap := h' } := I1.kept (t' := s1.toks) hk
      exact ⟨s1.heap.objs.size + 4, [s1.heap.objs.size + 4, s1.heap.objs.size + 2, s1.heap.objs.size + 3, s1.heap.objs.size, s1.heap.objs.size + 1], _, _, H1, rfl, I2, turn_zipB (PySem.W.ktu_apart s1.heap.objs.size a b lt1 lt2), ⟨hz, hTI, ⟨_, _, hTO⟩, itB0 h1, itB0 h2⟩, fresh5, q⟩
theorem walk_zipB {K : PySem.W.Frag} {t u : Bool} {a b : Addr} {xs ys : List V} {n : Nat} (hn : n = min xs.length ys.length) :
    Walk (ItzB K t u a b) n (fun H => SqB t K H a xs ∧ SqB u K H b ys) (YPair (fun i => xs[i]?) (fun i => ys[i]?)) := by
  subst hn
  refine ⟨fun i _ hi q => ?_, fun _ q => ⟨xs, ys, q.1, q.2, by omega⟩, fun i H v H' _ q y => ?_⟩
  · have h1 : i < xs.length := by omega
    have h2 : i < ys.length := by omega
    exact ⟨xs, ys, xs[i], ys[i], q.1, q.2, by simp [h1], by simp [h2]⟩
  · obtain ⟨T, x, z, h1, h2, h3, h4, h5⟩ := y
    exact ⟨T, x, z, h1, h2, h3, h4 xs q.1, h5 ys q.2⟩
end Q
end

section
set_option maxRecDepth 100000
set_option maxHeartbeats 2000000
/-! QIter: what loops and comprehensions walk; targets. -/
namespace Q
open PySem PySem.Spec PyProof.Rows L2

section
variable (K : PySem.W.Frag) (fa : Nat → Option Addr) (F : Hp) (B : List Addr)
/-- an item: a value for good, or a new tuple of such -/
def Yk (H1 : Hp) (d : D) (x : V) (H2 : Hp) : Prop := (H2 = H1 ∧ Rep K fa F B d x) ∨ ∃ T vs es, x = .ref T ∧ H1 T = none ∧ H2 = upd H1 T (.tup vs) ∧ d = .tup es ∧ Reps K fa F B es vs
def Wk (H : Hp) (J : It) (ds : List D) : Prop := ∃ (G : Hp → Prop) (Y : Nat → Hp → V → Hp → Prop), Walk J ds.length G Y ∧ (∀ H1, Ex F H1 → G H1) ∧ ∀ (i : Nat) H1 x H2, i < ds.length → Ex F H1 → Y i H1 x H2 → ∃ d, ds[i]? = some d ∧ Yk K fa F B H1 d x H2
def wI (c : Env) (e : E) : TI := fun σ H R => ∃ W F B s ds s', Rel K fa W F B s σ H ∧ evI c e s = .ok ds s' ∧ ∀ F' B' H' J, Stp W F B F' B' → Rel K fa W F' B' s' σ H' → Wk K fa F' B' H' J ds → R J H'
end
theorem pi_w {X : Cx} {tg e : Expr} {t t' : TI} (h : PI X tg e t) (w : ∀ σ H R, t' σ H R → t σ H R) : PI X tg e t' := ⟨fun pins s σ H R I q => h.run pins s σ H R I (w σ H R q)⟩
section
variable {K : PySem.W.Frag} {fa : Nat → Option Addr} {F : Hp} {B : List Addr} {H : Hp} {ds es : List D} {vs ws : List V} {p q : Addr}
theorem wk_tup (h : SqT K F p vs) (r : Reps K fa F B ds vs) : Wk K fa F B H (Itt K p) ds := by
  refine ⟨fun H => SqT K H p vs, YAt vs, by rw [← r.length]; exact walk_tup, fun H1 e => ex_t e h, fun i H1 x H2 hi e y => ?_⟩
  obtain ⟨d, hd⟩ : ∃ d, ds[i]? = some d := ⟨ds[i], by simp [hi]⟩
  obtain ⟨v, h1, h2⟩ := r.get hd
  have := y.2
  rw [h1] at this; cases this
  exact ⟨d, hd, .inl ⟨y.1, h2⟩⟩
theorem wk_lst (h : SqL K F p vs) (r : Reps K fa F B ds vs) : Wk K fa F B H (Itl K p) ds := by
  refine ⟨fun H => SqL K H p vs, YAt vs, by rw [← r.length]; exact walk_list, fun H1 e => ex_l e h, fun i H1 x H2 hi e y => ?_⟩
  obtain ⟨d, hd⟩ : ∃ d, ds[i]? = some d := ⟨ds[i], by simp [hi]⟩
  obtain ⟨v, h1, h2⟩ := r.get hd
  have := y.2
  rw [h1] at this; cases this
  exact ⟨d, hd, .inl ⟨y.1, h2⟩⟩
theorem range_get {lo : Int} {n i : Nat} (h : i < n) : (rangeD lo n)[i]? = some (.int (lo + (i : Nat))) := by
  unfold rangeD
  simp [h]
theorem range_len (lo : Int) (n : Nat) : (rangeD lo n).length = n := by unfold rangeD; simp
theorem wk_range {lo : Int} {n : Nat} : Wk K fa F B H (Itr lo n) (rangeD lo n) := by
  refine ⟨fun _ => True, YFn fun i => .int (lo + i), by rw [range_len]; exact walk_range, fun _ _ => trivial, fun i H1 x H2 hi e y => ?_⟩
  rw [range_len] at hi
  exact ⟨_, range_get hi, .inl ⟨y.1, by rw [y.2]; exact of_int _⟩⟩
theorem zip_len : ∀ (xs ys : List D), (zipD xs ys).length = min xs.length ys.length
  | [], ys => by simp [zipD]
  | x :: xs, [] => by simp [zipD]
  | x :: xs, y :: ys => by simp [zipD, zip_len xs ys]
theorem zip_get : ∀ {xs ys : List D} {i : Nat} {x y : D}, xs[i]? = some x → ys[i]? = some y → (zipD xs ys)[i]? = some (.tup [x, y])
  | [], ys, i, x, y, h, _ => by simp at h
  | x0 :: xs, [], i, x, y, _, h => by simp at h
  | x0 :: xs, y0 :: ys, 0, x, y, h, h' => by simp at h h'; subst h h'; rfl
  | x0 :: xs, y0 :: ys, i + 1, x, y, h, h' => by simp at h h'; simpa [zipD] using zip_get h h'
theorem yk_pair {xs ys : List D} {us vs : List V} {i : Nat} {H1 H2 : Hp} {x : V} (r : Reps K fa F B xs us) (r' : Reps K fa F B ys vs) (hi : i < (zipD xs ys).length) (y : YPair (fun i => us[i]?) (fun i => vs[i]?) i H1 x H2) :
    ∃ d, (zipD xs ys)[i]? = some d ∧ Yk K fa F B H1 d x H2 := by
  rw [zip_len] at hi
  obtain ⟨d, hd⟩ : ∃ d, xs[i]? = some d := ⟨xs[i]'(by omega), by simp <;> omega⟩
  obtain ⟨e, he⟩ : ∃ d, ys[i]? = some d := ⟨ys[i]'(by omega), by simp <;> omega⟩
  obtain ⟨T, a, b, h1, h2, h3, h4, h5⟩ := y
  obtain ⟨a', g1, g2⟩ := r.get hd
  obtain ⟨b', g3, g4⟩ := r'.get he
  have h4' : us[i]? = some a := h4
  have h5' : vs[i]? = some b := h5
  rw [g1] at h4'; cases h4'
  rw [g3] at h5'; cases h5'
  exact ⟨_, zip_get hd he, .inr ⟨T, _, _, h1, h2, h3, rfl, .cons g2 (.one g4)⟩⟩
theorem sqB_ex {t : Bool} {H1 : Hp} {xs : List V} (e : Ex F H1) (h : SqB t K F p xs) : SqB t K H1 p xs := by
  cases t
  · exact ex_l e h
  · exact ex_t e h
theorem wk_zip {t u : Bool} (h : SqB t K F p vs) (h' : SqB u K F q ws) (r : Reps K fa F B ds vs) (r' : Reps K fa F B es ws) : Wk K fa F B H (ItzB K t u p q) (zipD ds es) := by
  refine ⟨_, _, walk_zipB (K := K) (t := t) (u := u) (a := p) (b := q) (xs := vs) (ys := ws) (by rw [zip_len, r.length, r'.length]), fun H1 e => ⟨sqB_ex e h, sqB_ex e h'⟩, fun i H1 x H2 hi e y => yk_pair r r' hi y⟩
theorem enum_len : ∀ (n : Nat) (xs : List D), (enumD n xs).length = xs.length
  | n, [] => rfl
  | n, x :: xs => by simp [enumD, enum_len (n + 1) xs]
theorem enum_get : ∀ {n : Nat} {xs : List D} {i : Nat} {x : D}, xs[i]? = some x → (enumD n xs)[i]? = some (.tup [.int ((n + i : Nat) : Int), x])
  | n, [], i, x, h => by simp at h
  | n, x0 :: xs, 0, x, h => by simp at h; subst h; rfl
  | n, x0 :: xs, i + 1, x, h => by
    simp at h
    have := enum_get (n := n + 1) h
    rw [show n + 1 + i = n + (i + 1) by omega] at this
    simpa [enumD] using this
theorem wk_enum (h : SqL K F p vs) (r : Reps K fa F B ds vs) : Wk K fa F B H (Ite K p) (enumD 0 ds) := by
  refine ⟨_, _, by rw [enum_len, ← r.length]; exact walk_enum (K := K) (a := p) (xs := vs), fun H1 e => ex_l e h, fun i H1 x H2 hi e y => ?_⟩
  rw [enum_len] at hi
  obtain ⟨d, hd⟩ : ∃ d, ds[i]? = some d := ⟨ds[i], by simp [hi]⟩
  obtain ⟨T, a, b, h1, h2, h3, h4, h5⟩ := y
  obtain ⟨b', g3, g4⟩ := r.get hd
  have h5' : vs[i]? = some b := h5
  rw [g3] at h5'; cases h5'
  cases h4
  refine ⟨_, enum_get hd, .inr ⟨T, _, _, h1, h2, h3, rfl, .cons ?_ (.one g4)⟩⟩
  rw [Nat.zero_add]; exact of_int _
end
section
variable {X : Cx} {fa : Nat → Option Addr} {c : Env} {a b d tg : Expr} {es : List Expr} {ea eb ed ee : E} {pos p tpos : Pos}
theorem i_its (ha : PE X a (tE X.K fa c ea)) : PI X tg a (wI X.K fa c (.its ea)) := ⟨fun pins s0 σ H R I ⟨W, F, B, s, ds, s', r, h, k⟩ => by
  obtain ⟨x, s1, h1, h2⟩ := bnd_inv h
  obtain ⟨q, rfl⟩ := opt_inv h2
  cases hx : x.frz <;> rw [hx] at q <;> first | (cases q; done) | skip
  · cases q
    refine (pi_tup ha).run pins s0 σ H R I (tE_use r h1 fun F1 B1 H1 v st r1 rx => ?_)
    rw [hx] at rx
    obtain ⟨p, vs, rfl, g1, g2⟩ := rep_tup rx
    exact ⟨p, rfl, ⟨vs, ex_t r1.ef g1⟩, k F1 B1 H1 _ st r1 (wk_tup g1 g2)⟩
  · cases q
    refine (pi_list ha).run pins s0 σ H R I (tE_use r h1 fun F1 B1 H1 v st r1 rx => ?_)
    rw [hx] at rx
    obtain ⟨p, vs, rfl, g1, g2⟩ := rep_lst rx
    exact ⟨p, rfl, ⟨vs, SqL.of (r1.ef _ _ g1)⟩, k F1 B1 H1 _ st r1 (wk_lst (SqL.of g1) g2)⟩
  · cases x <;> cases hx⟩
theorem rngOk_ok {i j : Int} (h : rngOk i j = true) : -(2 ^ 62) ≤ i ∧ i < 2 ^ 62 ∧ -(2 ^ 62) ≤ j ∧ j < 2 ^ 62 ∧ (j - i).toNat ≤ LINE := of_decide_eq_true (p := -(2 ^ 62) ≤ i ∧ i < 2 ^ 62 ∧ -(2 ^ 62) ≤ j ∧ j < 2 ^ 62 ∧ (j - i).toNat ≤ LINE) h
theorem i_rng1 {it : Expr} (h : PI X tg it (iRng1 (tA X.K fa c (.cons ea .nil)))) : PI X tg it (wI X.K fa c (.rng1 ea)) := pi_w h fun σ H R ⟨W, F, B, s, ds, s', r, h, k⟩ => by
  obtain ⟨x, s1, h1, h2⟩ := bnd_inv h
  cases x <;> first | (cases h2; done) | skip
  rename_i j
  have h3 : (if rngOk 0 j then Res.ok (rangeD 0 j.toNat) s1 else .bad) = .ok ds s' := h2
  split at h3 <;> cases h3
  rename_i hj
  obtain ⟨_, _, q1, q2, _⟩ := rngOk_ok hj
  have he : evA c (.cons ea .nil) s = .ok [.int j] s' := by
    show ((evE c ea s).bnd fun x s1 => (Res.ok [] s1).bnd fun xs s2 => .ok (x.frz :: xs) s2) = _
    rw [h1]; rfl
  refine tA_use r he fun F1 B1 H1 vs st r1 rs => ?_
  obtain ⟨v, rfl, rv⟩ := reps1 rs
  exact ⟨j, by rw [rep_int rv], q1, q2, k F1 B1 H1 _ st r1 wk_range⟩
theorem i_rng2 {it : Expr} (h : PI X tg it (iRng2 (tA X.K fa c (.cons ea (.cons eb .nil))))) : PI X tg it (wI X.K fa c (.rng2 ea eb)) := pi_w h fun σ H R ⟨W, F, B, s, ds, s', r, h, k⟩ => by
  obtain ⟨x, s1, h1, h2⟩ := bnd_inv h
  obtain ⟨y, s2, h3, h4⟩ := bnd_inv h2
  cases x <;> cases y <;> first | (cases h4; done) | skip
  rename_i i j
  have h5 : (if rngOk i j then Res.ok (rangeD i (j - i).toNat) s2 else .bad) = .ok ds s' := h4
  split at h5 <;> cases h5
  rename_i hj
  obtain ⟨q1, q2, q3, q4, _⟩ := rngOk_ok hj
  have he : evA c (.cons ea (.cons eb .nil)) s = .ok [.int i, .int j] s' := by
    show ((evE c ea s).bnd fun x s1 => ((evE c eb s1).bnd fun x s1 => (Res.ok [] s1).bnd fun xs s2 => .ok (x.frz :: xs) s2).bnd fun xs s2 => .ok (x.frz :: xs) s2) = _
    rw [h1, Res.bnd_ok, h3]; rfl
  refine tA_use r he fun F1 B1 H1 vs st r1 rs => ?_
  obtain ⟨v, w, rfl, rv, rw_⟩ := reps2 rs
  exact ⟨i, j, by rw [rep_int rv, rep_int rw_], ⟨q1, q2, q3, q4⟩, k F1 B1 H1 _ st r1 wk_range⟩
theorem items_inv {x : D} {ds : List D} (h : x.frz.items = some ds) : x.frz = .tup ds ∨ x.frz = .lst ds := by
  cases x <;> cases h <;> first | exact .inl rfl | exact .inr rfl
theorem items_of {F : Hp} {B : List Addr} {x : D} {v : V} {ds : List D} (h : x.frz.items = some ds) (r : Rep X.K fa F B x.frz v) : ∃ t p vs, v = .ref p ∧ SqB t X.K F p vs ∧ Reps X.K fa F B ds vs := by
  rcases items_inv h with e | e
  · rw [e] at r
    obtain ⟨p, vs, h1, h2, h3⟩ := rep_tup r
    exact ⟨true, p, vs, h1, h2, h3⟩
  · rw [e] at r
    obtain ⟨p, vs, h1, h2, h3⟩ := rep_lst r
    exact ⟨false, p, vs, h1, SqL.of h2, h3⟩
theorem i_zip {it : Expr} (h : PI X tg it (iZipB X.K (tA X.K fa c (.cons ea (.cons eb .nil))))) : PI X tg it (wI X.K fa c (.zip ea eb)) := pi_w h fun σ H R ⟨W, F, B, s, ds, s', r, h, k⟩ => by
  obtain ⟨x, s1, h1, h2⟩ := bnd_inv h
  obtain ⟨y, s2, h3, h4⟩ := bnd_inv h2
  cases hx : x.frz.items with
  | none => rw [hx] at h4; cases h4
  | some xs =>
    cases hy : y.frz.items with
    | none => rw [hx, hy] at h4; cases h4
    | some ys =>
      rw [hx, hy] at h4
      cases h4
      have he : evA c (.cons ea (.cons eb .nil)) s = .ok [x.frz, y.frz] s' := by
        show ((evE c ea s).bnd fun x s1 => ((evE c eb s1).bnd fun x s1 => (Res.ok [] s1).bnd fun xs s2 => .ok (x.frz :: xs) s2).bnd fun xs s2 => .ok (x.frz :: xs) s2) = _
        rw [h1, Res.bnd_ok, h3]; rfl
      refine tA_use r he fun F1 B1 H1 vs st r1 rs => ?_
      obtain ⟨v, w, rfl, rv, rw_⟩ := reps2 rs
      obtain ⟨t, p, us, rfl, q1, q2⟩ := items_of hx rv
      obtain ⟨u, q, ws, rfl, q3, q4⟩ := items_of hy rw_
      exact ⟨t, u, p, q, us, ws, rfl, sqB_ex r1.ef q1, sqB_ex r1.ef q3, k F1 B1 H1 _ st r1 (wk_zip q1 q3 q2 q4)⟩
end
end Q
end

section
set_option maxRecDepth 100000
set_option maxHeartbeats 2000000
/-! QComp: targets; comprehensions. -/
namespace Q
open PySem PySem.Spec PyProof.Rows L2

def tgv : E → List Nat
  | .var i => [i]
  | .tup es => tgv es
  | .cons e es => tgv e ++ tgv es
  | _ => []
def lenC : E → Nat
  | .cons _ es => lenC es + 1
  | _ => 0
section
variable (K : PySem.W.Frag) (fa : Nat → Option Addr)
def gA (e : E) : TG := fun v σ H Q => ∃ W F B s d s', Rel K fa W F B s σ H ∧ RR K fa W F B s σ H d v ∧ asgT e d s = some s' ∧ ∀ σ', Rel K fa W F B s' σ' H → σ'.length = σ.length → (∀ i, i ∉ tgv e → σ'[i]? = σ[i]?) → Q σ' H
def gAs (e : E) : TGs := fun vs σ H Q => ∃ W F B s ds s', Rel K fa W F B s σ H ∧ Reps K fa F B ds vs ∧ asgT.asgTs e ds s = some s' ∧ ∀ σ', Rel K fa W F B s' σ' H → σ'.length = σ.length → (∀ i, i ∉ tgv e → σ'[i]? = σ[i]?) → Q σ' H
end
theorem pg_w {X : Cx} {e : Expr} {t t' : TG} (h : PG X e t) (w : ∀ v σ H Q, t' v σ H Q → t v σ H Q) : PG X e t' := ⟨fun pins s σ H v u Q I r q => h.run pins s σ H v u Q I r (w v σ H Q q)⟩
theorem pgs_w {X : Cx} {e : List Expr} {t t' : TGs} (h : PGs X e t) (w : ∀ v σ H Q, t' v σ H Q → t v σ H Q) : PGs X e t' := ⟨fun pins s σ H v u Q I r q => h.run pins s σ H v u Q I r (w v σ H Q q)⟩
theorem pg_or {X : Cx} {e : Expr} {t t' : TG} (h : PG X e t) (h' : PG X e t') : PG X e (fun v σ H Q => t v σ H Q ∨ t' v σ H Q) := ⟨fun pins s σ H v u Q I r q => q.elim (h.run pins s σ H v u Q I r) (h'.run pins s σ H v u Q I r)⟩
theorem asgTs_len : ∀ (e : E) (ds : List D) (s s' : S), asgT.asgTs e ds s = some s' → ds.length = lenC e
  | .nil, [], s, s', h => rfl
  | .cons e es, d :: ds, s, s', h => by
    unfold asgT.asgTs at h
    obtain ⟨s1, h1, h2⟩ := bind_inv h
    simp [lenC, asgTs_len es ds s1 s' h2]
  | .nil, _ :: _, s, s', h => by unfold asgT.asgTs at h; cases h
  | .cons e es, [], s, s', h => by unfold asgT.asgTs at h; cases h
  | .var _, ds, s, s', h => by cases ds <;> (unfold asgT.asgTs at h; cases h)
  | .cst _, ds, s, s', h => by cases ds <;> (unfold asgT.asgTs at h; cases h)
  | .glb _, ds, s, s', h => by cases ds <;> (unfold asgT.asgTs at h; cases h)
  | .fnc _, ds, s, s', h => by cases ds <;> (unfold asgT.asgTs at h; cases h)
  | .bin _ _ _, ds, s, s', h => by cases ds <;> (unfold asgT.asgTs at h; cases h)
  | .cmp _ _ _, ds, s, s', h => by cases ds <;> (unfold asgT.asgTs at h; cases h)
  | .chn _ _ _ _ _, ds, s, s', h => by cases ds <;> (unfold asgT.asgTs at h; cases h)
  | .and _ _, ds, s, s', h => by cases ds <;> (unfold asgT.asgTs at h; cases h)
  | .or _ _, ds, s, s', h => by cases ds <;> (unfold asgT.asgTs at h; cases h)
  | .not _, ds, s, s', h => by cases ds <;> (unfold asgT.asgTs at h; cases h)
  | .neg _, ds, s, s', h => by cases ds <;> (unfold asgT.asgTs at h; cases h)
  | .ite _ _ _, ds, s, s', h => by cases ds <;> (unfold asgT.asgTs at h; cases h)
  | .tup _, ds, s, s', h => by cases ds <;> (unfold asgT.asgTs at h; cases h)
  | .lst _, ds, s, s', h => by cases ds <;> (unfold asgT.asgTs at h; cases h)
  | .bxl _, ds, s, s', h => by cases ds <;> (unfold asgT.asgTs at h; cases h)
  | .dic _, ds, s, s', h => by cases ds <;> (unfold asgT.asgTs at h; cases h)
  | .idx _ _, ds, s, s', h => by cases ds <;> (unfold asgT.asgTs at h; cases h)
  | .ixv _ _, ds, s, s', h => by cases ds <;> (unfold asgT.asgTs at h; cases h)
  | .slc _ _ _, ds, s, s', h => by cases ds <;> (unfold asgT.asgTs at h; cases h)
  | .slv _ _ _, ds, s, s', h => by cases ds <;> (unfold asgT.asgTs at h; cases h)
  | .call _ _, ds, s, s', h => by cases ds <;> (unfold asgT.asgTs at h; cases h)
  | .blt _ _, ds, s, s', h => by cases ds <;> (unfold asgT.asgTs at h; cases h)
  | .lenv _, ds, s, s', h => by cases ds <;> (unfold asgT.asgTs at h; cases h)
  | .isi _ _, ds, s, s', h => by cases ds <;> (unfold asgT.asgTs at h; cases h)
  | .mut _ _ _, ds, s, s', h => by cases ds <;> (unfold asgT.asgTs at h; cases h)
  | .lc _ _ _ _ _, ds, s, s', h => by cases ds <;> (unfold asgT.asgTs at h; cases h)
  | .rng1 _, ds, s, s', h => by cases ds <;> (unfold asgT.asgTs at h; cases h)
  | .rng2 _ _, ds, s, s', h => by cases ds <;> (unfold asgT.asgTs at h; cases h)
  | .zip _ _, ds, s, s', h => by cases ds <;> (unfold asgT.asgTs at h; cases h)
  | .enm _, ds, s, s', h => by cases ds <;> (unfold asgT.asgTs at h; cases h)
  | .its _, ds, s, s', h => by cases ds <;> (unfold asgT.asgTs at h; cases h)
  | .prt _, ds, s, s', h => by cases ds <;> (unfold asgT.asgTs at h; cases h)
  | .tru _, ds, s, s', h => by cases ds <;> (unfold asgT.asgTs at h; cases h)
  | .trv _, ds, s, s', h => by cases ds <;> (unfold asgT.asgTs at h; cases h)
section
variable {X : Cx} {fa : Nat → Option Addr} {a : Expr} {es : List Expr} {ea eb : E} {pos : Pos}
theorem g_var {i : Nat} (h : PG X a (gName i)) : PG X a (gA X.K fa (.var i)) := pg_w h fun v σ H Q ⟨W, F, B, s, d, s', r, rr, h, k⟩ => by
  unfold asgT at h
  split at h <;> cases h
  rename_i hi
  refine k _ (r.put hi rr) (by simp) fun j hj => ?_
  have : j ≠ i := fun e => hj (by simp [tgv, e])
  exact List.getElem?_set_ne (Ne.symm this)
theorem gs_nil : PGs X [] (gAs X.K fa .nil) := pgs_w pgs_nil fun vs σ H Q ⟨W, F, B, s, ds, s', r, rr, h, k⟩ => by
  cases ds with
  | cons d ds => unfold asgT.asgTs at h; cases h
  | nil =>
    unfold asgT.asgTs at h; cases h
    cases vs with
    | cons v vs => have := rr.length; simp at this
    | nil => exact ⟨rfl, k σ r rfl fun _ _ => rfl⟩
theorem reps_cons {K : PySem.W.Frag} {F : Hp} {B : List Addr} {d : D} {ds : List D} {vs : List V} (h : Reps K fa F B (d :: ds) vs) : ∃ v r, vs = v :: r ∧ Rep K fa F B d v ∧ Reps K fa F B ds r := by
  cases vs with
  | nil => have := h.length; simp at this
  | cons v r =>
    unfold Reps at h
    obtain ⟨w, ws, e, h1, h2⟩ := h
    cases e
    exact ⟨v, r, rfl, h1, h2⟩
theorem gs_cons (h1 : PG X a (gA X.K fa ea)) (h2 : PGs X es (gAs X.K fa eb)) (hs : (assignEach (a :: es) X.env).map (·.2) = assign a X.env :: (assignEach es X.env).map (·.2)) : PGs X (a :: es) (gAs X.K fa (.cons ea eb)) :=
  pgs_w (pgs_cons h1 h2 hs) fun vs σ H Q ⟨W, F, B, s, ds, s', r, rr, h, k⟩ => by
    cases ds with
    | nil => unfold asgT.asgTs at h; cases h
    | cons d ds =>
      unfold asgT.asgTs at h
      obtain ⟨s1, h3, h4⟩ := bind_inv h
      obtain ⟨v, vr, rfl, rv, rvs⟩ := reps_cons rr
      exact ⟨v, vr, rfl, W, F, B, s, d, s1, r, RR.of rv, h3, fun σ1 r1 l1 k1 => ⟨W, F, B, s1, ds, s', r1, rvs, h4, fun σ2 r2 l2 k2 => k σ2 r2 (l2.trans l1) fun i hi => by
        simp only [tgv, List.mem_append, not_or] at hi
        rw [k2 i hi.2, k1 i hi.1]⟩⟩
theorem g_tup {k n : Nat} (hc : X.calm = true) (h : PGs X es (gAs X.K fa eb)) (hn : (assignEach es X.env).length = n) (hst : (assignEach es X.env).findIdx? (·.1) = none) (hl : lenC eb = n) : PG X (.Tuple es k pos) (gA X.K fa (.tup eb)) :=
  pg_w (pg_or (pg_tup hc h hn hst) (pg_unl hc h hn hst)) fun v σ H Q ⟨W, F, B, s, d, s', r, rr, h, k⟩ => by
    cases d with
    | tup ds =>
      unfold asgT at h
      obtain ⟨p, vs, rfl, h1, h2⟩ := rep_tup (rr.rep rfl)
      exact .inl ⟨p, vs, rfl, ex_t r.ef h1, by rw [h2.length, asgTs_len _ _ _ _ h, hl], W, F, B, s, ds, s', r, h2, h, fun σ' r' l' k' => k σ' r' l' k'⟩
    | lst ds =>
      unfold asgT at h
      obtain ⟨p, vs, rfl, h1, h2⟩ := rep_lst (rr.rep rfl)
      exact .inr ⟨p, vs, rfl, SqL.of (r.ef _ _ h1), by rw [h2.length, asgTs_len _ _ _ _ h, hl], W, F, B, s, ds, s', r, h2, h, fun σ' r' l' k' => k σ' r' l' k'⟩
    | _ => unfold asgT at h; cases h
end

/-! ### wiping -/
theorem wipeL_len (l : List (Option D)) : ∀ vs, (wipeL l vs).length = l.length
  | [] => rfl
  | v :: vs => by unfold wipeL; rw [List.length_set, wipeL_len l vs]
theorem wipeL_out {l : List (Option D)} {i : Nat} : ∀ {vs : List Nat}, i ∉ vs → (wipeL l vs)[i]? = l[i]?
  | [], _ => rfl
  | v :: vs, h => by
    simp only [List.mem_cons, not_or] at h
    unfold wipeL
    rw [List.getElem?_set_ne (Ne.symm h.1), wipeL_out h.2]
theorem wipeL_in {l : List (Option D)} {i : Nat} : ∀ {vs : List Nat}, i ∈ vs → i < l.length → (wipeL l vs)[i]? = some none
  | v :: vs, h, hl => by
    unfold wipeL
    by_cases e : v = i
    · subst e
      rw [List.getElem?_set_self (by rw [wipeL_len]; exact hl)]
    · rw [List.getElem?_set_ne e]
      refine wipeL_in ?_ hl
      rcases List.mem_cons.mp h with h | h
      · exact absurd h.symm e
      · exact h
theorem wipe_in {σ : L2.St} {i : Nat} : ∀ {vs : List Nat}, i ∈ vs → i < σ.length → (wipe σ vs)[i]? = some none
  | v :: vs, h, hl => by
    unfold wipe
    by_cases e : v = i
    · subst e
      rw [List.getElem?_set_self (by rw [wipe_length]; exact hl)]
    · rw [List.getElem?_set_ne e]
      refine wipe_in ?_ hl
      rcases List.mem_cons.mp h with h | h
      · exact absurd h.symm e
      · exact h
theorem wipe_eq {σ σ2 : L2.St} {vs : List Nat} (hl : σ2.length = σ.length) (h : ∀ i, i ∉ vs → σ2[i]? = (wipe σ vs)[i]?) : wipe σ2 vs = wipe σ vs := by
  refine List.ext_getElem? fun i => ?_
  by_cases hi : i ∈ vs
  · by_cases hlt : i < σ.length
    · rw [wipe_in hi hlt, wipe_in hi (by omega)]
    · rw [List.getElem?_eq_none (by rw [wipe_length]; omega), List.getElem?_eq_none (by rw [wipe_length]; omega)]
  · rw [wipe_out hi, h i hi]
theorem backL_len (l o : List (Option D)) : ∀ vs, (backL l o vs).length = l.length
  | [] => rfl
  | v :: vs => by unfold backL; rw [List.length_set, backL_len l o vs]
theorem backL_out {l o : List (Option D)} {i : Nat} : ∀ {vs : List Nat}, i ∉ vs → (backL l o vs)[i]? = l[i]?
  | [], _ => rfl
  | v :: vs, h => by
    simp only [List.mem_cons, not_or] at h
    unfold backL
    rw [List.getElem?_set_ne (Ne.symm h.1), backL_out h.2]
theorem backL_in {l o : List (Option D)} {i : Nat} : ∀ {vs : List Nat}, i ∈ vs → i < l.length → (backL l o vs)[i]? = some ((o[i]?).getD none)
  | v :: vs, h, hl => by
    unfold backL
    by_cases e : v = i
    · subst e
      rw [List.getElem?_set_self (by rw [backL_len]; exact hl)]
    · rw [List.getElem?_set_ne e]
      refine backL_in ?_ hl
      rcases List.mem_cons.mp h with h | h
      · exact absurd h.symm e
      · exact h
abbrev S.wip (s : S) (vs : List Nat) : S := { s with loc := wipeL s.loc vs }
theorem wip_get {s : S} {vs : List Nat} {i : Nat} {d : D} (h : (s.wip vs).get i = some d) : i ∉ vs ∧ s.get i = some d := by
  by_cases hi : i ∈ vs
  · unfold S.get at h
    by_cases hl : i < s.loc.length
    · rw [show (s.wip vs).loc[i]? = some none from wipeL_in hi hl] at h
      cases h
    · rw [List.getElem?_eq_none (by show (wipeL s.loc vs).length ≤ i; rw [wipeL_len]; omega)] at h
      cases h
  · refine ⟨hi, ?_⟩
    unfold S.get at h ⊢
    rw [show (s.wip vs).loc[i]? = s.loc[i]? from wipeL_out hi] at h
    exact h
section
variable {K : PySem.W.Frag} {fa : Nat → Option Addr} {W F F' F1 : Hp} {B B' B1 : List Addr} {s s' : S} {σ : L2.St} {H H' H1 : Hp} {d : D} {v : V} {x : V} {vs : List Nat}
theorem Rel.wip (r : Rel K fa W F B s σ H) (vs : List Nat) : Rel K fa W F B (s.wip vs) (wipe σ vs) H := by
  refine ⟨r.ew, r.ef, by rw [wipe_length, r.len]; exact (wipeL_len _ _).symm, fun i d h => ?_, fun i j d e v ne hi hj oi oj h1 h2 => ?_, r.bl, r.bx, r.bd⟩
  · obtain ⟨hi, h⟩ := wip_get h
    rw [wipe_out hi]
    exact r.slot i d h
  · obtain ⟨hi', hi⟩ := wip_get hi
    obtain ⟨hj', hj⟩ := wip_get hj
    rw [wipe_out hi'] at h1
    rw [wipe_out hj'] at h2
    exact r.apart i j d e v ne hi hj oi oj h1 h2
theorem frz_get {i j : Nat} : (s.frz i).get j = if j = i then (s.get j).map D.frz else s.get j := by
  unfold S.frz
  cases h : s.get i with
  | none =>
    by_cases e : j = i
    · subst e; rw [if_pos rfl, h]; rfl
    · rw [if_neg e]
  | some d =>
    have hl := get_lt h
    by_cases e : j = i
    · subst e
      rw [if_pos rfl, h]
      cases d <;> first | (exact get_put_same hl) | exact h
    · rw [if_neg e]
      cases d <;> first | (exact get_put_ne e) | rfl
theorem frzs_own {i : Nat} {d : D} : ∀ {vs : List Nat} {s : S}, (s.frzs vs).get i = some d → (i ∈ vs ∨ (∀ e, s.get i = some e → e.isOwn = false)) → d.isOwn = false
  | [], s, h, q => by
    rcases q with q | q
    · cases q
    · exact q d h
  | v :: vs, s, h, q => by
    refine frzs_own (s := s.frz v) (vs := vs) h ?_
    by_cases e : i = v
    · right
      intro e' he
      rw [frz_get, if_pos e] at he
      obtain ⟨d', _, h2⟩ := map_inv he
      rw [← h2]; exact frz_own _
    · rcases q with q | q
      · exact .inl ((List.mem_cons.mp q).resolve_left e)
      · right
        intro e' he
        rw [frz_get, if_neg e] at he
        exact q e' he
theorem Rel.frzs : ∀ (vs : List Nat) {F : Hp} {s : S}, Rel K fa W F B s σ H → ∃ F', Stp W F B F' B ∧ Rel K fa W F' B (s.frzs vs) σ H
  | [], F, s, r => ⟨F, Stp.refl, r⟩
  | i :: vs, F, s, r => by
    cases h : s.get i with
    | none =>
      have e : s.frz i = s := by unfold S.frz; rw [h]
      obtain ⟨F', st, r'⟩ := Rel.frzs vs r
      refine ⟨F', st, ?_⟩
      show Rel K fa W F' B ((s.frz i).frzs vs) σ H
      rw [e]; exact r'
    | some d =>
      obtain ⟨F1, v, st, r1, _, _⟩ := r.frzS h
      obtain ⟨F', st', r'⟩ := Rel.frzs vs r1
      exact ⟨F', st.trans st', r'⟩
theorem Stp.wk {W' : Hp} (st : Stp W' F B F' B') (h : ∀ p, W' p = none → W p = none) : Stp W F B F' B' := ⟨st.ex, fun p o e => (st.gr p o e).imp id (h p), st.bs⟩
/-- an object apart from the slots and the boxes: hidden, or changed -/
theorem Rel.hide {W1 : Hp} {D0 : Addr} {o : HO} (r : Rel K fa W1 F B s σ H) (hw : W1 D0 = none → H D0 = none) (hx : ∀ p u, W p = some u → p ≠ D0 → W1 p = some u) (hn : ∀ p, W1 p = none → W p = none) (fd : F D0 = none) : Rel K fa (upd W D0 o) F B s σ (upd H D0 o) := by
  have ne : ∀ p u, W1 p = none → H p = some u → p ≠ D0 := fun p u h1 h2 e => by
    subst e
    rw [hw h1] at h2; cases h2
  refine ⟨fun p u e => ?_, fun p u e => ?_, r.len, fun i d h => ?_, r.apart, r.bl, fun k xs h => ?_, r.bd⟩
  · by_cases c : p = D0
    · subst c; rw [upd_same] at e ⊢; exact e
    · rw [upd_ne c] at e ⊢; exact r.ew _ _ (hx p u e c)
  · have c : p ≠ D0 := fun c => by subst c; rw [fd] at e; cases e
    rw [upd_ne c]; exact r.ef _ _ e
  · obtain ⟨v, h1, h2⟩ := r.slot i d h
    refine ⟨v, h1, ?_⟩
    cases d with
    | own xs =>
      obtain ⟨p, vs, h1, h2, h3, h4, h5, h6⟩ := h2
      have c := ne p _ h4 h2
      exact ⟨p, vs, h1, by rw [upd_ne c]; exact h2, h3, by rw [upd_ne c]; exact hn p h4, h5, h6⟩
    | odc xs =>
      obtain ⟨p, vs, h1, h2, h3, h4, h5, h6⟩ := h2
      have c := ne p _ h4 h2
      exact ⟨p, vs, h1, by rw [upd_ne c]; exact h2, h3, by rw [upd_ne c]; exact hn p h4, h5, h6⟩
    | _ => exact h2
  · obtain ⟨p, vs, h1, h2, h3, h4, h5⟩ := r.bx k xs h
    have c := ne p _ h4 h2
    exact ⟨p, vs, h1, by rw [upd_ne c]; exact h2, h3, by rw [upd_ne c]; exact hn p h4, h5⟩
/-- an item comes -/
theorem Rel.yk (r : Rel K fa W F B s σ H) (ex : Ex F1 F) (bs : ∃ r, B = B1 ++ r) (y : Yk K fa F1 B1 H d x H') : ∃ F', Stp W F B F' B ∧ Rel K fa W F' B s σ H' ∧ Rep K fa F' B d x := by
  rcases y with ⟨rfl, q⟩ | ⟨T, ws, es, rfl, hn, rfl, rfl, q⟩
  · exact ⟨F, Stp.refl, r, Rep.mono ex bs _ _ q⟩
  · obtain ⟨h1, h2, h3⟩ := r.newT hn (Reps.mono ex bs _ _ q)
    exact ⟨_, h2, h1, h3⟩
/-- behind a comprehension: its names as they were -/
theorem Rel.back {sf s2 : S} (r : Rel K fa W F B (s2.wip vs) (wipe σ vs) H) (rf : Rel K fa W F1 B1 sf σ H1) (ho : ∀ i d, i ∈ vs → sf.get i = some d → d.isOwn = false) (ex : Ex F1 F) (bs : ∃ r, B = B1 ++ r) :
    Rel K fa W F B { s2 with loc := backL s2.loc sf.loc vs } σ H := by
  have hl : s2.loc.length = σ.length := by
    have := r.len
    rw [wipe_length] at this
    rw [this]; exact (wipeL_len _ _).symm
  have key : ∀ i d, (S.mk (backL s2.loc sf.loc vs) s2.box).get i = some d → (i ∈ vs ∧ sf.get i = some d) ∨ (i ∉ vs ∧ (s2.wip vs).get i = some d) := fun i d h => by
    have hi := get_lt h
    replace hi : i < s2.loc.length := by rw [← backL_len s2.loc sf.loc vs]; exact hi
    unfold S.get at h
    by_cases hv : i ∈ vs
    · left
      refine ⟨hv, ?_⟩
      rw [show (S.mk (backL s2.loc sf.loc vs) s2.box).loc[i]? = _ from backL_in hv hi] at h
      unfold S.get
      cases q : sf.loc[i]? with
      | none => rw [q] at h; cases h
      | some o => rw [q] at h; exact h
    · right
      refine ⟨hv, ?_⟩
      rw [show (S.mk (backL s2.loc sf.loc vs) s2.box).loc[i]? = _ from backL_out hv] at h
      unfold S.get
      rw [show (s2.wip vs).loc[i]? = _ from wipeL_out hv]
      exact h
  refine ⟨r.ew, r.ef, by show σ.length = (backL s2.loc sf.loc vs).length; rw [backL_len]; exact hl.symm, fun i d h => ?_, fun i j d e v ne hi hj oi oj h1 h2 => ?_, r.bl, r.bx, r.bd⟩
  · rcases key i d h with ⟨hv, h⟩ | ⟨hv, h⟩
    · obtain ⟨v, h1, h2⟩ := rf.slot i d h
      exact ⟨v, h1, SlV.of (Rep.mono ex bs _ _ (h2.rep (ho i d hv h)))⟩
    · obtain ⟨v, h1, h2⟩ := r.slot i d h
      rw [wipe_out hv] at h1
      exact ⟨v, h1, h2⟩
  · rcases key i d hi with ⟨hv, hi⟩ | ⟨hv, hi⟩
    · rw [ho i d hv hi] at oi; cases oi
    · rcases key j e hj with ⟨hw, hj⟩ | ⟨hw, hj⟩
      · rw [ho j e hw hj] at oj; cases oj
      · exact r.apart i j d e v ne hi hj oi oj (by rw [wipe_out hv]; exact h1) (by rw [wipe_out hw]; exact h2)
end
theorem nox_inv {α : Type} {r : Res α} {a : α} {s : S} (h : r.nox = .ok a s) : r = .ok a s := by
  cases r with
  | ok b s1 => exact h
  | exc d s1 => cases h
  | bad => cases h
theorem drop_cons {ds : List D} {i : Nat} {d : D} (h : ds[i]? = some d) : ds.drop i = d :: ds.drop (i + 1) := by
  obtain ⟨h1, h2⟩ := List.getElem?_eq_some_iff.mp h
  rw [← h2]; exact List.drop_eq_getElem_cons h1
section
variable {K : PySem.W.Frag} {fa : Nat → Option Addr} {c : Env} {elt tg it cond : E} {own : List Nat}
theorem lc_wk {σ : L2.St} {H : Hp} {Q : VK} (hv : ∀ i, i ∈ tgv tg → i ∈ own) (h : tE K fa c (.lc elt tg it cond own) σ H Q) : tLc (wI K fa c it) (gA K fa tg) (tT K fa c cond) (tE K fa c elt) own σ H Q := by
  obtain ⟨W, F, B, s, d, s', r, h, k⟩ := h
  obtain ⟨ds, s1, h1, h2⟩ := bnd_inv h
  split at h2
  case isFalse => cases h2
  rename_i hline
  obtain ⟨ys, s2, h3, h4⟩ := bnd_inv h2
  cases h4
  refine ⟨W, F, B, s, ds, s1, r, h1, fun F1 B1 H1 J st1 r1 wk D0 hD => ?_⟩
  obtain ⟨F2, st2, r2⟩ := Rel.frzs own r1
  obtain ⟨G, Y, w, hG, hY⟩ := wk
  have hWD : W D0 = none := by
    cases q : W D0 with
    | none => rfl
    | some o => rw [r1.ew _ _ q] at hD; cases hD
  let f : D → S → Res (Option D) := fun d s2 => (Res.opt (asgT tg d { s2 with loc := wipeL s2.loc own }) s2).bnd fun s3 _ => (evT c cond s3).nox.bnd fun k s4 =>
        if k then (evE c elt s4).nox.bnd fun y s5 => .ok (some y.frz) s5 else .ok none s4
  have wn : ∀ (o : HO) p, upd W D0 o p = none → W p = none := fun o p e => by
    by_cases c : p = D0
    · subst c; rw [upd_same] at e; cases e
    · rw [upd_ne c] at e; exact e
  let Pv : Nat → Hp → Prop := fun i H => ∃ F B st acc vs, Rel K fa (upd W D0 (.lst vs)) F B (S.wip st own) (wipe σ own) H ∧ Stp W F2 B1 F B ∧ F D0 = none ∧ Reps K fa F B acc vs ∧ acc.length ≤ i ∧ ∃ ys', lcL f (ds.drop i) st = .ok ys' s2 ∧ ys = acc ++ ys'
  refine lc_it w Pv ⟨F2, B1, s1.frzs own, [], [], ?_, Stp.refl, r2.ef.free hD, .nil, Nat.le_refl _, ys, h3, rfl⟩ ?_ ?_ ?_
  · exact (r2.wip own).hide (fun _ => hD) (fun p u e _ => e) (fun p e => e) (r2.ef.free hD)
  · rintro i H2 hi ⟨F3, B3, st, acc, vs, r3, st3, _⟩
    exact hG H2 ((st2.ex.trans st3.ex).trans r3.ef)
  · rintro i x H2 H2' hi ⟨F3, B3, st, acc, vs, r3, st3, fd3, ra, la, ys', e1, e2⟩ y
    obtain ⟨d, hd, yk⟩ := hY i H2 x H2' hi ((st2.ex.trans st3.ex).trans r3.ef) y
    rw [drop_cons hd] at e1
    obtain ⟨o, s4, e3, e4⟩ := bnd_inv e1
    obtain ⟨rest, s5, e5, e6⟩ := bnd_inv e4
    obtain ⟨s6, _, e7, e8⟩ := bnd_inv e3
    obtain ⟨e7, rfl⟩ := opt_inv e7
    obtain ⟨b, s7, e9, e10⟩ := bnd_inv e8
    have e9 := nox_inv e9
    obtain ⟨F4, st4, r4, rp4⟩ := r3.yk (st2.ex.trans st3.ex) (st3.bs) yk
    have fd4 : F4 D0 = none := by
      cases q : F4 D0 with
      | none => rfl
      | some u =>
        rcases st4.gr _ _ q with z | z
        · rw [fd3] at z; cases z
        · rw [upd_same] at z; cases z
    refine ⟨_, F4, B3, _, d, s6, r4, RR.of rp4, e7, fun σ2 r5 l5 k5 => ?_⟩
    have we : wipe σ2 own = wipe σ own := wipe_eq (by rw [l5, wipe_length]) fun j hj => k5 j fun q => hj (hv j q)
    refine ⟨we, tT_use r5 e9 fun F6 B6 H6 st6 r6 => ?_⟩
    have fdOf : ∀ {F B F' B' vs}, F D0 = none → Stp (upd W D0 (.lst vs)) F B F' B' → F' D0 = none := fun {F B F' B' vs} z st => by
      rename_i Fa Ba Fb Bb _
      cases q : F' D0 with
      | none => rfl
      | some u =>
        rcases st.gr _ _ q with y | y
        · rw [z] at y; cases y
        · rw [upd_same] at y; cases y
    have st36 : Stp (upd W D0 (.lst vs)) F3 B3 F6 B6 := st4.trans st6
    have fd6 := fdOf fd3 st36
    cases b with
    | false =>
      cases e10
      rw [if_neg (by decide)]
      cases e6
      refine ⟨F6, B6, s4, acc, vs, ?_, st3.trans (st36.wk (wn _)), fd6, ra.stp st36, by omega, rest, e5, e2⟩
      rw [← we]
      exact r6.wip own
    | true =>
      rw [if_pos rfl]
      obtain ⟨y, s8, e11, e12⟩ := bnd_inv e10
      cases e12
      have e11 := nox_inv e11
      cases e6
      refine tE_use r6 e11 fun F7 B7 H7 z st7 r7 rz => ?_
      have st37 := st36.trans st7
      have fd7 := fdOf fd3 st37
      have hz : H7 D0 = some (.lst vs) := r7.ew _ _ upd_same
      have ll : acc.length < sizeLine := by show acc.length < 16777216; have : ds.length ≤ 16777216 := hline; omega
      refine ⟨vs, hz, by rw [ra.length]; exact ll, F7, B7, s4, acc ++ [y.frz], vs ++ [z], ?_, st3.trans (st37.wk (wn _)), fd7, Reps.append (ra.stp st37) (.one rz), by simp; omega, rest, e5, by rw [e2]; simp⟩
      rw [← we]
      exact (r7.wip own).hide (fun e => by rw [upd_same] at e; cases e) (fun p u e c => by rw [upd_ne c]; exact e) (wn _) fd7
  · rintro H2 ⟨F3, B3, st, acc, vs, r3, st3, fd3, ra, la, ys', e1, e2⟩
    rw [List.drop_length] at e1
    cases e1
    rw [List.append_nil] at e2
    subst e2
    have hz : H2 D0 = some (.lst vs) := r3.ew _ _ upd_same
    have nW : ∀ p, upd W D0 (.lst vs) p = none → p ≠ D0 := fun p e c => by subst c; rw [upd_same] at e; cases e
    have r4 : Rel K fa W F3 B3 (S.wip s2 own) (wipe σ own) H2 := by
      have := r3.hide (W := W) (D0 := D0) (o := .lst vs) (fun e => by rw [upd_same] at e; cases e) (fun p u e c => by rw [upd_ne c]; exact e) (wn _) fd3
      have hu : upd H2 D0 (.lst vs) = H2 := by
        funext p
        by_cases c : p = D0
        · subst c; rw [upd_same, hz]
        · rw [upd_ne c]
      rw [hu] at this
      exact ⟨fun p u e => this.ew p u (by
        by_cases c : p = D0
        · subst c; rw [hWD] at e; cases e
        · rw [upd_ne c]; exact e), this.ef, this.len, fun i d h => let ⟨v, h1, h2⟩ := this.slot i d h; ⟨v, h1, by
          cases d with
          | own xs => obtain ⟨p, vs, h1, h2, h3, h4, h5, h6⟩ := h2; exact ⟨p, vs, h1, h2, h3, wn _ p h4, h5, h6⟩
          | odc xs => obtain ⟨p, vs, h1, h2, h3, h4, h5, h6⟩ := h2; exact ⟨p, vs, h1, h2, h3, wn _ p h4, h5, h6⟩
          | _ => exact h2⟩, this.apart, this.bl, fun k xs h => let ⟨p, vs, h1, h2, h3, h4, h5⟩ := this.bx k xs h; ⟨p, vs, h1, h2, h3, wn _ p h4, h5⟩, this.bd⟩
    have hB : D0 ∉ B3 := fun h => by
      obtain ⟨j, hj⟩ := List.getElem?_of_mem h
      have hj' : j < s2.box.length := by
        have := r3.bl
        rw [show (S.wip s2 own).box = s2.box from rfl] at this
        rw [← this]; exact (List.getElem?_eq_some_iff.mp hj).1
      obtain ⟨p, us, h1, h2, h3, h4, h5⟩ := r3.bx j s2.box[j] (by show s2.box[j]? = _; simp [hj'])
      rw [hj] at h1; cases h1
      exact nW _ h4 rfl
    have r5 : Rel K fa W F3 B3 { s2 with loc := backL s2.loc (s1.frzs own).loc own } σ H2 := r4.back r2 (fun i d hi h => frzs_own h (.inl hi)) st3.ex st3.bs
    refine k F3 B3 H2 _ ((st1.trans st2).trans st3) r5 ⟨⟨D0, vs, rfl, hz, ra, hWD, fd3, hB⟩, fun _ i e h1 h2 h3 => ?_⟩
    obtain ⟨v, h4, h5⟩ := r5.slot i e h1
    rw [h3] at h4; cases h4
    by_cases hi : i ∈ own
    · have hl := get_lt h1
      have hl' : i < s2.loc.length := by
        have : i < (backL s2.loc (s1.frzs own).loc own).length := hl
        rw [backL_len] at this; exact this
      have : (s1.frzs own).get i = some e := by
        unfold S.get at h1 ⊢
        rw [show (S.mk (backL s2.loc (s1.frzs own).loc own) s2.box).loc[i]? = _ from backL_in hi hl'] at h1
        cases q : (s1.frzs own).loc[i]? with
        | none => rw [q] at h1; cases h1
        | some o => rw [q] at h1; exact h1
      rw [frzs_own this (.inl hi)] at h2; cases h2
    · have : (S.wip s2 own).get i = some e := by
        unfold S.get at h1 ⊢
        rw [show (S.mk (backL s2.loc (s1.frzs own).loc own) s2.box).loc[i]? = _ from backL_out hi] at h1
        rw [show (S.wip s2 own).loc[i]? = _ from wipeL_out hi]
        exact h1
      obtain ⟨v, h6, h7⟩ := r3.slot i e this
      rw [wipe_out hi, h3] at h6; cases h6
      obtain ⟨p, u, g1, g2, g3, _⟩ := h7.own h2
      cases g1
      exact nW _ g3 rfl
end
section
variable {X : Cx} {fa : Nat → Option Addr} {c : Env} {elt tg iter : Expr} {ifs : List Expr} {scope : Scope} {own : List (Str × Nat)} {pos : Pos} {eelt etg eit econd : E}
theorem e_lc (hc : X.calm = true) (hN : X.N.Nodup) (hi : PI X tg iter (wI X.K fa c eit)) (ok : BlkOk X.N X.env.scope scope own) (hv : ∀ i, i ∈ tgv etg → i ∈ own.map (·.2))
    (hg : ∀ (s : Shared) (H : Hp) (C : Addr) (cl : List (Str × Addr)) (fp : List Addr), PG (X.blk s H scope (compEnvC scope cl C X.env) fp) tg (gA X.K fa etg)) (ht : ∀ (s : Shared) (H : Hp) (C : Addr) (cl : List (Str × Addr)) (fp : List Addr), PTs (X.blk s H scope (compEnvC scope cl C X.env) fp) ifs (tT X.K fa c econd))
    (he : ∀ (s : Shared) (H : Hp) (C : Addr) (cl : List (Str × Addr)) (fp : List Addr), PE (X.blk s H scope (compEnvC scope cl C X.env) fp) elt (tE X.K fa c eelt)) (hs : ∀ x, foldedSetIterable iter X.env x = pure x) :
    PE X (.ListComp elt [⟨tg, iter, ifs, 0⟩] scope pos) (tE X.K fa c (.lc eelt etg eit econd (own.map (·.2)))) :=
  pe_w (pe_lc hc hN hi ok hg ht he hs) fun σ H Q h => lc_wk hv h
end
end Q
end

section
set_option maxRecDepth 100000
set_option maxHeartbeats 2000000
/-! QStm: statements. -/
namespace Q
open PySem PySem.Spec PyProof.Rows L2

section
variable (K : PySem.W.Frag) (fa : Nat → Option Addr) (c : Env) (L : Nat)
def EndF (W F' : Hp) (B' : List Addr) (D : Ends) (s' : S) (σ' : L2.St) (H' : Hp) : Flow → Prop
  | .nx => D.nx σ' H'
  | .rt d => ∀ v, RR K fa W F' B' s' σ' H' d v → D.rt v H'
  | .bk => D.bk σ' H'
  | .ct => D.ct σ' H'
def tS (e : St) : TS := fun D σ H => ∃ W F B s fl s', Rel K fa W F B s σ H ∧ evS c L e s = .ok fl s' ∧ ∀ F' B' σ' H', Stp W F B F' B' → Rel K fa W F' B' s' σ' H' → EndF K fa W F' B' D s' σ' H' fl
end
section
variable {K : PySem.W.Frag} {fa : Nat → Option Addr} {c : Env} {L : Nat} {W F F' : Hp} {B B' : List Addr} {s s1 : S} {σ : L2.St} {H H' : Hp} {Dn : Ends} {fl : Flow} {st : St} {d : D} {v : V}
theorem tS_use {s' : S} (r : Rel K fa W F B s σ H) (h : evS c L st s = .ok fl s') (k : ∀ F' B' σ' H', Stp W F B F' B' → Rel K fa W F' B' s' σ' H' → EndF K fa W F' B' Dn s' σ' H' fl) : tS K fa c L st Dn σ H := ⟨W, F, B, s, fl, s', r, h, k⟩
/-- a fresh result is kept apart -/
theorem Rel.hold (r : Rel K fa W F B s σ H) (rr : RR K fa W F B s σ H d v) (ho : d.isOwn = true) : ∃ p u, v = .ref p ∧ H p = some u ∧ W p = none ∧ F p = none ∧ p ∉ B ∧ Rel K fa (upd W p u) F B s σ H := by
  obtain ⟨p, u, rfl, h2, h3, h4, h5⟩ := rr.1.own ho
  refine ⟨p, u, rfl, h2, h3, h4, h5, fun q o e => ?_, r.ef, r.len, fun i e h => ?_, r.apart, r.bl, fun k xs h => ?_, r.bd⟩
  · by_cases c : q = p
    · subst c; rw [upd_same] at e; rw [h2]; exact e
    · rw [upd_ne c] at e; exact r.ew _ _ e
  · obtain ⟨w, g1, g2⟩ := r.slot i e h
    refine ⟨w, g1, ?_⟩
    have ne : ∀ q, w = .ref q → e.isOwn = true → q ≠ p := fun q e1 e2 e3 => rr.2 ho i e h e2 (by rw [g1, e1, e3])
    cases e with
    | own xs =>
      obtain ⟨q, vs, a1, a2, a3, a4, a5, a6⟩ := g2
      exact ⟨q, vs, a1, a2, a3, by rw [upd_ne (ne q a1 rfl)]; exact a4, a5, a6⟩
    | odc xs =>
      obtain ⟨q, vs, a1, a2, a3, a4, a5, a6⟩ := g2
      exact ⟨q, vs, a1, a2, a3, by rw [upd_ne (ne q a1 rfl)]; exact a4, a5, a6⟩
    | _ => exact g2
  · obtain ⟨q, vs, a1, a2, a3, a4, a5⟩ := r.bx k xs h
    have : q ≠ p := fun e => h5 (e ▸ List.mem_of_getElem? a1)
    exact ⟨q, vs, a1, a2, a3, by rw [upd_ne this]; exact a4, a5⟩
theorem Rel.unhold {s' : S} {σ' : L2.St} {p : Addr} {u : HO} (rr : RR K fa W F B s σ H d (.ref p)) (ho : d.isOwn = true) (hp : H p = some u) (hw : W p = none) (hf : F p = none) (hb : p ∉ B) (st : Stp (upd W p u) F B F' B') (r : Rel K fa (upd W p u) F' B' s' σ' H') :
    Stp W F B F' B' ∧ Rel K fa W F' B' s' σ' H' ∧ RR K fa W F' B' s' σ' H' d (.ref p) ∧ ∀ e w, RR K fa (upd W p u) F' B' s' σ' H' e w → RR K fa W F' B' s' σ' H' e w ∧ (e.isOwn = true → w ≠ .ref p) := by
  have wn : ∀ q, upd W p u q = none → W q = none ∧ q ≠ p := fun q e => by
    by_cases c : q = p
    · subst c; rw [upd_same] at e; cases e
    · rw [upd_ne c] at e; exact ⟨e, c⟩
  have hz : H' p = some u := r.ew _ _ upd_same
  have fz : F' p = none := by
    cases q : F' p with
    | none => rfl
    | some o =>
      rcases st.gr _ _ q with z | z
      · rw [hf] at z; cases z
      · rw [upd_same] at z; cases z
  have slv : ∀ e w, SlV K fa (upd W p u) F' B' H' e w → SlV K fa W F' B' H' e w := fun e w q => by
    cases e with
    | own xs => obtain ⟨q, vs, a1, a2, a3, a4, a5, a6⟩ := q; exact ⟨q, vs, a1, a2, a3, (wn q a4).1, a5, a6⟩
    | odc xs => obtain ⟨q, vs, a1, a2, a3, a4, a5, a6⟩ := q; exact ⟨q, vs, a1, a2, a3, (wn q a4).1, a5, a6⟩
    | _ => exact q
  have r2 : Rel K fa W F' B' s' σ' H' := by
    refine ⟨fun q o e => r.ew q o ?_, r.ef, r.len, fun i e h => ?_, r.apart, r.bl, fun k xs h => ?_, r.bd⟩
    · by_cases c : q = p
      · subst c; rw [hw] at e; cases e
      · rw [upd_ne c]; exact e
    · obtain ⟨w, g1, g2⟩ := r.slot i e h
      exact ⟨w, g1, slv _ _ g2⟩
    · obtain ⟨q, vs, a1, a2, a3, a4, a5⟩ := r.bx k xs h
      exact ⟨q, vs, a1, a2, a3, (wn q a4).1, a5⟩
  have nb : p ∉ B' := fun h => by
    obtain ⟨k, hk⟩ := List.getElem?_of_mem h
    have hk' : k < s'.box.length := by rw [← r.bl]; exact (List.getElem?_eq_some_iff.mp hk).1
    obtain ⟨q, vs, a1, a2, a3, a4, a5⟩ := r.bx k s'.box[k] (by simp [hk'])
    rw [hk] at a1; cases a1
    exact (wn _ a4).2 rfl
  refine ⟨st.wk fun q e => (wn q e).1, r2, ⟨?_, fun _ i e h1 h2 h3 => ?_⟩, fun e w q => ⟨⟨slv _ _ q.1, q.2⟩, fun oe c => ?_⟩⟩
  · cases d with
    | own xs =>
      obtain ⟨q, vs, a1, a2, a3, a4, a5, a6⟩ := rr.1
      cases a1
      rw [hp] at a2; cases a2
      exact ⟨p, vs, rfl, hz, Reps.mono st.ex st.bs _ _ a3, hw, fz, nb⟩
    | odc xs =>
      obtain ⟨q, vs, a1, a2, a3, a4, a5, a6⟩ := rr.1
      cases a1
      rw [hp] at a2; cases a2
      exact ⟨p, vs, rfl, hz, RepK.mono st.ex st.bs _ _ a3, hw, fz, nb⟩
    | _ => cases ho
  · obtain ⟨w, g1, g2⟩ := r.slot i e h1
    rw [h3] at g1; cases g1
    obtain ⟨q, o, b1, b2, b3, _⟩ := g2.own h2
    cases b1
    exact (wn _ b3).2 rfl
  · obtain ⟨q, o, b1, b2, b3, _⟩ := q.1.own oe
    rw [b1] at c; cases c
    exact (wn _ b3).2 rfl
/-- a fresh result, then another expression -/
theorem pair_use {e : E} {x y : D} {vx : V} {s2 : S} {Q : VK} (r : Rel K fa W F B s σ H) (rx : RR K fa W F B s σ H x vx) (h : evE c e s = .ok y s2)
    (k : ∀ F' B' H' vy, Stp W F B F' B' → Rel K fa W F' B' s2 σ H' → RR K fa W F' B' s2 σ H' x vx → RR K fa W F' B' s2 σ H' y vy → (y.isOwn = true → x.isOwn = true → vy ≠ vx) → Q vy H') : tE K fa c e σ H Q := by
  by_cases ho : x.isOwn = true
  · obtain ⟨p, u, rfl, h2, h3, h4, h5, r2⟩ := r.hold rx ho
    refine tE_res r2 h fun F1 B1 H1 v st r3 rr => ?_
    obtain ⟨q1, q2, q3, q4⟩ := Rel.unhold rx ho h2 h3 h4 h5 st r3
    obtain ⟨q5, q6⟩ := q4 _ _ rr
    exact k F1 B1 H1 v q1 q2 q3 q5 fun o _ => q6 o
  · have ho' : x.isOwn = false := by simpa using ho
    exact tE_res r h fun F1 B1 H1 v st r3 rr => k F1 B1 H1 v st r3 (rx.mono' st ho') rr fun _ o => by rw [ho'] at o; cases o
theorem RR.put {x y : D} {vx vy : V} {i : Nat} (r : Rel K fa W F B s σ H) (ry : RR K fa W F B s σ H y vy) (hi : i < s.loc.length) (ne : y.isOwn = true → x.isOwn = true → vy ≠ vx) : RR K fa W F B (s.put i x) (σ.set i (some vx)) H y vy := by
  refine ⟨ry.1, fun o j e h1 h2 h3 => ?_⟩
  by_cases c : j = i
  · subst c
    rw [get_put_same hi] at h1; cases h1
    rw [List.getElem?_set_self (by rw [r.len]; exact hi)] at h3
    cases h3
    exact ne o h2 rfl
  · rw [get_put_ne c] at h1
    rw [List.getElem?_set_ne (Ne.symm c)] at h3
    exact ry.2 o j e h1 h2 h3
/-- a box is another one now -/
theorem Rel.setBox {k : Nat} {xs ys : List D} {p : Addr} {vs ws : List V} (r : Rel K fa W F B s σ H) (h : s.box[k]? = some xs) (hb : B[k]? = some p) (hp : H p = some (.lst vs)) (q : Reps K fa F B ys ws) :
    Rel K fa W F B { s with box := s.box.set k ys } σ (upd H p (.lst ws)) := by
  obtain ⟨p', us, a1, a2, a3, a4, a5⟩ := r.bx k xs h
  rw [hb] at a1; cases a1
  have hk : k < s.box.length := (List.getElem?_eq_some_iff.mp h).1
  refine ⟨r.ew.mut a4, r.ef.mut a5, r.len, fun i e h => ?_, r.apart, by rw [List.length_set]; exact r.bl, fun j zs hj => ?_, r.bd⟩
  · obtain ⟨w, g1, g2⟩ := r.slot i e h
    refine ⟨w, g1, g2.mono (Ex.refl _) ⟨[], by simp⟩ (fun x o q1 q2 q3 => ?_) (fun _ _ _ z => z) (fun _ _ _ z => z)⟩
    obtain ⟨q, u, b1, _, _, _, b5⟩ := g2.own q1
    rw [q2] at b1; cases b1
    have : x ≠ p := fun e => b5 (e ▸ List.mem_of_getElem? hb)
    rw [upd_ne this]; exact q3
  · by_cases c : j = k
    · subst c
      rw [List.getElem?_set_self hk] at hj; cases hj
      exact ⟨p, ws, hb, upd_same, q, a4, a5⟩
    · rw [List.getElem?_set_ne (Ne.symm c)] at hj
      obtain ⟨x, us, b1, b2, b3, b4, b5⟩ := r.bx j zs hj
      have : x ≠ p := fun e => by
        subst e
        obtain ⟨h1, h1'⟩ := List.getElem?_eq_some_iff.mp b1
        obtain ⟨h2, h2'⟩ := List.getElem?_eq_some_iff.mp hb
        have nd := List.pairwise_iff_getElem.mp r.bd
        rcases Nat.lt_or_gt_of_ne c with z | z
        · exact nd j k h1 h2 z (h1'.trans h2'.symm)
        · exact nd k j h2 h1 z (h2'.trans h1'.symm)
      exact ⟨x, us, b1, by rw [upd_ne this]; exact b2, b3, b4, b5⟩
end

section
variable {X : Cx} {fa : Nat → Option Addr} {c : Env} {L : Nat} {a b tg iter : Expr} {sa sb : Stmt} {sts : List Stmt} {ea eb et eit : E} {xa xb : St} {pos tpos npos : Pos}
theorem s_nil : PSs X [] (tS X.K fa c L .nil) := pss_w pss_nil fun D σ H ⟨W, F, B, s, fl, s', r, h, k⟩ => by
  cases h
  exact k F B σ H Stp.refl r
theorem s_seq (h1 : PS X sa (tS X.K fa c L xa)) (h2 : PSs X sts (tS X.K fa c L xb)) : PSs X (sa :: sts) (tS X.K fa c L (.seq xa xb)) :=
  pss_w (pss_cons h1 h2) fun D σ H ⟨W, F, B, s, fl, s', r, h, k⟩ => by
    obtain ⟨f1, s1, h3, h4⟩ := bnd_inv h
    refine tS_use r h3 fun F1 B1 σ1 H1 st1 r1 => ?_
    cases f1 with
    | nx => exact tS_use r1 h4 fun F2 B2 σ2 H2 st2 r2 => k F2 B2 σ2 H2 (st1.trans st2) r2
    | rt d => cases h4; exact k F1 B1 σ1 H1 st1 r1
    | bk => cases h4; exact k F1 B1 σ1 H1 st1 r1
    | ct => cases h4; exact k F1 B1 σ1 H1 st1 r1
theorem s_pass : PS X (.Pass pos) (tS X.K fa c L .pass) := ps_w ps_pass fun D σ H ⟨W, F, B, s, fl, s', r, h, k⟩ => by
  cases h
  exact k F B σ H Stp.refl r
theorem s_brk : PS X (.Break pos) (tS X.K fa c L .brk) := ps_w ps_break fun D σ H ⟨W, F, B, s, fl, s', r, h, k⟩ => by
  cases h
  exact k F B σ H Stp.refl r
theorem s_cnt : PS X (.Continue pos) (tS X.K fa c L .cnt) := ps_w ps_continue fun D σ H ⟨W, F, B, s, fl, s', r, h, k⟩ => by
  cases h
  exact k F B σ H Stp.refl r
theorem s_rais {k : Nat} {e : E} : PS X sa (tS X.K fa c L (.rais k e)) := ps_w ps_never fun D σ H ⟨W, F, B, s, fl, s', r, h, _⟩ => by
  have h' : ((evA c e s).bnd fun xs s1 => Res.exc (.tup (.fn k :: xs)) s1 : Res Flow) = .ok fl s' := h
  obtain ⟨_, _, _, h4⟩ := bnd_inv h'
  cases h4
theorem s_ex (h : PS X sa (tDrop (tE X.K fa c ea))) : PS X sa (tS X.K fa c L (.ex ea)) := ps_w h fun D σ H ⟨W, F, B, s, fl, s', r, h, k⟩ => by
  obtain ⟨d, s1, h1, h2⟩ := bnd_inv h
  cases h2
  exact tE_res r h1 fun F1 B1 H1 v st r1 rr => k F1 B1 σ H1 st r1
theorem s_ret (ha : PE X a (tE X.K fa c ea)) : PS X (.Return (some a) pos) (tS X.K fa c L (.ret ea)) := ps_w (ps_ret ha) fun D σ H ⟨W, F, B, s, fl, s', r, h, k⟩ => by
  obtain ⟨d, s1, h1, h2⟩ := bnd_inv h
  cases h2
  exact tE_res r h1 fun F1 B1 H1 v st r1 rr => k F1 B1 σ H1 st r1 v rr
theorem s_retN : PS X (.Return none pos) (tS X.K fa c L .retN) := ps_w ps_retN fun D σ H ⟨W, F, B, s, fl, s', r, h, k⟩ => by
  cases h
  exact k F B σ H Stp.refl r .non (RR.of of_non)
theorem s_ite {as bs : List Stmt} (ht : PT X a (tT X.K fa c et)) (h1 : PSs X as (tS X.K fa c L xa)) (h2 : PSs X bs (tS X.K fa c L xb)) : PS X (.If a as bs pos) (tS X.K fa c L (.ite et xa xb)) :=
  ps_w (ps_if ht h1 h2) fun D σ H ⟨W, F, B, s, fl, s', r, h, k⟩ => by
    obtain ⟨b, s1, h3, h4⟩ := bnd_inv h
    refine tT_use r h3 fun F1 B1 H1 st1 r1 => ?_
    cases b with
    | true => rw [if_pos rfl] at h4 ⊢; exact tS_use r1 h4 fun F2 B2 σ2 H2 st2 r2 => k F2 B2 σ2 H2 (st1.trans st2) r2
    | false => rw [if_neg (by decide)] at h4 ⊢; exact tS_use r1 h4 fun F2 B2 σ2 H2 st2 r2 => k F2 B2 σ2 H2 (st1.trans st2) r2
theorem s_asg (h : PS X sa (tAsg (tE X.K fa c ea) (gA X.K fa et))) : PS X sa (tS X.K fa c L (.asg et ea)) := ps_w h fun D σ H ⟨W, F, B, s, fl, s', r, h, k⟩ => by
  obtain ⟨d, s1, h1, h2⟩ := bnd_inv h
  obtain ⟨s2, s3, h3, h4⟩ := bnd_inv h2
  obtain ⟨h3, rfl⟩ := opt_inv h3
  cases h4
  exact tE_res r h1 fun F1 B1 H1 v st r1 rr => ⟨W, F1, B1, _, d, _, r1, rr, h3, fun σ' r2 _ _ => k F1 B1 σ' H1 st r2⟩
theorem s_asv {i : Nat} (h : PS X sa (tAsg (tE X.K fa c ea) (gName i))) : PS X sa (tS X.K fa c L (.asv i ea)) := ps_w h fun D σ H ⟨W, F, B, s, fl, s', r, h, k⟩ => by
  obtain ⟨d, s1, h1, h2⟩ := bnd_inv h
  split at h2 <;> cases h2
  rename_i hi
  exact tE_res r h1 fun F1 B1 H1 v st r1 rr => k F1 B1 _ H1 st (r1.put hi rr)
theorem s_asvLc {i : Nat} {elt tg' it' cond : E} {own : List Nat} (hv : ∀ j, j ∈ tgv tg' → j ∈ own) (h : PS X sa (tAsg (tLc (wI X.K fa c it') (gA X.K fa tg') (tT X.K fa c cond) (tE X.K fa c elt) own) (gName i))) : PS X sa (tS X.K fa c L (.asv i (.lc elt tg' it' cond own))) := ps_w h fun D σ H ⟨W, F, B, s, fl, s', r, h, k⟩ => by
  obtain ⟨d, s1, h1, h2⟩ := bnd_inv h
  split at h2 <;> cases h2
  rename_i hi
  exact lc_wk hv (tE_res r h1 fun F1 B1 H1 v st r1 rr => k F1 B1 _ H1 st (r1.put hi rr))
theorem s_par {i j : Nat} (h : PS X sa (tPar i j (tCons (tE X.K fa c ea) (tCons (tE X.K fa c eb) tNil)))) : PS X sa (tS X.K fa c L (.par i j ea eb)) := ps_w h fun D σ H ⟨W, F, B, s, fl, s', r, h, k⟩ => by
  obtain ⟨x, s1, h1, h2⟩ := bnd_inv h
  obtain ⟨y, s2, h3, h4⟩ := bnd_inv h2
  split at h4 <;> cases h4
  rename_i hi
  refine tE_res r h1 fun F1 B1 H1 v st1 r1 rx => pair_use r1 rx h3 fun F2 B2 H2 w st2 r2 rx2 ry2 ne => ⟨v, w, rfl, k F2 B2 _ H2 (st1.trans st2) ?_⟩
  exact (r2.put hi.1 rx2).put (by rw [put_len]; exact hi.2.1) (ry2.put r2 hi.1 ne)
theorem s_set {i : Nat} (h : PS X sa (tAsg (tE X.K fa c ea) (gSub (tVar i) (tE X.K fa c eb) rSetL))) : PS X sa (tS X.K fa c L (.set i eb ea)) := ps_w h fun D σ H ⟨W, F, B, s, fl, s', r, h, k⟩ => by
  obtain ⟨x, s1, h1, h2⟩ := bnd_inv h
  split at h2
  case isFalse => cases h2
  rename_i hsm
  obtain ⟨y, s2, h3, h4⟩ := bnd_inv h2
  obtain ⟨s3, s4, h5, h6⟩ := bnd_inv h4
  obtain ⟨h5, rfl⟩ := opt_inv h5
  cases h6
  obtain ⟨d, h7, h8⟩ := bind_inv h5
  refine tE_use r h1 fun F1 B1 H1 u st1 r1 ru => ?_
  obtain ⟨d1, hd1⟩ := Option.isSome_iff_exists.mp hsm
  obtain ⟨v, hv, _⟩ := r1.slot i d1 hd1
  refine ⟨v, hv, tE_use r1 h3 fun F2 B2 H2 w st2 r2 rw_ => ?_⟩
  have ru2 := ru.stp st2
  obtain ⟨v', hv', sv⟩ := r2.slot i d h7
  rw [hv] at hv'; cases hv'
  generalize hy : y.frz = y' at h8 rw_
  cases d <;> cases y' <;> first | (cases h8; done) | skip
  · rename_i xs n
    obtain ⟨j, h9, h10⟩ := map_inv h8
    cases h10
    obtain ⟨p, vs, rfl, b2, b3, _⟩ := sv
    refine ⟨p, vs, n, j, rfl, rep_int rw_, b2, by rw [b3.length]; exact h9, k F2 B2 σ _ (st1.trans st2) (r2.setOwn h7 hv b2 (b3.set j ru2))⟩
  · rename_i bk n
    obtain ⟨xs, h9, h10⟩ := bind_inv h8
    obtain ⟨j, h11, h12⟩ := map_inv h10
    cases h12
    obtain ⟨p, rfl, hb⟩ := rep_box (sv.rep rfl)
    obtain ⟨p', vs, b1, b2, b3, _⟩ := r2.bx bk xs h9
    rw [hb] at b1; cases b1
    exact ⟨p, vs, n, j, rfl, rep_int rw_, b2, by rw [b3.length]; exact h11, k F2 B2 σ _ (st1.trans st2) (r2.setBox h9 hb b2 (b3.set j ru2))⟩
theorem s_aug {i : Nat} {o : BOp} {f : Int → Int → Int} (h : PS X sa (tAug i (tE X.K fa c ea) (ipI f))) (hf : ∀ x y z, opA o x y = some z → ∃ a b, x = .int a ∧ y = .int b ∧ z = .int (f a b)) : PS X sa (tS X.K fa c L (.aug i o ea)) := ps_w h fun D σ H ⟨W, F, B, s, fl, s', r, h, k⟩ => by
  unfold evS at h
  split at h
  case h_2 => cases h
  rename_i x hx
  obtain ⟨y, s1, h1, h2⟩ := bnd_inv h
  obtain ⟨z, s2, h3, h4⟩ := bnd_inv h2
  obtain ⟨h5, rfl⟩ := opt_inv h3
  cases h4
  obtain ⟨a, b, rfl, hy, rfl⟩ := hf _ _ _ h5
  obtain ⟨v, g1, g2⟩ := r.slot i _ hx
  have hl := get_lt hx
  refine ⟨v, g1, tE_use r h1 fun F1 B1 H1 u st r1 ru => ?_⟩
  rw [hy] at ru
  have hl1 : i < s2.loc.length := by rw [← r1.len, r.len]; exact hl
  refine ⟨a, b, rep_int (g2.rep rfl), rep_int ru, k F1 B1 _ H1 st (r1.put hl1 (RR.of (of_int _)))⟩
theorem s_whl {body : List Stmt} (hp : PassesOwn (model X.prog X.w) X.A X.env X.xe) (ht : PT X a (tT X.K fa c et)) (hb : PSs X body (tS X.K fa c L xb)) : PS X (.While a body [] pos) (tS X.K fa c L (.whl et xb)) :=
  ps_w (ps_while hp ht hb) fun D σ H ⟨W, F, B, s, fl, s', r, h, k⟩ => by
    refine ⟨fun m σ1 H1 => ∃ F1 B1 s1, Stp W F B F1 B1 ∧ Rel X.K fa W F1 B1 s1 σ1 H1 ∧ whlL (evT c et) (evS c L xb) m s1 = .ok fl s', ⟨L, F, B, s, Stp.refl, r, h⟩, fun m σ1 H1 ⟨F1, B1, s1, st1, r1, h1⟩ => ?_⟩
    cases m with
    | zero => cases h1
    | succ m =>
      obtain ⟨b, s2, h2, h3⟩ := bnd_inv h1
      refine tT_use r1 h2 fun F2 B2 H2 st2 r2 => ?_
      cases b with
      | false =>
        rw [if_neg (by decide)] at h3 ⊢
        cases h3
        exact k F2 B2 σ1 H2 (st1.trans st2) r2
      | true =>
        rw [if_pos rfl] at h3 ⊢
        obtain ⟨f3, s3, h4, h5⟩ := bnd_inv h3
        refine ⟨fun σ' H' => ∃ F1 B1 s1, Stp W F B F1 B1 ∧ Rel X.K fa W F1 B1 s1 σ' H' ∧ whlL (evT c et) (evS c L xb) m s1 = .ok fl s', fun σ' H' q => ⟨m, Nat.lt_succ_self _, q⟩, tS_use r2 h4 fun F3 B3 σ3 H3 st3 r3 => ?_⟩
        have st13 := (st1.trans st2).trans st3
        cases f3 with
        | nx => exact ⟨F3, B3, s3, st13, r3, h5⟩
        | ct => exact ⟨F3, B3, s3, st13, r3, h5⟩
        | bk => cases h5; exact k F3 B3 σ3 H3 st13 r3
        | rt d => cases h5; exact k F3 B3 σ3 H3 st13 r3
theorem s_for {body : List Stmt} (hp : PassesOwn (model X.prog X.w) X.A X.env X.xe) (hc : X.calm = true) (hi : PI X tg iter (wI X.K fa c eit)) (hg : PG X tg (gA X.K fa et)) (hb : PSs X body (tS X.K fa c L xb)) (hs : ∀ x, foldedSetIterable iter X.env x = pure x) :
    PS X (.For tg iter body [] pos) (tS X.K fa c L (.for et eit xb)) :=
  ps_w (ps_for hp hc hi hg hb hs) fun D σ H ⟨W, F, B, s, fl, s', r, h, k⟩ => by
    obtain ⟨ds, s1, h1, h2⟩ := bnd_inv h
    refine ⟨W, F, B, s, ds, s1, r, h1, fun F1 B1 H1 J st1 r1 wk => ?_⟩
    obtain ⟨G, Y, w, hG, hY⟩ := wk
    let f : Q.D → S → Res Flow := fun d s2 => (Res.opt (asgT et d s2) s2).bnd fun s3 _ => evS c L xb s3
    refine for_it w (fun i σ H => ∃ F2 B2 s2, Stp W F1 B1 F2 B2 ∧ Rel X.K fa W F2 B2 s2 σ H ∧ forL f (ds.drop i) s2 = .ok fl s') ⟨F1, B1, s1, Stp.refl, r1, h2⟩ ?_ ?_ ?_
    · rintro i σ2 H2 hi ⟨F2, B2, s2, st2, r2, _⟩
      exact hG H2 (st2.ex.trans r2.ef)
    · rintro i x σ2 H2 H2' hi ⟨F2, B2, s2, st2, r2, e2⟩ y
      obtain ⟨d, hd, yk⟩ := hY i H2 x H2' hi (st2.ex.trans r2.ef) y
      rw [drop_cons hd] at e2
      obtain ⟨f3, s3, e3, e4⟩ := bnd_inv e2
      obtain ⟨s4, _, e5, e6⟩ := bnd_inv e3
      obtain ⟨e5, rfl⟩ := opt_inv e5
      obtain ⟨F3, st3, r3, rp3⟩ := r2.yk st2.ex st2.bs yk
      refine ⟨W, F3, B2, _, d, s4, r3, RR.of rp3, e5, fun σ5 r5 _ _ => tS_use r5 e6 fun F6 B6 σ6 H6 st6 r6 => ?_⟩
      have st26 := (st2.trans st3).trans st6
      cases f3 with
      | nx => exact ⟨F6, B6, s3, st26, r6, e4⟩
      | ct => exact ⟨F6, B6, s3, st26, r6, e4⟩
      | bk => cases e4; exact k F6 B6 σ6 H6 (st1.trans st26) r6
      | rt d => cases e4; exact k F6 B6 σ6 H6 (st1.trans st26) r6
    · rintro σ2 H2 ⟨F2, B2, s2, st2, r2, e2⟩
      rw [List.drop_length] at e2
      cases e2
      exact k F2 B2 σ2 H2 (st1.trans st2) r2
end
end Q
end

section
set_option maxRecDepth 100000
set_option maxHeartbeats 4000000
/-! QCmp: from the text to the small language, each piece with its proof. -/
namespace Q
open PySem PySem.Spec PyProof.Rows L2

abbrev NK := List (Str × NameKind)
structure Ctx where
  N : List Str
  sc : NK
  fnc : Option NK
  fns : List (Str × Nat × Nat)
  gls : List (Str × Nat)
  bls : List Str
  bx : Bool
def fnOf : Option NK → Str → Bool
  | none, _ => true
  | some ns, x => ns.lookup x == some .cell
structure Ok (X : Cx) (fa : Nat → Option Addr) (c : Env) (x : Ctx) : Prop where
  nd : x.N.Nodup
  hN : X.N = x.N
  sc : X.env.scope.names = x.sc
  kind : X.env.scope.kind = .function
  fn : X.fn = fnOf x.fnc
  hu : X.A.units + 64 < cLine
  calm : X.calm = true
  fns : ∀ f k np, x.fns.lookup f = some (k, np) → ∃ (p : Addr) (fd : FuncData) (kk : Nat) (ps : List Str), X.mg f = some (.ref p) ∧ fa k = some p ∧ PySem.W.keepIn X.K (.ref p) = true ∧ FnOk X.prog X.w X.K X.mg X.base L2.CX0 kk p fd ps (spF X.K fa c.call np k) ∧ Room kk X.A ∧ Binds X.K fd ps []
  gls : ∀ f k, x.gls.lookup f = some k → ∃ (u : Value) (v : V) (d : D), X.mg f = some u ∧ RelV v u ∧ c.glb k = some d ∧ ∀ F B, Rep X.K fa F B d v
  bls : ∀ f, f ∈ x.bls → X.mg f = none
def relab (sc ns : NK) : NK := ns.map fun (n, k) => if (k == .free && sc.lookup n == some .cell) then (n, .cell) else (n, k)
def Ctx.blk (x : Ctx) (scope : Scope) : Ctx := { x with sc := relab x.sc scope.names, fnc := some scope.names }
theorem Ok.blk {X : Cx} {fa : Nat → Option Addr} {c : Env} {x : Ctx} (o : Ok X fa c x) {scope : Scope} (hk : scope.kind = .function) (s : Shared) (H : Hp) (C : Addr) (cl : List (Str × Addr)) (fp : List Addr) :
    Ok (X.blk s H scope (compEnvC scope cl C X.env) fp) fa c (x.blk scope) where
  nd := o.nd
  hN := o.hN
  sc := by
    show (scope.names.map fun (n, k) => if (k == NameKind.free && X.env.scope.kind == .function && X.env.scope.names.lookup n == some .cell) then (n, NameKind.cell) else (n, k)) = relab x.sc scope.names
    rw [o.kind, o.sc]
    unfold relab
    congr 1
    funext ⟨n, k⟩
    simp
  kind := hk
  fn := rfl
  hu := o.hu
  calm := o.calm
  fns := o.fns
  gls := o.gls
  bls := o.bls
theorem Ok.knd {X : Cx} {fa : Nat → Option Addr} {c : Env} {x : Ctx} (o : Ok X fa c x) (n : Str) : X.env.kindOf n = x.sc.lookup n := by
  show X.env.scope.names.lookup n = _
  rw [o.sc]

/-! ### looks -/
def slotOf : (N : List Str) → (x : Str) → Option { i : Nat // N[i]? = some x }
  | [], _ => none
  | y :: ys, x => if h : y = x then some ⟨0, by rw [h]; rfl⟩ else match slotOf ys x with
    | some ⟨i, hi⟩ => some ⟨i + 1, hi⟩
    | none => none
def nstar : Expr → Bool
  | .Starred _ _ => false
  | _ => true
def nset : Expr → Bool
  | .Set _ _ _ => false
  | _ => true
def nlc : Expr → Bool
  | .ListComp _ _ _ _ => false
  | .SetComp _ _ _ _ => false
  | .DictComp _ _ _ _ _ => false
  | _ => true
def ntst : Expr → Bool
  | .UnaryOp .Not _ _ => false
  | .BoolOp _ _ _ => false
  | .IfExp _ _ _ _ => false
  | .Compare _ _ _ _ => false
  | _ => true
def npix : Expr → Bool
  | .Slice _ _ _ _ => false
  | _ => true
def ntup : Expr → Bool
  | .Tuple _ _ _ => false
  | _ => true
theorem star_of {e : Expr} (h : nstar e = true) (es : List Expr) (env : PySem.Env) : starEach (e :: es) env = (false, eval e env) :: starEach es env := by
  cases e <;> first | rfl | cases h
theorem asg_of {e : Expr} (h : nstar e = true) (es : List Expr) (env : PySem.Env) : assignEach (e :: es) env = (false, assign e env) :: assignEach es env := by
  cases e <;> first | rfl | cases h
theorem set_of {e : Expr} (h : nset e = true) (env : PySem.Env) (x : Value) : foldedSetIterable e env x = pure x := by
  cases e <;> first | rfl | cases h
theorem plain_of {e : Expr} (h : npix e = true) : PlainIx e := by
  intro o i
  cases e <;> first | rfl | cases h
theorem tst_of {e : Expr} (h : ntst e = true) (env : PySem.Env) (whole : Sem Value) : isTrue e env whole = (do let v ← whole; standAt e.pos; holding [v] (truthy v)) := by
  cases e with
  | UnaryOp o a p => cases o <;> first | rfl | cases h
  | _ => first | rfl | cases h
theorem stars_of : ∀ {es : List Expr} (_ : es.all nstar = true) (pos : Pos) (env : PySem.Env), (backTo pos (starEach es env)).any (·.1) = false
  | [], _, pos, env => rfl
  | e :: es, h, pos, env => by
    simp only [List.all_cons, Bool.and_eq_true] at h
    rw [star_of h.1]
    show (false || (backTo pos (starEach es env)).any (·.1)) = false
    rw [stars_of h.2]; rfl
theorem asgs_len : ∀ {es : List Expr} (_ : es.all nstar = true) (env : PySem.Env), (assignEach es env).length = es.length
  | [], _, env => rfl
  | e :: es, h, env => by
    simp only [List.all_cons, Bool.and_eq_true] at h
    rw [asg_of h.1, List.length_cons, asgs_len h.2, List.length_cons]
theorem asgs_none : ∀ {es : List Expr} (_ : es.all nstar = true) (env : PySem.Env), (assignEach es env).findIdx? (·.1) = none
  | [], _, env => rfl
  | e :: es, h, env => by
    simp only [List.all_cons, Bool.and_eq_true] at h
    rw [asg_of h.1, List.findIdx?_cons]
    simp only [Bool.false_eq_true, if_false, asgs_none h.2]
    rfl
def bOf : Operator → Option BOp
  | .Add => some .add | .Sub => some .sub | .Mult => some .mul | .FloorDiv => some .fdiv | .Mod => some .mod | .Pow => some .pow | .LShift => some .shl
  | _ => none
theorem bOf_ok {o : Operator} {b : BOp} (h : bOf o = some b) : o = oB b := by
  cases o <;> cases h <;> rfl
def cOf : CmpOp → Option COp
  | .Eq => some .eq | .NotEq => some .ne | .Lt => some .lt | .LtE => some .le | .Gt => some .gt | .GtE => some .ge | .In => some .isin | .NotIn => some .notin | .Is => some .isN | .IsNot => some .notN
theorem cOf_ok {o : CmpOp} {b : COp} (h : cOf o = some b) : o = oC b := by
  cases o <;> cases h <;> rfl
def visB (sc : NK) (x : Str) : Bool := match sc.lookup x with
  | some .local => true
  | some .cell => true
  | some .free => true
  | _ => false
def glB (sc : NK) (x : Str) : Bool := match sc.lookup x with
  | some .globalImplicit => true
  | _ => false
def locB (sc : NK) (x : Str) : Bool := match sc.lookup x with
  | some .local => true
  | _ => false
def okn (x : Str) : Bool := !(x == ("__debug__" : Str)) && !(x == ("__classdict__" : Str)) && !(x == ("__name__" : Str))
section
variable {X : Cx} {fa : Nat → Option Addr} {c : Env} {x : Ctx} {n : Str}
theorem vis_ok (o : Ok X fa c x) (h : visB x.sc n = true) : Vis X.env.scope n := by
  unfold visB at h
  unfold Vis
  rw [o.sc]
  split at h <;> first | exact .inl ‹_› | exact .inr (.inl ‹_›) | exact .inr (.inr ‹_›) | cases h
theorem gl_ok (o : Ok X fa c x) (h : glB x.sc n = true) : Gl X n := by
  unfold glB at h
  show X.env.kindOf n = _
  rw [o.knd]
  split at h <;> first | assumption | cases h
theorem loc_ok (o : Ok X fa c x) (h : locB x.sc n = true) : X.env.scope.names.lookup n = some .local := by
  unfold locB at h
  rw [o.sc]
  split at h <;> first | assumption | cases h
theorem okn1 (h : okn n = true) : (n == ("__debug__" : Str)) = false := by
  unfold okn at h; simp only [Bool.and_eq_true, Bool.not_eq_true'] at h; exact h.1.1
theorem okn2 (h : okn n = true) : (n == ("__classdict__" : Str)) = false := by
  unfold okn at h; simp only [Bool.and_eq_true, Bool.not_eq_true'] at h; exact h.1.2
theorem okn3 (h : okn n = true) : n ≠ "__name__" := by
  unfold okn at h; simp only [Bool.and_eq_true, Bool.not_eq_true'] at h
  intro e; subst e; have := h.2; simp at this
end
/-- a slot by its name, for reading -/
structure OutV (x : Ctx) (n : Str) where
  i : Nat
  ok : ∀ X fa c, Ok X fa c x → ∀ pos, PE X (.Name n pos) (tVar i)
  ix : x.N[i]? = some n
def cV (x : Ctx) (n : Str) : Option (OutV x n) :=
  if h : (visB x.sc n && okn n) = true then match slotOf x.N n with
    | some ⟨i, hi⟩ => some ⟨i, fun X fa c o pos => pe_var (by rw [o.hN]; exact hi) (vis_ok o (Bool.and_eq_true_iff.mp h).1) (okn1 (Bool.and_eq_true_iff.mp h).2) (okn2 (Bool.and_eq_true_iff.mp h).2), hi⟩
    | none => none
  else none
structure OutE (x : Ctx) (e : Expr) where
  ir : E
  ok : ∀ X fa c, Ok X fa c x → PE X e (tE X.K fa c ir)
structure OutT (x : Ctx) (e : Expr) where
  ir : E
  ok : ∀ X fa c, Ok X fa c x → PT X e (tT X.K fa c ir)
structure OutW (x : Ctx) (e : Expr) where
  ir : E
  ok : ∀ X fa c, Ok X fa c x → PW X e (tT X.K fa c ir)
structure OutA (x : Ctx) (es : List Expr) where
  ir : E
  ok : ∀ X fa c, Ok X fa c x → PA X es (tA X.K fa c ir)
  ns : es.all nstar = true
  len : lenC ir = es.length
structure OutO (x : Ctx) (e : Option Expr) where
  ir : E
  ok : ∀ X fa c, Ok X fa c x → PO X e (tO X.K fa c ir)
structure OutG (x : Ctx) (e : Expr) where
  ir : E
  ok : ∀ X fa c, Ok X fa c x → PG X e (gA X.K fa ir)
structure OutGs (x : Ctx) (es : List Expr) where
  ir : E
  ok : ∀ X fa c, Ok X fa c x → PGs X es (gAs X.K fa ir)
  ns : es.all nstar = true
  len : lenC ir = es.length
structure OutI (x : Ctx) (tg e : Expr) where
  ir : E
  ok : ∀ X fa c, Ok X fa c x → PI X tg e (wI X.K fa c ir)
structure OutIf (x : Ctx) (es : List Expr) where
  ir : E
  ok : ∀ X fa c, Ok X fa c x → PTs X es (tT X.K fa c ir)
def OutE.cast {x : Ctx} {e e' : Expr} (h : e = e') (o : OutE x e) : OutE x e' := h ▸ o
/-! ### targets -/
theorem fnOf_ok {X : Cx} {fa : Nat → Option Addr} {c : Env} {x : Ctx} (o : Ok X fa c x) {n : Str} (h : (fnOf x.fnc n || locB x.sc n) = true) : X.fn n = true ∨ X.env.scope.names.lookup n = some .local := by
  rcases Bool.or_eq_true_iff.mp h with h | h
  · left; rw [o.fn]; exact h
  · exact .inr (loc_ok o h)
def lcB (sc : NK) (x : Str) : Bool := match sc.lookup x with
  | some .local => true
  | some .cell => true
  | _ => false
theorem lc_ok {X : Cx} {fa : Nat → Option Addr} {c : Env} {x : Ctx} {n : Str} (o : Ok X fa c x) (h : lcB x.sc n = true) : L2.Loc X.env.scope n := by
  unfold lcB at h
  unfold L2.Loc
  rw [o.sc]
  split at h <;> first | exact .inl ‹_› | exact .inr ‹_› | cases h
structure OutN (x : Ctx) (n : Str) where
  i : Nat
  ok : ∀ X fa c, Ok X fa c x → ∀ pos, PG X (.Name n pos) (gName i)
  ix : x.N[i]? = some n
  hf : (fnOf x.fnc n || locB x.sc n) = true
  lc : lcB x.sc n = true
def cN (x : Ctx) (n : Str) : Option (OutN x n) :=
  if h : (lcB x.sc n && (fnOf x.fnc n || locB x.sc n)) = true then match slotOf x.N n with
    | some ⟨i, hi⟩ => some ⟨i, fun X fa c o pos => pg_name (by rw [o.hN]; exact o.nd) (by rw [o.hN]; exact hi) (lc_ok o (Bool.and_eq_true_iff.mp h).1) (fnOf_ok o (Bool.and_eq_true_iff.mp h).2), hi, (Bool.and_eq_true_iff.mp h).2, (Bool.and_eq_true_iff.mp h).1⟩
    | none => none
  else none
mutual
def cG : Nat → (x : Ctx) → (e : Expr) → Option (OutG x e)
  | 0, _, _ => none
  | m + 1, x, .Name n pos => match cN x n with
    | some r => some ⟨.var r.i, fun X fa c o => g_var (r.ok X fa c o pos)⟩
    | none => none
  | m + 1, x, .Tuple es k pos => match cGs m x es with
    | some r => some ⟨.tup r.ir, fun X fa c o => g_tup o.calm (r.ok X fa c o) (asgs_len r.ns _) (asgs_none r.ns _) r.len⟩
    | none => none
  | _, _, _ => none
def cGs : Nat → (x : Ctx) → (es : List Expr) → Option (OutGs x es)
  | 0, _, _ => none
  | m + 1, x, [] => some ⟨.nil, fun X fa c o => gs_nil, rfl, rfl⟩
  | m + 1, x, e :: es => if h : nstar e = true then match cG m x e, cGs m x es with
    | some r, some q => some ⟨.cons r.ir q.ir, fun X fa c o => gs_cons (r.ok X fa c o) (q.ok X fa c o) (by rw [asg_of h]; rfl), by simp [h, q.ns], by simp [lenC, q.len]⟩
    | _, _ => none
    else none
end
/-! ### built-ins -/
def bltOf (f : Str) : Option Blt :=
  if f = "len" then some .len else if f = "abs" then some .abs else if f = "int" then some .int else if f = "min" then some .min else if f = "max" then some .max else if f = "sum" then some .sum else
  if f = "any" then some .any else if f = "all" then some .all else if f = "tuple" then some .tuple else if f = "list" then some .list else none
theorem bltOf_ok {f : Str} {b : Blt} (h : bltOf f = some b) : bootBuiltins f = some (vBlt b) := by
  unfold bltOf at h
  by_cases h1 : f = "len"
  · rw [if_pos h1] at h; cases h; subst h1; decide +kernel
  rw [if_neg h1] at h
  by_cases h2 : f = "abs"
  · rw [if_pos h2] at h; cases h; subst h2; decide +kernel
  rw [if_neg h2] at h
  by_cases h3 : f = "int"
  · rw [if_pos h3] at h; cases h; subst h3; decide +kernel
  rw [if_neg h3] at h
  by_cases h4 : f = "min"
  · rw [if_pos h4] at h; cases h; subst h4; decide +kernel
  rw [if_neg h4] at h
  by_cases h5 : f = "max"
  · rw [if_pos h5] at h; cases h; subst h5; decide +kernel
  rw [if_neg h5] at h
  by_cases h6 : f = "sum"
  · rw [if_pos h6] at h; cases h; subst h6; decide +kernel
  rw [if_neg h6] at h
  by_cases h7 : f = "any"
  · rw [if_pos h7] at h; cases h; subst h7; decide +kernel
  rw [if_neg h7] at h
  by_cases h8 : f = "all"
  · rw [if_pos h8] at h; cases h; subst h8; decide +kernel
  rw [if_neg h8] at h
  by_cases h9 : f = "tuple"
  · rw [if_pos h9] at h; cases h; subst h9; decide +kernel
  rw [if_neg h9] at h
  by_cases h10 : f = "list"
  · rw [if_pos h10] at h; cases h; subst h10; decide +kernel
  rw [if_neg h10] at h
  cases h
theorem pe_callV {X : Cx} {b : Blt} {r : List V → Hp → VK → Prop} {f : Str} {e : Expr} {es : List Expr} {t : TA} {p pos : Pos} (hc : CallR X (vBlt b) r) (hg : Gl X f) (hm : X.mg f = none) (hv : bootBuiltins f = some (vBlt b)) (ha : PA X (e :: es) t) (hn : f ≠ "__name__") (hdb : (f == ("__debug__" : Str)) = false)
    (he : starEach (e :: es) X.env = (false, eval e X.env) :: starEach es X.env) (hpl : (backTo pos (starEach es X.env)).any (·.1) = false) : PE X (.Call (.Name f p) (e :: es) [] pos) (tCB r t) := by
  cases b <;> first | exact pe_callB hc hg hm hv ha hn hdb he hpl | exact pe_callTy hc hg hm hv ha hn hdb he hpl
def tyOf (f : Str) : Option Ty :=
  if f = "int" then some .int else if f = "bool" then some .bool else if f = "tuple" then some .tuple else if f = "list" then some .list else if f = "str" then some .str else if f = "dict" then some .dict else none
theorem tyOf_ok {f : Str} {t : Ty} (h : tyOf f = some t) : bootBuiltins f = some (.type (tyN t)) := by
  unfold tyOf at h
  by_cases h1 : f = "int"
  · rw [if_pos h1] at h; cases h; subst h1; decide +kernel
  rw [if_neg h1] at h
  by_cases h2 : f = "bool"
  · rw [if_pos h2] at h; cases h; subst h2; decide +kernel
  rw [if_neg h2] at h
  by_cases h3 : f = "tuple"
  · rw [if_pos h3] at h; cases h; subst h3; decide +kernel
  rw [if_neg h3] at h
  by_cases h4 : f = "list"
  · rw [if_pos h4] at h; cases h; subst h4; decide +kernel
  rw [if_neg h4] at h
  by_cases h5 : f = "str"
  · rw [if_pos h5] at h; cases h; subst h5; decide +kernel
  rw [if_neg h5] at h
  by_cases h6 : f = "dict"
  · rw [if_pos h6] at h; cases h; subst h6; decide +kernel
  rw [if_neg h6] at h
  cases h
/-- the name of a built-in that stands free -/
def fr (x : Ctx) (f : Str) : Bool := glB x.sc f && (x.bls.contains f && okn f)
section
variable {X : Cx} {fa : Nat → Option Addr} {c : Env} {x : Ctx} {f : Str}
theorem fr_g (o : Ok X fa c x) (h : fr x f = true) : Gl X f := gl_ok o (Bool.and_eq_true_iff.mp h).1
theorem fr_m (o : Ok X fa c x) (h : fr x f = true) : X.mg f = none := o.bls f (by
  have := (Bool.and_eq_true_iff.mp (Bool.and_eq_true_iff.mp h).2).1
  simpa using this)
theorem fr_n (h : fr x f = true) : okn f = true := (Bool.and_eq_true_iff.mp (Bool.and_eq_true_iff.mp h).2).2
end
structure OutTy (x : Ctx) (e : Expr) where
  t : Ty
  ok : ∀ X fa c, Ok X fa c x → PE X e (tC (.ty (tyN t)))
  ns : nstar e = true
def cTy (x : Ctx) : (e : Expr) → Option (OutTy x e)
  | .Name f p => if h : fr x f = true then match ht : tyOf f with
    | some t => some ⟨t, fun X fa c o => pe_bltn (fr_g o h) (fr_m o h) (tyOf_ok ht) rfl (okn3 (fr_n h)) (okn1 (fr_n h)), rfl⟩
    | none => none
    else none
  | _ => none
structure OutTys (x : Ctx) (es : List Expr) where
  ts : List Ty
  ok : ∀ X fa c, Ok X fa c x → PA X es (tTys ts)
def cTys (x : Ctx) : (es : List Expr) → Option (OutTys x es)
  | [] => some ⟨[], fun X fa c o => pa_nil⟩
  | e :: es => match cTy x e, cTys x es with
    | some r, some q => some ⟨r.t :: q.ts, fun X fa c o => pa_w (pa_cons (r.ok X fa c o) (q.ok X fa c o) (star_of r.ns _ _)) fun σ H Q h => h⟩
    | _, _ => none
/-! ### dicts -/
section
variable {K : PySem.W.Frag} {fa : Nat → Option Addr} {c : Env}
theorem Rel.newD {W F : Hp} {B : List Addr} {s : S} {σ : L2.St} {H : Hp} {p : Addr} (r : Rel K fa W F B s σ H) (n : H p = none) : Rel K fa W F B s σ (upd H p (.dK [])) ∧ RR K fa W F B s σ (upd H p (.dK [])) (.odc []) (.ref p) := r.newK n (by unfold RepK; rfl)
end
theorem e_dic0 {X : Cx} {fa : Nat → Option Addr} {c : Env} {pos : Pos} : PE X (.Dict [] [] pos) (tE X.K fa c (.dic .nil)) := pe_w pe_dnewK fun σ H Q ⟨W, F, B, s, d, s', r, h, k⟩ p hp => by
  have h' : (Res.ok (D.odc (mergeD [] [])) s : Res D) = .ok d s' := h
  cases h'
  obtain ⟨r1, rr⟩ := r.newD hp
  exact k F B _ _ Stp.refl r1 rr
def kVD : D → Option Key
  | .int i => some (.inl i)
  | .str x => some (.inr x)
  | _ => none
theorem e_dic1 {X : Cx} {fa : Nat → Option Addr} {c : Env} {pos : Pos} {a b : Expr} {ea eb : E} (ha : PE X a (tE X.K fa c ea)) (hb : PE X b (tE X.K fa c eb)) : PE X (.Dict [some a] [b] pos) (tE X.K fa c (.dic (.cons ea (.cons eb .nil)))) :=
  pe_w (pe_disp (pps_cons ha hb pps_nil) rfl rfl (by simp) (by show 1 ≤ 15; decide)) fun σ H Q ⟨W, F, B, s, d, s', r, h, k⟩ p hp => by
    obtain ⟨xs, s3, h1, h2⟩ := bnd_inv h
    obtain ⟨x, s1, h3, h4⟩ := bnd_inv h1
    obtain ⟨ys, s2, h5, h6⟩ := bnd_inv h4
    obtain ⟨y, s4, h7, h8⟩ := bnd_inv h5
    obtain ⟨zs, s5, h9, h10⟩ := bnd_inv h8
    cases h9; cases h10; cases h6
    obtain ⟨ps, s6, h11, h12⟩ := bnd_inv h2
    obtain ⟨h21, rfl⟩ := opt_inv h11
    obtain ⟨r1, rr1⟩ := r.newD hp
    obtain ⟨p', u, e1, hz, hw, hf, hb, r2⟩ := r1.hold rr1 rfl
    cases e1
    rw [upd_same] at hz; cases hz
    refine tE_use r2 h3 fun F1 B1 H1 v st1 r3 rx => tE_use r3 h7 fun F2 B2 H2 w st2 r4 ry => ?_
    obtain ⟨q1, q2, q3, q4⟩ := Rel.unhold rr1 rfl upd_same hw hf hb (st1.trans st2) r4
    have rx2 := rx.stp st2
    have key : ∃ kk : Key, keyD x.frz = some kk ∧ ps = [(kk, y.frz)] := by
      have h13 : ((keyD x.frz).bind fun kk => (pairsD []).map ((kk, y.frz) :: ·)) = some ps := h21
      obtain ⟨kk, h14, h15⟩ := bind_inv h13
      cases h15
      exact ⟨kk, h14, rfl⟩
    obtain ⟨kk, hk, rfl⟩ := key
    cases h12
    have hv : v = kV kk := by
      revert rx2 hk
      generalize x.frz = x'
      intro rx2 hk
      cases x' <;> cases hk
      · exact rep_int rx2
      · exact rep_str rx2
    have hp2 : H2 p = some (.dK []) := by
      obtain ⟨p', vs, e1, e2, e3, _⟩ := q3.1
      cases e1
      rw [e2]
      unfold RepK at e3
      rw [e3]
    have wn : W p = none := hw
    refine ⟨hp2, [(kk, w)], by rw [hv]; rfl, by show 1 ≤ 15; decide, ?_⟩
    have r5 := q2.ew
    have fp : F2 p = none := by
      obtain ⟨p', vs, e1, e2, e3, e4, e5, e6⟩ := q3.1
      cases e1; exact e5
    have nb : p ∉ B2 := by
      obtain ⟨p', vs, e1, e2, e3, e4, e5, e6⟩ := q3.1
      cases e1; exact e6
    have ne : ∀ i e q, s'.get i = some e → e.isOwn = true → σ[i]? = some (some (.ref q)) → q ≠ p := fun i e q g1 g2 g3 g4 => q3.2 rfl i e g1 g2 (by rw [g3, g4])
    have r6 : Rel X.K fa W F2 B2 s' σ (upd H2 p (.dK (mergeK [] [(kk, w)]))) := q2.grow Stp.refl (q2.ew.mut wn) (q2.ef.mut fp)
      (fun i e q u g1 g2 g3 g4 => by
        obtain ⟨v', g5, g6⟩ := q2.slot i e g1
        rw [g3] at g5; cases g5
        obtain ⟨q', _, g7, _, _, g8, _⟩ := g6.own g2
        cases g7
        rw [upd_ne (ne i e q g1 g2 g3)]
        exact ⟨g4, g8⟩)
      (fun q u g1 g2 => by
        obtain ⟨j, hj⟩ := List.getElem?_of_mem g1
        have hj' : j < s'.box.length := by rw [← q2.bl]; exact (List.getElem?_eq_some_iff.mp hj).1
        obtain ⟨q', _, g3, _, _, _, g5⟩ := q2.bx j s'.box[j] (by simp [hj'])
        rw [hj] at g3; cases g3
        have : q ≠ p := fun e => nb (e ▸ g1)
        rw [upd_ne this]
        exact ⟨g2, g5⟩)
    refine k F2 B2 _ _ q1 r6 ⟨⟨p, [(kk, w)], rfl, upd_same, ?_, wn, fp, nb⟩, fun _ i e g1 g2 g3 => q3.2 rfl i e g1 g2 g3⟩
    show RepK X.K fa F2 B2 [(kk, y.frz)] [(kk, w)]
    unfold RepK
    exact ⟨w, [], rfl, ry, by unfold RepK; rfl⟩
end Q
end

section
set_option maxRecDepth 100000
set_option maxHeartbeats 4000000
/-! QCmp2: expressions from the text. -/
namespace Q
open PySem PySem.Spec PyProof.Rows L2

theorem band1 {a b : Bool} (h : (a && b) = true) : a = true := (Bool.and_eq_true_iff.mp h).1
theorem band2 {a b : Bool} (h : (a && b) = true) : b = true := (Bool.and_eq_true_iff.mp h).2
theorem evA_len {c : Env} : ∀ (e : E) (s s' : S) (xs : List D), evA c e s = .ok xs s' → xs.length = lenC e
  | .nil, s, s', xs, h => by unfold evA at h; cases h; rfl
  | .cons e es, s, s', xs, h => by
    unfold evA at h
    obtain ⟨x, s1, h1, h2⟩ := bnd_inv h
    obtain ⟨ys, s2, h3, h4⟩ := bnd_inv h2
    cases h4
    simp [lenC, evA_len es s1 _ ys h3]
  | .var _, s, s', xs, h => by unfold evA at h; cases h
  | .cst _, s, s', xs, h => by unfold evA at h; cases h
  | .glb _, s, s', xs, h => by unfold evA at h; cases h
  | .fnc _, s, s', xs, h => by unfold evA at h; cases h
  | .bin _ _ _, s, s', xs, h => by unfold evA at h; cases h
  | .cmp _ _ _, s, s', xs, h => by unfold evA at h; cases h
  | .chn _ _ _ _ _, s, s', xs, h => by unfold evA at h; cases h
  | .and _ _, s, s', xs, h => by unfold evA at h; cases h
  | .or _ _, s, s', xs, h => by unfold evA at h; cases h
  | .not _, s, s', xs, h => by unfold evA at h; cases h
  | .neg _, s, s', xs, h => by unfold evA at h; cases h
  | .ite _ _ _, s, s', xs, h => by unfold evA at h; cases h
  | .tup _, s, s', xs, h => by unfold evA at h; cases h
  | .lst _, s, s', xs, h => by unfold evA at h; cases h
  | .bxl _, s, s', xs, h => by unfold evA at h; cases h
  | .dic _, s, s', xs, h => by unfold evA at h; cases h
  | .idx _ _, s, s', xs, h => by unfold evA at h; cases h
  | .ixv _ _, s, s', xs, h => by unfold evA at h; cases h
  | .slc _ _ _, s, s', xs, h => by unfold evA at h; cases h
  | .slv _ _ _, s, s', xs, h => by unfold evA at h; cases h
  | .call _ _, s, s', xs, h => by unfold evA at h; cases h
  | .blt _ _, s, s', xs, h => by unfold evA at h; cases h
  | .lenv _, s, s', xs, h => by unfold evA at h; cases h
  | .isi _ _, s, s', xs, h => by unfold evA at h; cases h
  | .mut _ _ _, s, s', xs, h => by unfold evA at h; cases h
  | .lc _ _ _ _ _, s, s', xs, h => by unfold evA at h; cases h
  | .rng1 _, s, s', xs, h => by unfold evA at h; cases h
  | .rng2 _ _, s, s', xs, h => by unfold evA at h; cases h
  | .zip _ _, s, s', xs, h => by unfold evA at h; cases h
  | .enm _, s, s', xs, h => by unfold evA at h; cases h
  | .its _, s, s', xs, h => by unfold evA at h; cases h
  | .prt _, s, s', xs, h => by unfold evA at h; cases h
  | .tru _, s, s', xs, h => by unfold evA at h; cases h
  | .trv _, s, s', xs, h => by unfold evA at h; cases h
theorem mt_mut {X : Cx} : MtR X "list.append" (rMut .append) ∧ MtR X "list.extend" (rMut .extend) ∧ MtR X "list.pop" (rMut .pop) :=
  ⟨mt_append, mt_extend, MtR.or mt_pop mt_popAt⟩
def mthOf (f : Str) : Option Mth := if f = "append" then some .append else if f = "extend" then some .extend else if f = "pop" then some .pop else none
theorem pe_mutA {X : Cx} {o e : Expr} {to : TE} {t : TA} {f : Str} {m : Mth} {apos cpos : Pos} (hm : mthOf f = some m) (ho : PE X o to) (ha : PA X [e] t) (hb : attributeBase o f X.env (eval o X.env) = eval o X.env) (hl : (apos.endLine == cpos.line) = true) (hs : nstar e = true) :
    PE X (.Call (.Attribute o f apos) [e] [] cpos) (tBM X.K "list" (rMut m) to t) := by
  have few : ((backTo cpos (starEach [e] X.env)).all (fun x => !x.1) && (backToKw cpos (keywordEach [] X.env)).all (fun x => x.1.isSome) && decide (([e] : List Expr).length + ([] : List Keyword).length + (if ([] : List Keyword).isEmpty then 0 else 1) < 30)) = true := by
    rw [star_of hs]; rfl
  unfold mthOf at hm
  by_cases h1 : f = "append"
  · rw [if_pos h1] at hm; cases hm; subst h1
    exact pe_bm F.plainAttrs_list F.slot_list_append F.type_list_append mt_mut.1 ho ha hb few hl (star_of hs _ _) rfl
  rw [if_neg h1] at hm
  by_cases h2 : f = "extend"
  · rw [if_pos h2] at hm; cases hm; subst h2
    exact pe_bm F.plainAttrs_list F.slot_list_extend F.type_list_extend mt_mut.2.1 ho ha hb few hl (star_of hs _ _) rfl
  rw [if_neg h2] at hm
  by_cases h3 : f = "pop"
  · rw [if_pos h3] at hm; cases hm; subst h3
    exact pe_bm F.plainAttrs_list F.slot_list_pop F.type_list_pop mt_mut.2.2 ho ha hb few hl (star_of hs _ _) rfl
  rw [if_neg h3] at hm
  cases hm
theorem pe_mutP {X : Cx} {o : Expr} {to : TE} {apos cpos : Pos} (ho : PE X o to) (hb : attributeBase o "pop" X.env (eval o X.env) = eval o X.env) (hl : (apos.endLine == cpos.line) = true) :
    PE X (.Call (.Attribute o "pop" apos) [] [] cpos) (tBM0 X.K "list" (rMut .pop) to) := pe_bm0 F.plainAttrs_list F.slot_list_pop F.type_list_pop mt_mut.2.2 ho hb hl
/-- the names of a comprehension's own, with their places -/
def ownOf (N : List Str) : NK → Option (List (Str × Nat))
  | [] => some []
  | (n, k) :: r => match ownOf N r with
    | none => none
    | some l => if (k == .local || k == .cell) = true then match slotOf N n with
        | some ⟨i, _⟩ => some ((n, i) :: l)
        | none => some l
      else some l
theorem blk_ok {X : Cx} {fa : Nat → Option Addr} {c : Env} {x : Ctx} (o : Ok X fa c x) {scope : Scope} {own : List (Str × Nat)} (h : blkC x.N { scope with names := x.sc } scope own = true) : BlkOk X.N X.env.scope scope own := by
  refine blkOk_by ?_
  rw [o.hN]
  have : blkC x.N X.env.scope scope own = blkC x.N { scope with names := x.sc } scope own := by
    unfold blkC
    rw [o.sc]
  rw [this]; exact h
theorem blk_kind {N : List Str} {sc scope : Scope} {own : List (Str × Nat)} (h : blkC N sc scope own = true) : scope.kind = .function := (blkOk_by h).kind
structure OutL (x : Ctx) (elt tg iter : Expr) (ifs : List Expr) (scope : Scope) where
  e1 : E
  e2 : E
  e3 : E
  e4 : E
  own : List (Str × Nat)
  hi : ∀ X fa c, Ok X fa c x → PI X tg iter (wI X.K fa c e3)
  ok : blkC x.N { scope with names := x.sc } scope own = true
  hv : ∀ i, i ∈ tgv e2 → i ∈ own.map (·.2)
  hg : ∀ X fa c, Ok X fa c (x.blk scope) → PG X tg (gA X.K fa e2)
  ht : ∀ X fa c, Ok X fa c (x.blk scope) → PTs X ifs (tT X.K fa c e4)
  he : ∀ X fa c, Ok X fa c (x.blk scope) → PE X elt (tE X.K fa c e1)
  hs : nset iter = true
def OutL.ir {x : Ctx} {elt tg iter : Expr} {ifs : List Expr} {scope : Scope} (r : OutL x elt tg iter ifs scope) : E := .lc r.e1 r.e2 r.e3 r.e4 (r.own.map (·.2))
def mkL {x : Ctx} {elt tg iter : Expr} {ifs : List Expr} {scope : Scope} (i : OutI x tg iter) (g : OutG (x.blk scope) tg) (t : OutIf (x.blk scope) ifs) (e : OutE (x.blk scope) elt) : Option (OutL x elt tg iter ifs scope) := match ownOf x.N scope.names with
  | none => none
  | some own => if h1 : blkC x.N { scope with names := x.sc } scope own = true then if h2 : (tgv g.ir).all (fun i => (own.map (·.2)).contains i) = true then if h3 : nset iter = true then
    some ⟨e.ir, g.ir, i.ir, t.ir, own, i.ok, h1, fun j hj => by
      have := List.all_eq_true.mp h2 j hj
      simpa using this, g.ok, t.ok, e.ok, h3⟩ else none else none else none
theorem l_ok {x : Ctx} {elt tg iter : Expr} {ifs : List Expr} {scope : Scope} {pos : Pos} (r : OutL x elt tg iter ifs scope) {X : Cx} {fa : Nat → Option Addr} {c : Env} (o : Ok X fa c x) : PE X (.ListComp elt [⟨tg, iter, ifs, 0⟩] scope pos) (tE X.K fa c r.ir) :=
  e_lc o.calm (by rw [o.hN]; exact o.nd) (r.hi X fa c o) (blk_ok o r.ok) r.hv (fun s H C cl fp => r.hg _ fa c (o.blk (blk_kind r.ok) s H C cl fp)) (fun s H C cl fp => r.ht _ fa c (o.blk (blk_kind r.ok) s H C cl fp)) (fun s H C cl fp => r.he _ fa c (o.blk (blk_kind r.ok) s H C cl fp)) (set_of r.hs _)
theorem c_call {x : Ctx} {f : Str} {k np : Nat} {p pos : Pos} {e : Expr} {es : List Expr} (h : (glB x.sc f && okn f) = true) (hf : x.fns.lookup f = some (k, np)) (r : OutA x (e :: es)) (hl : (e :: es).length = np) {X : Cx} {fa : Nat → Option Addr} {c : Env} (o : Ok X fa c x) :
    PE X (.Call (.Name f p) (e :: es) [] pos) (tE X.K fa c (.call k r.ir)) := by
  obtain ⟨a, fd, kk, ps, h1, h2, h3, h4, h5, h6⟩ := o.fns f k np hf
  have ns := r.ns
  simp only [List.all_cons, Bool.and_eq_true] at ns
  exact e_call (pe_call h4 h5 (gl_ok o (band1 h)) h1 h3 h6 .nil pass0 (r.ok X fa c o) (okn1 (band2 h)) (star_of ns.1 _ _) (stars_of ns.2 _ _)) fun s s' xs q => by rw [evA_len _ _ _ _ q, r.len, hl]
theorem c_call0 {x : Ctx} {f : Str} {k : Nat} {p pos : Pos} (h : (glB x.sc f && okn f) = true) (hf : x.fns.lookup f = some (k, 0)) {X : Cx} {fa : Nat → Option Addr} {c : Env} (o : Ok X fa c x) :
    PE X (.Call (.Name f p) [] [] pos) (tE X.K fa c (.call k .nil)) := by
  obtain ⟨a, fd, kk, ps, h1, h2, h3, h4, h5, h6⟩ := o.fns f k 0 hf
  refine e_call (np := 0) (E := L2.E0) (pe_w (pe_call0 h4 h5 (gl_ok o (band1 h)) h1 h3 h6 .nil pass0 (okn1 (band2 h))) fun σ H Q q => ?_) fun s s' xs q => by unfold evA at q; cases q; rfl
  obtain ⟨W, F, B, s, ds, s', r, q1, q2⟩ := q
  unfold evA at q1; cases q1
  exact q2 F B H [] Stp.refl r Reps.nil
theorem c_glb {x : Ctx} {n : Str} {k : Nat} {pos : Pos} (h : (glB x.sc n && okn n) = true) (hg : x.gls.lookup n = some k) {X : Cx} {fa : Nat → Option Addr} {c : Env} (o : Ok X fa c x) : PE X (.Name n pos) (tE X.K fa c (.glb k)) := by
  obtain ⟨u, v, d, h1, h2, h3, h4⟩ := o.gls n k hg
  exact e_glb (pe_glob (gl_ok o (band1 h)) h1 h2 (okn1 (band2 h))) h3 h4
theorem c_blt {x : Ctx} {f : Str} {b : Blt} {p pos : Pos} {e : Expr} {es : List Expr} (h : fr x f = true) (hb : bltOf f = some b) (r : OutA x (e :: es)) {X : Cx} {fa : Nat → Option Addr} {c : Env} (o : Ok X fa c x) :
    PE X (.Call (.Name f p) (e :: es) [] pos) (tE X.K fa c (.blt b r.ir)) := by
  have ns := r.ns
  simp only [List.all_cons, Bool.and_eq_true] at ns
  exact e_blt b (pe_callV (call_rBlt o.calm b) (fr_g o h) (fr_m o h) (bltOf_ok hb) (r.ok X fa c o) (okn3 (fr_n h)) (okn1 (fr_n h)) (star_of ns.1 _ _) (stars_of ns.2 _ _))
theorem c_lenv {x : Ctx} {n : Str} {p p2 pos : Pos} (h : fr x "len" = true) (r : OutV x n) {X : Cx} {fa : Nat → Option Addr} {c : Env} (o : Ok X fa c x) :
    PE X (.Call (.Name "len" p) [.Name n p2] [] pos) (tE X.K fa c (.lenv r.i)) :=
  e_lenv (pe_callV (b := .len) (call_rBlt o.calm .len) (fr_g o h) (fr_m o h) (bltOf_ok (by decide +kernel)) (pa_cons (r.ok X fa c o p2) pa_nil (star_of rfl _ _)) (okn3 (fr_n h)) (okn1 (fr_n h)) (star_of rfl _ _) rfl)
theorem c_isi1 {x : Ctx} {p pos : Pos} {a b : Expr} (h : fr x "isinstance" = true) (ha : nstar a = true) (r : OutE x a) (t : OutTy x b) {X : Cx} {fa : Nat → Option Addr} {c : Env} (o : Ok X fa c x) :
    PE X (.Call (.Name "isinstance" p) [a, b] [] pos) (tE X.K fa c (.isi r.ir [t.t])) :=
  e_isi1 (pe_callB call_isi (fr_g o h) (fr_m o h) boot_isinstance (pa_cons (r.ok X fa c o) (pa_cons (t.ok X fa c o) pa_nil (star_of t.ns _ _)) (star_of ha _ _)) (okn3 (fr_n h)) (okn1 (fr_n h)) (star_of ha _ _) (stars_of (by simp [t.ns]) _ _))
theorem c_isiT {x : Ctx} {p pos p2 : Pos} {n : Nat} {a : Expr} {bs : List Expr} (h : fr x "isinstance" = true) (ha : nstar a = true) (r : OutE x a) (t : OutTys x bs) (hl : t.ts.length ≤ 10) {X : Cx} {fa : Nat → Option Addr} {c : Env} (o : Ok X fa c x) :
    PE X (.Call (.Name "isinstance" p) [a, .Tuple bs n p2] [] pos) (tE X.K fa c (.isi r.ir t.ts)) :=
  e_isiT hl (pe_callB call_isiT (fr_g o h) (fr_m o h) boot_isinstance (pa_cons (r.ok X fa c o) (pa_cons (pe_tup (t.ok X fa c o)) pa_nil (star_of rfl _ _)) (star_of ha _ _)) (okn3 (fr_n h)) (okn1 (fr_n h)) (star_of ha _ _) rfl)
theorem c_rng1 {x : Ctx} {p pos : Pos} {tg a : Expr} (h : fr x "range" = true) (ha : nstar a = true) (r : OutE x a) {X : Cx} {fa : Nat → Option Addr} {c : Env} (o : Ok X fa c x) : PI X tg (.Call (.Name "range" p) [a] [] pos) (wI X.K fa c (.rng1 r.ir)) :=
  i_rng1 (pi_range1 (fr_g o h) (fr_m o h) (a_cons (r.ok X fa c o) a_nil (star_of ha _ _)) (star_of ha _ _))
theorem c_rng2 {x : Ctx} {p pos : Pos} {tg a b : Expr} (h : fr x "range" = true) (ha : nstar a = true) (hb : nstar b = true) (r : OutE x a) (q : OutE x b) {X : Cx} {fa : Nat → Option Addr} {c : Env} (o : Ok X fa c x) : PI X tg (.Call (.Name "range" p) [a, b] [] pos) (wI X.K fa c (.rng2 r.ir q.ir)) :=
  i_rng2 (pi_range2 (fr_g o h) (fr_m o h) (a_cons (r.ok X fa c o) (a_cons (q.ok X fa c o) a_nil (star_of hb _ _)) (star_of ha _ _)) (by rw [star_of ha, star_of hb]; rfl) (star_of hb _ _))
theorem c_zip {x : Ctx} {p pos tpos : Pos} {elts : List Expr} {kk : Nat} {a b : Expr} (h : fr x "zip" = true) (ha : nstar a = true) (hb : nstar b = true) (r : OutE x a) (q : OutE x b) {X : Cx} {fa : Nat → Option Addr} {c : Env} (o : Ok X fa c x) :
    PI X (.Tuple elts kk tpos) (.Call (.Name "zip" p) [a, b] [] pos) (wI X.K fa c (.zip r.ir q.ir)) :=
  i_zip (pi_zipB (fr_g o h) (fr_m o h) (a_cons (r.ok X fa c o) (a_cons (q.ok X fa c o) a_nil (star_of hb _ _)) (star_of ha _ _)) (star_of ha _ _) (stars_of (by simp [hb]) _ _))
theorem c_mut {x : Ctx} {n f : Str} {m : Mth} {p apos pos : Pos} {a : Expr} (hm : mthOf f = some m) (hl : (apos.endLine == pos.line) = true) (ha : nstar a = true) (v : OutV x n) (r : OutE x a) {X : Cx} {fa : Nat → Option Addr} {c : Env} (o : Ok X fa c x) :
    PE X (.Call (.Attribute (.Name n p) f apos) [a] [] pos) (tE X.K fa c (.mut m v.i (.cons r.ir .nil))) :=
  e_mut (pe_mutA hm (v.ok X fa c o p) (a_cons (r.ok X fa c o) a_nil (star_of ha _ _)) rfl hl ha)
theorem c_pop {x : Ctx} {n : Str} {p apos pos : Pos} (hl : (apos.endLine == pos.line) = true) (v : OutV x n) {X : Cx} {fa : Nat → Option Addr} {c : Env} (o : Ok X fa c x) :
    PE X (.Call (.Attribute (.Name n p) "pop" apos) [] [] pos) (tE X.K fa c (.mut .pop v.i .nil)) := e_mut0 (pe_mutP (v.ok X fa c o p) rfl hl)
theorem pts_yes {x : Ctx} {X : Cx} {fa : Nat → Option Addr} {c : Env} : PTs X [] (tT X.K fa c .nil) := ⟨fun pins s σ H Q I h => pts_nil.run pins s σ H Q I (by
  obtain ⟨W, F, B, s, d, s', r, q, k⟩ := h
  unfold evT at q; cases q
  exact k F B H Stp.refl r)⟩
mutual
def cE : Nat → (x : Ctx) → (e : Expr) → Option (OutE x e)
  | 0, _, _ => none
  | m + 1, x, .Constant (.int i) j pos => some ⟨.cst (.int i), fun X fa c o => e_cst pe_int fun F B => of_int i⟩
  | m + 1, x, .Constant (.bool i) j pos => some ⟨.cst (.bl i), fun X fa c o => e_cst pe_bl fun F B => of_bl i⟩
  | m + 1, x, .Constant .none j pos => some ⟨.cst .non, fun X fa c o => e_cst pe_non fun F B => of_non⟩
  | m + 1, x, .Constant (.str i) j pos => some ⟨.cst (.str i), fun X fa c o => e_cst pe_str fun F B => of_str i⟩
  | m + 1, x, .Name n pos => match cV x n with
    | some r => some ⟨.var r.i, fun X fa c o => e_var (r.ok X fa c o pos)⟩
    | none => if h : (glB x.sc n && okn n) = true then match hg : x.gls.lookup n with
      | some k => some ⟨.glb k, fun X fa c o => c_glb h hg o⟩
      | none => none
      else none
  | m + 1, x, .BinOp a op b pos => match hb : bOf op with
    | some bo => match cE m x a, cE m x b with
      | some ra, some rb => some ⟨.bin bo ra.ir rb.ir, fun X fa c o => by rw [bOf_ok hb]; exact e_bin bo (ra.ok X fa c o) (rb.ok X fa c o)⟩
      | _, _ => none
    | none => none
  | m + 1, x, .Compare a [op] [b] pos => match hb : cOf op with
    | some co => if hm : behindInMarks op b = false then match cE m x a, cE m x b with
      | some ra, some rb => some ⟨.cmp co ra.ir rb.ir, fun X fa c o => by rw [cOf_ok hb] at hm ⊢; exact e_cmp o.hu co (ra.ok X fa c o) (rb.ok X fa c o) hm⟩
      | _, _ => none
      else none
    | none => none
  | m + 1, x, .Compare a [op, op2] [b, d] pos => match hb : cOf op, hb2 : cOf op2 with
    | some co, some co2 => if hm : lastMarks [op, op2] [b, d] = false then match cE m x a, cE m x b, cE m x d with
      | some ra, some rb, some rd => some ⟨.chn co co2 ra.ir rb.ir rd.ir, fun X fa c o => by rw [cOf_ok hb, cOf_ok hb2] at hm ⊢; exact e_chn o.hu co co2 (ra.ok X fa c o) (rb.ok X fa c o) (rd.ok X fa c o) hm⟩
      | _, _, _ => none
      else none
    | _, _ => none
  | m + 1, x, .BoolOp op [a] pos => match cE m x a with
    | some r => some ⟨r.ir, fun X fa c o => pe_one (r.ok X fa c o)⟩
    | none => none
  | m + 1, x, .BoolOp .And (a :: b :: es) pos => match cE m x a, cE m x (.BoolOp .And (b :: es) pos) with
    | some r, some q => some ⟨.and r.ir q.ir, fun X fa c o => e_and (r.ok X fa c o) (q.ok X fa c o)⟩
    | _, _ => none
  | m + 1, x, .BoolOp .Or (a :: b :: es) pos => match cE m x a, cE m x (.BoolOp .Or (b :: es) pos) with
    | some r, some q => some ⟨.or r.ir q.ir, fun X fa c o => e_or (r.ok X fa c o) (q.ok X fa c o)⟩
    | _, _ => none
  | m + 1, x, .UnaryOp .Not a pos => match cE m x a with
    | some r => some ⟨.not r.ir, fun X fa c o => e_not (r.ok X fa c o)⟩
    | none => none
  | m + 1, x, .UnaryOp .USub a pos => match cE m x a with
    | some r => some ⟨.neg r.ir, fun X fa c o => e_neg (r.ok X fa c o)⟩
    | none => none
  | m + 1, x, .IfExp d a b pos => match cT m x d, cE m x a, cE m x b with
    | some t, some r, some q => some ⟨.ite t.ir r.ir q.ir, fun X fa c o => e_ite (t.ok X fa c o) (r.ok X fa c o) (q.ok X fa c o)⟩
    | _, _, _ => none
  | m + 1, x, .Tuple es k pos => match cA m x es with
    | some r => some ⟨.tup r.ir, fun X fa c o => e_tup (r.ok X fa c o)⟩
    | none => none
  | m + 1, x, .List es pos => match cA m x es with
    | some r => some ⟨.lst r.ir, fun X fa c o => e_lst (r.ok X fa c o)⟩
    | none => none
  | m + 1, x, .Dict [] [] pos => some ⟨.dic .nil, fun X fa c o => e_dic0⟩
  | m + 1, x, .Dict [some a] [b] pos => match cE m x a, cE m x b with
    | some r, some q => some ⟨.dic (.cons r.ir (.cons q.ir .nil)), fun X fa c o => e_dic1 (r.ok X fa c o) (q.ok X fa c o)⟩
    | _, _ => none
  | m + 1, x, .Subscript a (.Slice lo hi none p2) pos => match cO m x lo, cO m x hi with
    | some l, some h => match a with
      | .Name n p => match cV x n with
        | some v => some ⟨.slv v.i l.ir h.ir, fun X fa c o => e_slv (v.ok X fa c o p) (l.ok X fa c o) (h.ok X fa c o)⟩
        | none => match cE m x (.Name n p) with
          | some r => some ⟨.slc r.ir l.ir h.ir, fun X fa c o => e_slc (r.ok X fa c o) (l.ok X fa c o) (h.ok X fa c o)⟩
          | none => none
      | a => match cE m x a with
        | some r => some ⟨.slc r.ir l.ir h.ir, fun X fa c o => e_slc (r.ok X fa c o) (l.ok X fa c o) (h.ok X fa c o)⟩
        | none => none
    | _, _ => none
  | m + 1, x, .Subscript a i pos => if hp : npix i = true then match cE m x i with
    | some q => match a with
      | .Name n p => match cV x n with
        | some v => some ⟨.ixv v.i q.ir, fun X fa c o => e_ixv (v.ok X fa c o p) (q.ok X fa c o) (plain_of hp)⟩
        | none => match cE m x (.Name n p) with
          | some r => some ⟨.idx r.ir q.ir, fun X fa c o => e_idx (r.ok X fa c o) (q.ok X fa c o) (plain_of hp)⟩
          | none => none
      | a => match cE m x a with
        | some r => some ⟨.idx r.ir q.ir, fun X fa c o => e_idx (r.ok X fa c o) (q.ok X fa c o) (plain_of hp)⟩
        | none => none
    | none => none
    else none
  | m + 1, x, .Call (.Name f p) [] [] pos => if h : (glB x.sc f && okn f) = true then match hf : x.fns.lookup f with
    | some (k, 0) => some ⟨.call k .nil, fun X fa c o => c_call0 h hf o⟩
    | _ => none
    else none
  | m + 1, x, .Call (.Name f p) (e :: es) [] pos => match hf : x.fns.lookup f with
    | some (k, np) => if h : (glB x.sc f && okn f) = true then if hl : (e :: es).length = np then match cA m x (e :: es) with
      | some r => some ⟨.call k r.ir, fun X fa c o => c_call h hf r hl o⟩
      | none => none
      else none else none
    | none => if h : fr x f = true then
      if h1 : f = "isinstance" then match e, es with
        | a, [.Tuple bs n p2] => if ha : nstar a = true then match cE m x a, cTys x bs with
          | some r, some t => if hl : t.ts.length ≤ 10 then some ⟨.isi r.ir t.ts, fun X fa c o => by subst h1; exact c_isiT h ha r t hl o⟩ else none
          | _, _ => none
          else none
        | a, [b] => if ha : nstar a = true then match cE m x a, cTy x b with
          | some r, some t => some ⟨.isi r.ir [t.t], fun X fa c o => by subst h1; exact c_isi1 h ha r t o⟩
          | _, _ => none
          else none
        | _, _ => none
      else if h2 : f = "len" then match e, es with
        | .Name n p2, [] => match cV x n with
          | some v => some ⟨.lenv v.i, fun X fa c o => by subst h2; exact c_lenv h v o⟩
          | none => match cA m x [.Name n p2] with
            | some r => some ⟨.blt .len r.ir, fun X fa c o => c_blt h (by subst h2; decide +kernel) r o⟩
            | none => none
        | e, es => match cA m x (e :: es) with
          | some r => some ⟨.blt .len r.ir, fun X fa c o => c_blt h (by subst h2; decide +kernel) r o⟩
          | none => none
      else match hb : bltOf f with
        | some b => match cA m x (e :: es) with
          | some r => some ⟨.blt b r.ir, fun X fa c o => c_blt h hb r o⟩
          | none => none
        | none => none
      else none
  | m + 1, x, .Call (.Attribute (.Name n p) f apos) [] [] pos => if h : f = "pop" then if hl : (apos.endLine == pos.line) = true then match cV x n with
    | some v => some ⟨.mut .pop v.i .nil, fun X fa c o => by subst h; exact c_pop hl v o⟩
    | none => none
    else none else none
  | m + 1, x, .Call (.Attribute (.Name n p) f apos) [a] [] pos => match hm : mthOf f with
    | some mt => if hl : (apos.endLine == pos.line) = true then if ha : nstar a = true then match cV x n, cE m x a with
      | some v, some r => some ⟨.mut mt v.i (.cons r.ir .nil), fun X fa c o => c_mut hm hl ha v r o⟩
      | _, _ => none
      else none else none
    | none => none
  | m + 1, x, .ListComp elt [⟨tg, iter, ifs, 0⟩] scope pos => match cL m x elt tg iter ifs scope with
    | some r => some ⟨r.ir, fun X fa c o => l_ok r o⟩
    | none => none
  | _, _, _ => none
def cL : Nat → (x : Ctx) → (elt tg iter : Expr) → (ifs : List Expr) → (scope : Scope) → Option (OutL x elt tg iter ifs scope)
  | 0, _, _, _, _, _, _ => none
  | m + 1, x, elt, tg, iter, ifs, scope => match cI m x tg iter, cG m (x.blk scope) tg, cIf m (x.blk scope) ifs, cE m (x.blk scope) elt with
    | some i, some g, some t, some e => mkL i g t e
    | _, _, _, _ => none
def cO : Nat → (x : Ctx) → (e : Option Expr) → Option (OutO x e)
  | 0, _, _ => none
  | m + 1, x, none => some ⟨.nil, fun X fa c o => o_none⟩
  | m + 1, x, some e => match cE m x e with
    | some r => some ⟨.prt r.ir, fun X fa c o => o_some (r.ok X fa c o)⟩
    | none => none
def cA : Nat → (x : Ctx) → (es : List Expr) → Option (OutA x es)
  | 0, _, _ => none
  | m + 1, x, [] => some ⟨.nil, fun X fa c o => a_nil, rfl, rfl⟩
  | m + 1, x, e :: es => if h : nstar e = true then match cE m x e, cA m x es with
    | some r, some q => some ⟨.cons r.ir q.ir, fun X fa c o => a_cons (r.ok X fa c o) (q.ok X fa c o) (star_of h _ _), by simp [h, q.ns], by simp [lenC, q.len]⟩
    | _, _ => none
    else none
def cIf : Nat → (x : Ctx) → (es : List Expr) → Option (OutIf x es)
  | 0, _, _ => none
  | m + 1, x, [] => some ⟨.nil, fun X fa c o => pts_yes (x := x)⟩
  | m + 1, x, [e] => match cT m x e with
    | some r => some ⟨r.ir, fun X fa c o => pts_one (r.ok X fa c o)⟩
    | none => none
  | _, _, _ => none
def cT : Nat → (x : Ctx) → (e : Expr) → Option (OutT x e)
  | 0, _, _ => none
  | m + 1, x, .UnaryOp .Not a pos => match cT m x a with
    | some r => some ⟨.not r.ir, fun X fa c o => t_not (r.ok X fa c o)⟩
    | none => none
  | m + 1, x, .BoolOp op es pos => match cW m x (.BoolOp op es pos) with
    | some r => some ⟨r.ir, fun X fa c o => (r.ok X fa c o).pt⟩
    | none => none
  | m + 1, x, .Compare a [op] [b] pos => match hb : cOf op with
    | some co => if hm : behindInMarks op b = false then match cE m x a, cE m x b with
      | some ra, some rb => some ⟨.tru (.cmp co ra.ir rb.ir), fun X fa c o => by rw [cOf_ok hb] at hm ⊢; exact t_cmp o.hu co (ra.ok X fa c o) (rb.ok X fa c o) hm⟩
      | _, _ => none
      else none
    | none => none
  | m + 1, x, .Compare a [op, op2] [b, d] pos => match hb : cOf op, hb2 : cOf op2 with
    | some co, some co2 => if hm : lastMarks [op, op2] [b, d] = false then match cE m x a, cE m x b, cE m x d with
      | some ra, some rb, some rd => some ⟨.tru (.chn co co2 ra.ir rb.ir rd.ir), fun X fa c o => by rw [cOf_ok hb, cOf_ok hb2] at hm ⊢; exact t_chn o.hu co co2 (ra.ok X fa c o) (rb.ok X fa c o) (rd.ok X fa c o) hm⟩
      | _, _, _ => none
      else none
    | _, _ => none
  | m + 1, x, .Name n pos => match cV x n with
    | some v => some ⟨.trv v.i, fun X fa c o => t_trv (v.ok X fa c o pos)⟩
    | none => match cE m x (.Name n pos) with
      | some r => some ⟨.tru r.ir, fun X fa c o => t_tru (r.ok X fa c o) (tst_of rfl _)⟩
      | none => none
  | m + 1, x, e => if h : ntst e = true then match cE m x e with
    | some r => some ⟨.tru r.ir, fun X fa c o => t_tru (r.ok X fa c o) (tst_of h _)⟩
    | none => none
    else none
def cW : Nat → (x : Ctx) → (e : Expr) → Option (OutW x e)
  | 0, _, _ => none
  | m + 1, x, .BoolOp .And [a] pos => match cT m x a with
    | some r => some ⟨r.ir, fun X fa c o => pw_and1 (r.ok X fa c o)⟩
    | none => none
  | m + 1, x, .BoolOp .Or [a] pos => match cT m x a with
    | some r => some ⟨r.ir, fun X fa c o => pw_or1 (r.ok X fa c o)⟩
    | none => none
  | m + 1, x, .BoolOp .And (a :: b :: es) pos => match cT m x a, cW m x (.BoolOp .And (b :: es) pos) with
    | some r, some q => some ⟨.and r.ir q.ir, fun X fa c o => t_and (r.ok X fa c o) (q.ok X fa c o)⟩
    | _, _ => none
  | m + 1, x, .BoolOp .Or (a :: b :: es) pos => match cT m x a, cW m x (.BoolOp .Or (b :: es) pos) with
    | some r, some q => some ⟨.or r.ir q.ir, fun X fa c o => t_or (r.ok X fa c o) (q.ok X fa c o)⟩
    | _, _ => none
  | _, _, _ => none
def cI : Nat → (x : Ctx) → (tg e : Expr) → Option (OutI x tg e)
  | 0, _, _, _ => none
  | m + 1, x, tg, .Call (.Name f p) [a] [] pos => if h : (fr x f && nstar a) = true then if h1 : f = "range" then match cE m x a with
        | some r => some ⟨.rng1 r.ir, fun X fa c o => by subst h1; exact c_rng1 (band1 h) (band2 h) r o⟩
        | none => none
        else cJ m x tg (.Call (.Name f p) [a] [] pos) else cJ m x tg (.Call (.Name f p) [a] [] pos)
  | m + 1, x, tg, .Call (.Name f p) [a, b] [] pos => if h : (fr x f && (nstar a && nstar b)) = true then if h1 : f = "range" then match cE m x a, cE m x b with
        | some r, some q => some ⟨.rng2 r.ir q.ir, fun X fa c o => by subst h1; exact c_rng2 (band1 h) (band1 (band2 h)) (band2 (band2 h)) r q o⟩
        | _, _ => none
        else if h2 : f = "zip" then match tg with
          | .Tuple elts kk tpos => match cE m x a, cE m x b with
            | some r, some q => some ⟨.zip r.ir q.ir, fun X fa c o => by subst h2; exact c_zip (band1 h) (band1 (band2 h)) (band2 (band2 h)) r q o⟩
            | _, _ => none
          | _ => none
        else cJ m x tg (.Call (.Name f p) [a, b] [] pos) else cJ m x tg (.Call (.Name f p) [a, b] [] pos)
  | m + 1, x, tg, e => cJ m x tg e
def cJ : Nat → (x : Ctx) → (tg e : Expr) → Option (OutI x tg e)
  | 0, _, _, _ => none
  | m + 1, x, tg, e => match cE m x e with
    | some r => some ⟨.its r.ir, fun X fa c o => i_its (r.ok X fa c o)⟩
    | none => none
end
end Q
end

section
set_option maxRecDepth 100000
set_option maxHeartbeats 4000000
/-! QCmp3: statements from the text. -/
namespace Q
open PySem PySem.Spec PyProof.Rows L2

structure OkS (X : Cx) (fa : Nat → Option Addr) (c : Env) (x : Ctx) : Prop where
  ok : Ok X fa c x
  hp : PassesOwn (model X.prog X.w) X.A X.env X.xe
theorem OkS.bk {X : Cx} {fa : Nat → Option Addr} {c : Env} {x : Ctx} (o : OkS X fa c x) : X.env.blockKind = .function := by
  unfold PySem.Env.blockKind
  rw [o.ok.kind]; rfl
structure OutS (x : Ctx) (st : Stmt) where
  ir : St
  ok : ∀ X fa c L, OkS X fa c x → PS X st (tS X.K fa c L ir)
structure OutSs (x : Ctx) (st : List Stmt) where
  ir : St
  ok : ∀ X fa c L, OkS X fa c x → PSs X st (tS X.K fa c L ir)
/-! ### a list that is a box -/
section
variable {K : PySem.W.Frag} {fa : Nat → Option Addr} {W F : Hp} {B : List Addr} {s : S} {σ : L2.St} {H : Hp}
theorem Rel.newB {p : Addr} {xs : List D} {vs : List V} (r : Rel K fa W F B s σ H) (n : H p = none) (q : Reps K fa F B xs vs) :
    Stp W F B F (B ++ [p]) ∧ Rel K fa W F (B ++ [p]) { s with box := s.box ++ [xs] } σ (upd H p (.lst vs)) := by
  have st : Stp W F B F (B ++ [p]) := ⟨Ex.refl _, fun _ _ h => .inl h, [p], rfl⟩
  have nw : W p = none := r.ew.free n
  have nf : F p = none := r.ef.free n
  have nb := r.notB n
  refine ⟨st, r.ew.mut nw, r.ef.mut nf, r.len, fun i d h => ?_, r.apart, by simp [r.bl], fun k zs h => ?_, ?_⟩
  · obtain ⟨v, h1, h2⟩ := r.slot i d h
    refine ⟨v, h1, h2.mono st.ex st.bs (fun a o q1 q2 q3 => ?_) (fun _ _ _ z => z) (fun a q1 q2 q3 => ?_)⟩
    · have : a ≠ p := ne_of_none q3 n
      rw [upd_ne this]; exact q3
    · obtain ⟨a', u, b1, b2, _⟩ := h2.own q1
      rw [q2] at b1; cases b1
      have : a ≠ p := ne_of_none b2 n
      simp [q3, this]
  · by_cases c : k < s.box.length
    · have h' : s.box[k]? = some zs := by
        have : (s.box ++ [xs])[k]? = some zs := h
        rw [List.getElem?_append_left c] at this; exact this
      obtain ⟨a, us, b1, b2, b3, b4, b5⟩ := r.bx k zs h'
      have ne : a ≠ p := ne_of_none b2 n
      refine ⟨a, us, ?_, by rw [upd_ne ne]; exact b2, Reps.mono st.ex st.bs _ _ b3, b4, b5⟩
      rw [List.getElem?_append_left (by rw [r.bl]; exact c)]; exact b1
    · have h' : (s.box ++ [xs])[k]? = some zs := h
      have hk : k = s.box.length := by
        have := (List.getElem?_eq_some_iff.mp h').1
        simp at this; omega
      subst hk
      rw [List.getElem?_append_right (Nat.le_refl _), Nat.sub_self] at h'
      cases h'
      refine ⟨p, vs, ?_, upd_same, Reps.mono st.ex st.bs _ _ q, nw, nf⟩
      rw [← r.bl, List.getElem?_append_right (Nat.le_refl _), Nat.sub_self]; rfl
  · rw [List.nodup_append]
    refine ⟨r.bd, by simp, fun a ha b hb => ?_⟩
    simp at hb; subst hb
    exact fun e => nb (e ▸ ha)
end
theorem e_bxl {X : Cx} {fa : Nat → Option Addr} {c : Env} {es : List Expr} {ee : E} {pos : Pos} (h : PA X es (tA X.K fa c ee)) : PE X (.List es pos) (tE X.K fa c (.bxl ee)) :=
  pe_w (pe_lst h) fun σ H Q ⟨W, F, B, s, d, s', r, h, k⟩ => by
    obtain ⟨xs, s1, h1, h⟩ := bnd_inv h
    split at h <;> cases h
    rename_i hl
    refine tA_use r h1 fun F1 B1 H1 vs st1 r1 rs => ⟨by rw [rs.length, line_eq]; exact hl, fun p hp => ?_⟩
    obtain ⟨st2, r2⟩ := r1.newB hp rs
    refine k F1 _ _ _ (st1.trans st2) r2 (RR.of ?_)
    unfold Rep
    exact ⟨p, rfl, by rw [← r1.bl, List.getElem?_append_right (Nat.le_refl _), Nat.sub_self]; rfl⟩
/-! ### how a store is done -/
theorem sw_lc (elt : Expr) (gs : List Comprehension) (scope : Scope) (pos py : Pos) (y : Str) (l : Nat) (env : PySem.Env) : swapsWith (.ListComp elt gs scope pos) (some (.Name y py)) l env =
    pure (env.blockKind == .function && env.kindOf y == some .local && py.line == pos.line && !(scope.names.any fun (n, k) => n == y && (k == .local || k == .cell))) := rfl
theorem sw_no {e : Expr} (h : nlc e = true) (t : Option Expr) (l : Nat) (env : PySem.Env) : swapsWith e t l env = pure false := by
  cases e <;> first | rfl | cases h
theorem sw_tup (e : Expr) (ts : List Expr) (k : Nat) (tp : Pos) (l : Nat) (env : PySem.Env) : swapsWithSole [.Tuple ts k tp] e l env = pure false := by
  cases e <;> rfl
theorem sw_sub (e o i : Expr) (tp : Pos) (l : Nat) (env : PySem.Env) : swapsWithSole [.Subscript o i tp] e l env = pure false := by
  cases e <;> rfl
theorem ss_no {e : Expr} (h : ntup e = true) (t : Expr) (env : PySem.Env) : swappedStores [t] e env = pure none := by
  cases e <;> first | (cases h; done) | (cases t <;> rfl)
theorem ss_sub (e o i : Expr) (tp : Pos) (env : PySem.Env) : swappedStores [.Subscript o i tp] e env = pure none := by
  cases e <;> rfl
def swB (sc : NK) (y : Str) (py lp : Pos) (scope : Scope) : Bool := sc.lookup y == some .local && py.line == lp.line && !(scope.names.any fun (n, k) => n == y && (k == .local || k == .cell))
/-- what is stored in which order: some none: plainly; some names: from the right -/
def nms (sc : NK) (line : Nat) (ts : List Expr) : List Str := ts.filterMap fun
  | .Name id pos => if sc.lookup id == some .local && pos.line == line then some id else none
  | _ => none
def swF (sc : NK) (ts vs : List Expr) : Option (Option (List Str)) :=
  if !(ts.length == 2 || ts.length == 3) || vs.length != ts.length then some none else
  if vs.any (fun e => !nstar e) then some none else
  if (nms sc ((ts.head?.map (·.pos.line)).getD 0) ts).length != ts.length || (nms sc ((ts.head?.map (·.pos.line)).getD 0) ts).eraseDups.length != (nms sc ((ts.head?.map (·.pos.line)).getD 0) ts).length then some none else
  if vs.all (foldedForSure 8) then some none else
  if vs.all (constantsAlone 8) then none else some (some (nms sc ((ts.head?.map (·.pos.line)).getD 0) ts))
def swG (c1 c2 : Bool) (N : List Str) (n : Nat) (f g : Bool) : Sem (Option (List Str)) :=
  if c1 = true then pure none else if c2 = true then pure none else if (N.length != n || N.eraseDups.length != N.length) = true then pure none else if f = true then pure none else
  if g = true then (do unsupported "assign.tuple-of-constant-expressions:order-of-the-stores"; pure (some N)) else pure (some N)
theorem swG_eq (ts vs : List Expr) (env : PySem.Env) (kt k2 : Nat) (pt pt2 : Pos) : swappedStores [.Tuple ts kt pt] (.Tuple vs k2 pt2) env =
    swG (!(ts.length == 2 || ts.length == 3) || vs.length != ts.length || env.blockKind != .function) (vs.any fun | .Starred .. => true | _ => false)
      (ts.filterMap fun | .Name id pos => if env.kindOf id == some .local && pos.line == (ts.head?.map (·.pos.line)).getD 0 then some id else none | _ => none) ts.length (vs.all (foldedForSure 8)) (vs.all (constantsAlone 8)) := by
  rfl
theorem swF_ok {sc : NK} {ts vs : List Expr} {r : Option (List Str)} (h : swF sc ts vs = some r) {env : PySem.Env} (hk : env.blockKind = .function) (hn : ∀ n, env.kindOf n = sc.lookup n) (kt k2 : Nat) (pt pt2 : Pos) :
    swappedStores [.Tuple ts kt pt] (.Tuple vs k2 pt2) env = pure r := by
  have hs : (vs.any fun | .Starred .. => true | _ => false) = vs.any (fun e => !nstar e) := by
    congr 1
    funext e
    cases e <;> rfl
  have hm : (ts.filterMap fun | .Name id pos => if env.kindOf id == some .local && pos.line == (ts.head?.map (·.pos.line)).getD 0 then some id else none | _ => none) = nms sc ((ts.head?.map (·.pos.line)).getD 0) ts := by
    unfold nms
    congr 1
    funext e
    cases e <;> first | rfl | (simp only [hn])
  refine (swG_eq ts vs env kt k2 pt pt2).trans ?_
  have hb : (env.blockKind != ScopeKind.function) = false := by rw [hk]; rfl
  refine (congrArg (fun z => swG (!(ts.length == 2 || ts.length == 3) || vs.length != ts.length || env.blockKind != .function) z _ ts.length (vs.all (foldedForSure 8)) (vs.all (constantsAlone 8))) hs).trans ?_
  refine (congrArg (fun z => swG (!(ts.length == 2 || ts.length == 3) || vs.length != ts.length || env.blockKind != .function) _ z ts.length (vs.all (foldedForSure 8)) (vs.all (constantsAlone 8))) hm).trans ?_
  rw [hb, Bool.or_false]
  unfold swF at h
  unfold swG
  split at h
  · rename_i c; cases h; rw [if_pos c]
  rename_i c; rw [if_neg c]
  split at h
  · rename_i c; cases h; rw [if_pos c]
  rename_i c; rw [if_neg c]
  split at h
  · rename_i c; cases h; rw [if_pos c]
  rename_i c; rw [if_neg c]
  split at h
  · rename_i c; cases h; rw [if_pos c]
  rename_i c; rw [if_neg c]
  split at h
  · cases h
  rename_i c; rw [if_neg c]
  cases h; rfl
theorem lst_asg {t : Expr} (h : nstar t = true) (env : PySem.Env) : (assignEach [t] env).map (·.2) = [assign t env] := by rw [asg_of h]; rfl
theorem asg_sub {o i : Expr} (h : npix i = true) (pos : Pos) (env : PySem.Env) (v : Value) : assign (.Subscript o i pos) env v = (do
      let ov ← holding [v] (eval o env)
      let iv ← holding [v, ov] (eval i env)
      standAt pos
      holding [v, ov, iv] (setItem ov iv v)
      release [v, ov, iv] []) := by
  cases i <;> first | rfl | cases h
/-! ### statements -/
def augOf : Operator → Option BOp
  | .Add => some .add
  | .Sub => some .sub
  | _ => none
theorem c_aug {x : Ctx} {y : Str} {op : Operator} {bo : BOp} {e : Expr} {py pos : Pos} (hb : augOf op = some bo) (v : OutN x y) (r : OutE x e) {X : Cx} {fa : Nat → Option Addr} {c : Env} {L : Nat} (o : Ok X fa c x) :
    PS X (.AugAssign (.Name y py) op e pos) (tS X.K fa c L (.aug v.i bo r.ir)) := by
  have nd : X.N.Nodup := by rw [o.hN]; exact o.nd
  have ix : X.N[v.i]? = some y := by rw [o.hN]; exact v.ix
  cases op <;> cases hb
  · refine s_aug (ps_aug nd ix (lc_ok o v.lc) (r.ok X fa c o) ip_add (fnOf_ok o v.hf)) fun a b z h => ?_
    cases a <;> cases b <;> cases h
    exact ⟨_, _, rfl, rfl, rfl⟩
  · refine s_aug (ps_aug nd ix (lc_ok o v.lc) (r.ok X fa c o) ip_sub (fnOf_ok o v.hf)) fun a b z h => ?_
    cases a <;> cases b <;> cases h
    exact ⟨_, _, rfl, rfl, rfl⟩
theorem c_asv {x : Ctx} {y : Str} {e : Expr} {py pos : Pos} (h : nlc e = true) (v : OutN x y) (r : OutE x e) {X : Cx} {fa : Nat → Option Addr} {c : Env} {L : Nat} (o : Ok X fa c x) :
    PS X (.Assign [.Name y py] e pos) (tS X.K fa c L (.asv v.i r.ir)) :=
  s_asv (ps_set (by rw [o.hN]; exact o.nd) (by rw [o.hN]; exact v.ix) (lc_ok o v.lc) (r.ok X fa c o) (sw_no h _ _ _) (fnOf_ok o v.hf))
theorem c_asvL {x : Ctx} {y : Str} {elt tg iter : Expr} {ifs : List Expr} {scope : Scope} {py lp pos : Pos} (v : OutN x y) (r : OutL x elt tg iter ifs scope) {X : Cx} {fa : Nat → Option Addr} {c : Env} {L : Nat} (o : OkS X fa c x) :
    PS X (.Assign [.Name y py] (.ListComp elt [⟨tg, iter, ifs, 0⟩] scope lp) pos) (tS X.K fa c L (.asv v.i r.ir)) := by
  have nd : X.N.Nodup := by rw [o.ok.hN]; exact o.ok.nd
  have ix : X.N[v.i]? = some y := by rw [o.ok.hN]; exact v.ix
  have e := sw_lc elt [⟨tg, iter, ifs, 0⟩] scope lp py y pos.line X.env
  cases hb : (X.env.blockKind == .function && X.env.kindOf y == some .local && py.line == lp.line && !(scope.names.any fun (n, k) => n == y && (k == .local || k == .cell))) with
  | true =>
    rw [hb] at e
    have hl : X.env.scope.names.lookup y = some .local := by
      simp only [Bool.and_eq_true, beq_iff_eq] at hb
      exact hb.1.1.2
    exact s_asvLc r.hv (ps_setLc o.ok.calm nd ix hl e (r.hi X fa c o.ok) (blk_ok o.ok r.ok) (fun s H C cl fp => r.hg _ fa c (o.ok.blk (blk_kind r.ok) s H C cl fp)) (fun s H C cl fp => r.ht _ fa c (o.ok.blk (blk_kind r.ok) s H C cl fp)) (fun s H C cl fp => r.he _ fa c (o.ok.blk (blk_kind r.ok) s H C cl fp)) (set_of r.hs _))
  | false =>
    rw [hb] at e
    exact s_asv (ps_set nd ix (lc_ok o.ok v.lc) (l_ok r o.ok) e (fnOf_ok o.ok v.hf))
theorem c_asg {x : Ctx} {ts : List Expr} {k : Nat} {tp pos : Pos} {e : Expr} (h : ntup e = true) (g : OutG x (.Tuple ts k tp)) (r : OutE x e) {X : Cx} {fa : Nat → Option Addr} {c : Env} {L : Nat} (o : Ok X fa c x) :
    PS X (.Assign [.Tuple ts k tp] e pos) (tS X.K fa c L (.asg g.ir r.ir)) :=
  s_asg (ps_asg (r.ok X fa c o) (g.ok X fa c o) (sw_tup _ _ _ _ _ _) (ss_no h _ _) (lst_asg rfl _))
theorem c_asgT {x : Ctx} {ts vs : List Expr} {k k2 : Nat} {tp p2 pos : Pos} (h : swF x.sc ts vs = some none) (g : OutG x (.Tuple ts k tp)) (r : OutE x (.Tuple vs k2 p2)) {X : Cx} {fa : Nat → Option Addr} {c : Env} {L : Nat} (o : OkS X fa c x) :
    PS X (.Assign [.Tuple ts k tp] (.Tuple vs k2 p2) pos) (tS X.K fa c L (.asg g.ir r.ir)) :=
  s_asg (ps_asg (r.ok X fa c o.ok) (g.ok X fa c o.ok) (sw_tup _ _ _ _ _ _) (swF_ok h o.bk o.ok.knd _ _ _ _) (lst_asg rfl _))
theorem c_par {x : Ctx} {y z : Str} {a b : Expr} {k k2 : Nat} {py pz tp p2 pos : Pos} (h : swF x.sc [.Name y py, .Name z pz] [a, b] = some (some [y, z])) (hl : (locB x.sc y && locB x.sc z) = true) (hs : (nstar a && nstar b) = true) (v : OutN x y) (w : OutN x z) (hvw : v.i ≠ w.i) (r : OutE x a) (q : OutE x b) {X : Cx} {fa : Nat → Option Addr} {c : Env} {L : Nat} (o : OkS X fa c x) :
    PS X (.Assign [.Tuple [.Name y py, .Name z pz] k tp] (.Tuple [a, b] k2 p2) pos) (tS X.K fa c L (.par v.i w.i r.ir q.ir)) :=
  s_par (ps_par o.ok.calm (by rw [o.ok.hN]; exact o.ok.nd) (by rw [o.ok.hN]; exact v.ix) (by rw [o.ok.hN]; exact w.ix) hvw (loc_ok o.ok (band1 hl)) (loc_ok o.ok (band2 hl)) (pa_cons (r.ok X fa c o.ok) (pa_cons (q.ok X fa c o.ok) pa_nil (star_of (band2 hs) _ _)) (star_of (band1 hs) _ _)) (swF_ok h o.bk o.ok.knd _ _ _ _) (sw_tup _ _ _ _ _ _))
theorem c_set {x : Ctx} {n : Str} {i e : Expr} {p tp pos : Pos} (h : npix i = true) (v : OutV x n) (q : OutE x i) (r : OutE x e) {X : Cx} {fa : Nat → Option Addr} {c : Env} {L : Nat} (o : Ok X fa c x) :
    PS X (.Assign [.Subscript (.Name n p) i tp] e pos) (tS X.K fa c L (.set v.i q.ir r.ir)) :=
  s_set (ps_asg (r.ok X fa c o) (pg_sub (v.ok X fa c o p) (q.ok X fa c o) set_list (asg_sub h _ _)) (sw_sub _ _ _ _ _ _) (ss_sub _ _ _ _ _) (lst_asg rfl _))
mutual
def cS : Nat → (x : Ctx) → (st : Stmt) → Option (OutS x st)
  | 0, _, _ => none
  | m + 1, x, .Assign [.Name y py] (.ListComp elt [⟨tg, iter, ifs, 0⟩] scope lp) pos => match cN x y, cL m x elt tg iter ifs scope with
    | some v, some r => some ⟨.asv v.i r.ir, fun X fa c L o => c_asvL v r o⟩
    | _, _ => none
  | m + 1, x, .Assign [.Name y py] e pos => if h : nlc e = true then match cN x y, cE m x e with
    | some v, some r => some ⟨.asv v.i r.ir, fun X fa c L o => c_asv h v r o.ok⟩
    | _, _ => none
    else none
  | m + 1, x, .Assign [.Tuple [.Name y py, .Name z pz] k tp] (.Tuple [a, b] k2 p2) pos => match h : swF x.sc [.Name y py, .Name z pz] [a, b] with
    | some none => match cG m x (.Tuple [.Name y py, .Name z pz] k tp), cE m x (.Tuple [a, b] k2 p2) with
      | some g, some r => some ⟨.asg g.ir r.ir, fun X fa c L o => c_asgT h g r o⟩
      | _, _ => none
    | some (some l) => if h1 : l = [y, z] then if hl : (locB x.sc y && locB x.sc z) = true then if hs : (nstar a && nstar b) = true then match cN x y, cN x z, cE m x a, cE m x b with
      | some v, some w, some r, some q => if hvw : v.i ≠ w.i then some ⟨.par v.i w.i r.ir q.ir, fun X fa c L o => by subst h1; exact c_par h hl hs v w hvw r q o⟩ else none
      | _, _, _, _ => none
      else none else none else none
    | none => none
  | m + 1, x, .Assign [.Tuple ts k tp] (.Tuple vs k2 p2) pos => match h : swF x.sc ts vs with
    | some none => match cG m x (.Tuple ts k tp), cE m x (.Tuple vs k2 p2) with
      | some g, some r => some ⟨.asg g.ir r.ir, fun X fa c L o => c_asgT h g r o⟩
      | _, _ => none
    | _ => none
  | m + 1, x, .Assign [.Tuple ts k tp] e pos => if h : ntup e = true then match cG m x (.Tuple ts k tp), cE m x e with
    | some g, some r => some ⟨.asg g.ir r.ir, fun X fa c L o => c_asg h g r o.ok⟩
    | _, _ => none
    else none
  | m + 1, x, .Assign [.Subscript (.Name n p) i tp] e pos => if h : npix i = true then match cV x n, cE m x i, cE m x e with
    | some v, some q, some r => some ⟨.set v.i q.ir r.ir, fun X fa c L o => c_set h v q r o.ok⟩
    | _, _, _ => none
    else none
  | m + 1, x, .AugAssign (.Name y py) op e pos => match hb : augOf op with
    | some bo => match cN x y, cE m x e with
      | some v, some r => some ⟨.aug v.i bo r.ir, fun X fa c L o => c_aug hb v r o.ok⟩
      | _, _ => none
    | none => none
  | m + 1, x, .Expr e pos => if h : nlc e = true then match cE m x e with
    | some r => some ⟨.ex r.ir, fun X fa c L o => s_ex (ps_expr (r.ok X fa c o.ok) (sw_no h _ _ _))⟩
    | none => none
    else none
  | m + 1, x, .Return none pos => some ⟨.retN, fun X fa c L o => s_retN⟩
  | m + 1, x, .Return (some (.List es p)) pos => match cA m x es with
    | some r => if x.bx = true then some ⟨.ret (.bxl r.ir), fun X fa c L o => s_ret (e_bxl (r.ok X fa c o.ok))⟩ else some ⟨.ret (.lst r.ir), fun X fa c L o => s_ret (e_lst (r.ok X fa c o.ok))⟩
    | none => none
  | m + 1, x, .Return (some e) pos => match cE m x e with
    | some r => some ⟨.ret r.ir, fun X fa c L o => s_ret (r.ok X fa c o.ok)⟩
    | none => none
  | m + 1, x, .If t as bs pos => match cT m x t, cSs m x as, cSs m x bs with
    | some r, some a, some b => some ⟨.ite r.ir a.ir b.ir, fun X fa c L o => s_ite (r.ok X fa c o.ok) (a.ok X fa c L o) (b.ok X fa c L o)⟩
    | _, _, _ => none
  | m + 1, x, .While t body [] pos => match cT m x t, cSs m x body with
    | some r, some a => some ⟨.whl r.ir a.ir, fun X fa c L o => s_whl o.hp (r.ok X fa c o.ok) (a.ok X fa c L o)⟩
    | _, _ => none
  | m + 1, x, .For tg it body [] pos => if h : nset it = true then match cG m x tg, cI m x tg it, cSs m x body with
    | some g, some i, some a => some ⟨.for g.ir i.ir a.ir, fun X fa c L o => s_for o.hp o.ok.calm (i.ok X fa c o.ok) (g.ok X fa c o.ok) (a.ok X fa c L o) (set_of h _)⟩
    | _, _, _ => none
    else none
  | m + 1, x, .Raise e f pos => some ⟨.rais 0 .nil, fun X fa c L o => s_rais⟩
  | m + 1, x, .Pass pos => some ⟨.pass, fun X fa c L o => s_pass⟩
  | m + 1, x, .Break pos => some ⟨.brk, fun X fa c L o => s_brk⟩
  | m + 1, x, .Continue pos => some ⟨.cnt, fun X fa c L o => s_cnt⟩
  | _, _, _ => none
def cSs : Nat → (x : Ctx) → (st : List Stmt) → Option (OutSs x st)
  | 0, _, _ => none
  | m + 1, x, [] => some ⟨.nil, fun X fa c L o => s_nil⟩
  | m + 1, x, s :: r => match cS m x s, cSs m x r with
    | some a, some b => some ⟨.seq a.ir b.ir, fun X fa c L o => s_seq (a.ok X fa c L o) (b.ok X fa c L o)⟩
    | _, _ => none
end
end Q
end

section
set_option maxRecDepth 100000
set_option maxHeartbeats 4000000
/-! QFn: defs by level; constants; the head's hook; a law's end. -/
namespace Q
open PySem PySem.Spec PyProof.Rows L2

structure QD where
  st : Stmt
  name : Str
  ps : List Str
  N : List Str
  bx : Bool
  ir : St
structure Prg where
  defs : List QD
  gls : List (Str × D)
  bls : List Str
def Prg.fnsT (p : Prg) : List (Str × Nat × Nat) := p.defs.zipIdx.map fun d => (d.1.name, d.2, d.1.ps.length)
def Prg.glsT (p : Prg) : List (Str × Nat) := p.gls.zipIdx.map fun d => (d.1.1, d.2)
def Prg.ctx (fT : List (Str × Nat × Nat)) (gT : List (Str × Nat)) (bls : List Str) (d : QD) : Ctx := ⟨d.N, (defScope d.st).names, none, fT, gT, bls, d.bx⟩
def Prg.tb (p : Prg) (k : Nat) : Option Fn := (p.defs[k]?).map fun d => ⟨d.ps.length, d.N.length, d.ir⟩
def Prg.gb (p : Prg) (k : Nat) : Option D := (p.gls[k]?).map (·.2)
def Prg.dd (d : QD) : He.DefD := ⟨(d.name, none), d.name, d.name, defArgs d.st, defBody d.st, defScope d.st, [], []⟩
def scB (N P : List Str) (sc : Scope) : Bool :=
  decide (sc.kind = .function) && (!sc.isCoroutine && (!sc.isGenerator && (decide N.Nodup && (decide (N.take P.length = P) && (P.all (fun x => lcB sc.names x) && sc.names.all (fun y => !decide (y.2 = .free)))))))
theorem scB_ok {N P : List Str} {sc : Scope} (h : scB N P sc = true) : FnScope N P sc := by
  unfold scB at h
  simp only [Bool.and_eq_true, Bool.not_eq_true', decide_eq_true_eq, List.all_eq_true, decide_eq_false_iff_not] at h
  obtain ⟨h1, h2, h3, h4, h5, h6, h7⟩ := h
  refine ⟨h1, h2, h3, h4, h5, fun x hx => ?_, h7⟩
  have := h6 x hx
  unfold lcB at this
  split at this <;> first | exact .inl ‹_› | exact .inr ‹_› | cases this
/-- what one def must show of its text -/
structure DefOk (fT : List (Str × Nat × Nat)) (gT : List (Str × Nat)) (bls : List Str) (d : QD) : Prop where
  sc : FnScope d.N d.ps (defScope d.st)
  ir : ∃ r, cSs 300 (Prg.ctx fT gT bls d) (defBody d.st) = some r ∧ r.ir = d.ir
  bind : ∀ (kV doc pm : Value) (an : Option Addr) (cdv ct : Value) (us : List Value), us.length = d.ps.length → bindArgs (PySem.W.fnOf d.name d.name (defArgs d.st) (defBody d.st) (defScope d.st) .none kV doc pm an cdv ct) ⟨us, []⟩ = pure (d.ps.zip us)
theorem ir_of {fT : List (Str × Nat × Nat)} {gT : List (Str × Nat)} {bls : List Str} {d : QD} (h : (match cSs 300 (Prg.ctx fT gT bls d) (defBody d.st) with | some r => some r.ir | none => none) = some d.ir) : ∃ r, cSs 300 (Prg.ctx fT gT bls d) (defBody d.st) = some r ∧ r.ir = d.ir := by
  cases q : cSs 300 (Prg.ctx fT gT bls d) (defBody d.st) with
  | none => rw [q] at h; cases h
  | some r => rw [q] at h; exact ⟨r, rfl, Option.some.inj h⟩
/-! ### lists with places -/
theorem zip_look {α : Type} {f : Nat → α → Nat × Nat} : True := trivial
theorem look_fns : ∀ (l : List QD) (n : Nat) (f : Str) (k np : Nat), ((l.zipIdx n).map fun d => (d.1.name, d.2, d.1.ps.length)).lookup f = some (k, np) → ∃ d, n ≤ k ∧ l[k - n]? = some d ∧ d.name = f ∧ d.ps.length = np
  | [], n, f, k, np, h => by simp at h
  | d :: l, n, f, k, np, h => by
    rw [List.zipIdx_cons, List.map_cons, List.lookup_cons] at h
    cases e : (f == d.name) with
    | true =>
      rw [e] at h
      cases h
      exact ⟨d, Nat.le_refl _, by simp, (by simpa using e : f = d.name).symm, rfl⟩
    | false =>
      rw [e] at h
      obtain ⟨d', h1, h2, h3, h4⟩ := look_fns l (n + 1) f k np h
      refine ⟨d', by omega, ?_, h3, h4⟩
      rw [show k - n = (k - (n + 1)) + 1 by omega]
      simpa using h2
theorem look_gls : ∀ (l : List (Str × D)) (n : Nat) (f : Str) (k : Nat), ((l.zipIdx n).map fun d => (d.1.1, d.2)).lookup f = some k → ∃ d, n ≤ k ∧ l[k - n]? = some (f, d)
  | [], n, f, k, h => by simp at h
  | d :: l, n, f, k, h => by
    rw [List.zipIdx_cons, List.map_cons, List.lookup_cons] at h
    cases e : (f == d.1) with
    | true =>
      rw [e] at h
      cases h
      obtain ⟨a, b⟩ := d
      have : f = a := by simpa using e
      subst this
      exact ⟨b, Nat.le_refl _, by simp⟩
    | false =>
      rw [e] at h
      obtain ⟨d', h1, h2⟩ := look_gls l (n + 1) f k h
      refine ⟨d', by omega, ?_⟩
      rw [show k - n = (k - (n + 1)) + 1 by omega]
      simpa using h2
/-! ### a frame's start and end -/
section
variable {K : PySem.W.Frag} {fa : Nat → Option Addr} {W F : Hp} {B : List Addr} {H : Hp}
theorem start_get {f : Fn} {xs : List D} {b : List (List D)} {i : Nat} {d : D} (h : (S.mk (startL f xs) b).get i = some d) : xs[i]? = some d := by
  unfold S.get startL at h
  by_cases c : i < xs.length
  · rw [List.getElem?_append_left (by simpa using c)] at h
    rw [List.getElem?_map] at h
    cases q : xs[i]? with
    | none => rw [q] at h; cases h
    | some x => rw [q] at h; exact h
  · rw [List.getElem?_append_right (by simpa using c)] at h
    rw [List.getElem?_replicate] at h
    split at h <;> cases h
theorem Rel.start {f : Fn} {N : List Str} {xs : List D} {vs : List V} {b : List (List D)} (r : Rel K fa W F B ⟨[], b⟩ [] H) (q : Reps K fa F B xs vs) (hn : f.nn = N.length) : Rel K fa W F B ⟨startL f xs, b⟩ (L2.start N vs) H := by
  have hl := q.length
  refine ⟨r.ew, r.ef, ?_, fun i d h => ?_, fun i j d e v ne hi hj oi oj h1 h2 => ?_, r.bl, r.bx, r.bd⟩
  · show (L2.start N vs).length = (startL f xs).length
    unfold L2.start startL
    simp [hl, hn]
  · have h' := start_get h
    obtain ⟨v, h1, h2⟩ := q.get h'
    refine ⟨v, ?_, SlV.of h2⟩
    have hlt : i < vs.length := (List.getElem?_eq_some_iff.mp h1).1
    unfold L2.start
    rw [List.getElem?_append_left (by simpa using hlt), List.getElem?_map, h1]; rfl
  · have h' := start_get hi
    obtain ⟨v, h1, h2⟩ := q.get h'
    rw [h2.notOwn] at oi; cases oi
theorem Rel.forget {s : S} {σ : L2.St} (r : Rel K fa W F B s σ H) : Rel K fa W F B ⟨[], s.box⟩ [] H :=
  ⟨r.ew, r.ef, rfl, (fun i d h => by rw [get_nil] at h; cases h), (fun i j d e v _ h _ _ _ _ _ => by rw [get_nil] at h; cases h), r.bl, r.bx, r.bd⟩
theorem RR.forget {s : S} {σ : L2.St} {d : D} {v : V} {b : List (List D)} (r : RR K fa W F B s σ H d v) : RR K fa W F B ⟨[], b⟩ [] H d v := ⟨r.1, fun _ i e h => by rw [get_nil] at h; cases h⟩
end
/-! ### all defs, level by level -/
section
variable {P : Program} {w : World} {K : PySem.W.Frag} {mg : Str → Option Value} {base : Heap} {fa : Nat → Option Addr} {L : Nat}
structure Has (p : Prg) (K : PySem.W.Frag) (mg : Str → Option Value) (fa : Nat → Option Addr) : Prop where
  defs : ∀ k d, p.defs[k]? = some d → ∃ a fd, fa k = some a ∧ mg d.name = some (.ref a) ∧ FunD K d.name d.name (defArgs d.st) (defBody d.st) (defScope d.st) [] [] a fd
  gls : ∀ f d, (f, d) ∈ p.gls → ∃ (u : Value) (v : V), mg f = some u ∧ RelV v u ∧ ∀ F B, Rep K fa F B d v
  bls : ∀ f, f ∈ p.bls → mg f = none
theorem fns_ok {p : Prg} (hd : ∀ d, d ∈ p.defs → DefOk p.fnsT p.glsT p.bls d) (hs : Has p K mg fa) : ∀ n k d a fd, p.defs[k]? = some d → fa k = some a → FunD K d.name d.name (defArgs d.st) (defBody d.st) (defScope d.st) [] [] a fd →
    FnOk P w K mg base L2.CX0 n a fd d.ps (spF K fa (callN p.tb p.gb L n) d.ps.length k)
  | 0, k, d, a, fd, hk, ha, F => ⟨fun vs H Q E h => h.1, fun A outer s H args us vs Q E _ _ _ _ h => by
      obtain ⟨_, W, F, B, xs, box, d, box', _, _, h, _⟩ := h
      cases h⟩
  | n + 1, k, d, a, fd, hk, ha, F => by
    have D := hd d (List.mem_of_getElem? hk)
    obtain ⟨r, hr, hi⟩ := D.ir
    refine F.ok D.sc (fun vs H Q E h => h.1) fun cdv A outer s H vs Q E rm h => ⟨tS K fa ⟨callN p.tb p.gb L n, p.gb⟩ L d.ir, PSs.nox ?_, ?_⟩
    · rw [← hi]
      refine r.ok _ fa ⟨callN p.tb p.gb L n, p.gb⟩ L ⟨?_, PassesOwn.never⟩
      refine ⟨D.sc.nd, rfl, rfl, D.sc.kind, rfl, rm.units, rfl, fun f k2 np hf => ?_, fun f k2 hf => ?_, hs.bls⟩
      · obtain ⟨d2, _, h2, h3, h4⟩ := look_fns p.defs 0 f k2 np hf
        rw [Nat.sub_zero] at h2
        obtain ⟨a2, fd2, q1, q2, F2⟩ := hs.defs k2 d2 h2
        subst h3 h4
        have D2 := hd d2 (List.mem_of_getElem? h2)
        exact ⟨a2, fd2, n, d2.ps, q2, q1, F2.kp, fns_ok hd hs n k2 d2 a2 fd2 h2 q1 F2, rm, F2.bindsN D2.bind⟩
      · obtain ⟨d2, _, h2⟩ := look_gls p.gls 0 f k2 hf
        rw [Nat.sub_zero] at h2
        obtain ⟨u, v, q1, q2, q3⟩ := hs.gls f d2 (List.mem_of_getElem? h2)
        exact ⟨u, v, d2, q1, q2, by show p.gb k2 = some d2; unfold Prg.gb; rw [h2]; rfl, q3⟩
    · obtain ⟨hl, W, F1, B, xs, box, d1, box', r1, rx, hc, hW, kk⟩ := h
      have hc' : callN p.tb p.gb L (n + 1) k xs box = .ok d1 box' := hc
      unfold callN at hc'
      have ht : p.tb k = some ⟨d.ps.length, d.N.length, d.ir⟩ := by unfold Prg.tb; rw [hk]; rfl
      rw [ht] at hc'
      replace hc' : runF ⟨callN p.tb p.gb L n, p.gb⟩ L ⟨d.ps.length, d.N.length, d.ir⟩ xs box = .ok d1 box' := hc'
      unfold runF at hc'
      split at hc'
      case isFalse => cases hc'
      have r2 := r1.start (f := ⟨d.ps.length, d.N.length, d.ir⟩) (N := d.N) rx rfl
      revert hc'
      generalize hev : evS ⟨callN p.tb p.gb L n, p.gb⟩ L d.ir ⟨startL ⟨d.ps.length, d.N.length, d.ir⟩ xs, box⟩ = ev
      intro hc'
      cases ev with
      | bad => cases hc'
      | exc e s => cases hc'
      | ok fl s1 =>
        cases fl with
        | nx =>
          cases hc'
          exact tS_use r2 hev fun F' B' σ' H' st r' => kk F' B' H' .non st r'.forget (RR.of of_non)
        | rt d0 =>
          cases hc'
          exact tS_use r2 hev fun F' B' σ' H' st r' v rr => kk F' B' H' v st r'.forget rr.forget
        | bk => cases hc'
        | ct => cases hc'
end
/-! ### constants -/
mutual
def repC (K : PySem.W.Frag) : Nat → D → Value → Bool
  | 0, _, _ => false
  | _ + 1, .non, .none => true
  | _ + 1, .bl a, .bool b => decide (a = b)
  | _ + 1, .int i, .int j _ => decide (i = j)
  | _ + 1, .str x, .str y _ => decide (x = y)
  | n + 1, .tup ds, .ref a => match K.lookup a with
    | some ⟨.type c, _, .seq its _, _⟩ => decide (c = "tuple") && (decide (its.size ≤ sizeLine) && repCs K n ds its.toList)
    | _ => false
  | _, _, _ => false
def repCs (K : PySem.W.Frag) : Nat → List D → List Value → Bool
  | 0, _, _ => false
  | _ + 1, [], [] => true
  | n + 1, d :: ds, u :: us => repC K n d u && repCs K n ds us
  | _, _, _ => false
end
section
variable {K : PySem.W.Frag} {fa : Nat → Option Addr} {F : Hp} {B : List Addr}
mutual
theorem repC_ok : ∀ (n : Nat) (d : D) (u : Value), repC K n d u = true → ∃ v, RelV v u ∧ ∀ fa F B, Rep K fa F B d v
  | 0, d, u, h => by unfold repC at h; cases h
  | n + 1, .non, u, h => by
    cases u <;> first | (unfold repC at h; cases h; done) | skip
    exact ⟨.non, rfl, fun _ _ _ => of_non⟩
  | n + 1, .bl a, u, h => by
    cases u <;> first | (unfold repC at h; cases h; done) | skip
    unfold repC at h
    have := of_decide_eq_true h
    subst this
    exact ⟨.bl a, rfl, fun _ _ _ => of_bl _⟩
  | n + 1, .int a, u, h => by
    cases u <;> first | (unfold repC at h; cases h; done) | skip
    unfold repC at h
    have := of_decide_eq_true h
    subst this
    exact ⟨.int a, ⟨_, rfl⟩, fun _ _ _ => of_int _⟩
  | n + 1, .str a, u, h => by
    cases u <;> first | (unfold repC at h; cases h; done) | skip
    unfold repC at h
    have := of_decide_eq_true h
    subst this
    exact ⟨.str a, ⟨_, rfl⟩, fun _ _ _ => of_str _⟩
  | n + 1, .tup ds, u, h => by
    cases u <;> first | (unfold repC at h; cases h; done) | skip
    rename_i a
    unfold repC at h
    split at h
    · rename_i c dd its m sl hk
      obtain ⟨h1, h2⟩ := He.ba h
      obtain ⟨h3, h4⟩ := He.ba h2
      obtain ⟨vs, r1, r2⟩ := repCs_ok n ds its.toList h4
      refine ⟨.ref a, rfl, fun fa F B => ?_⟩
      unfold Rep
      exact ⟨a, vs, rfl, .inr ⟨_, its, m, hk, congrArg Value.type (of_decide_eq_true h1), rfl, of_decide_eq_true h3, r1⟩, r2 fa F B⟩
    · cases h
  | n + 1, .lst _, u, h => by cases u <;> (unfold repC at h; cases h)
  | n + 1, .dic _, u, h => by cases u <;> (unfold repC at h; cases h)
  | n + 1, .own _, u, h => by cases u <;> (unfold repC at h; cases h)
  | n + 1, .odc _, u, h => by cases u <;> (unfold repC at h; cases h)
  | n + 1, .scr _, u, h => by cases u <;> (unfold repC at h; cases h)
  | n + 1, .box _, u, h => by cases u <;> (unfold repC at h; cases h)
  | n + 1, .fn _, u, h => by cases u <;> (unfold repC at h; cases h)
theorem repCs_ok : ∀ (n : Nat) (ds : List D) (us : List Value), repCs K n ds us = true → ∃ vs, Vals vs us ∧ ∀ fa F B, Reps K fa F B ds vs
  | 0, ds, us, h => by unfold repCs at h; cases h
  | n + 1, [], us, h => by
    cases us <;> first | (unfold repCs at h; cases h; done) | skip
    exact ⟨[], .nil, fun _ _ _ => Reps.nil⟩
  | n + 1, d :: ds, us, h => by
    cases us <;> first | (unfold repCs at h; cases h; done) | skip
    unfold repCs at h
    obtain ⟨h1, h2⟩ := He.ba h
    obtain ⟨v, r1, r2⟩ := repC_ok n d _ h1
    obtain ⟨vs, r3, r4⟩ := repCs_ok n ds _ h2
    exact ⟨v :: vs, .cons r1 r3, fun fa F B => .cons (r2 fa F B) (r4 fa F B)⟩
end
end
def glC (K : PySem.W.Frag) (g : Str × D) : Bool := match PySem.W.nsIn K mainGlobals g.1 with
  | some (some u) => repC K 20 g.2 u
  | _ => false
/-! ### the head -/
def Prg.fas (p : Prg) : List He.Fa := p.defs.map (fun d => He.Fa.glo d.name) ++ p.bls.map He.Fa.free
def Prg.fns (p : Prg) : List He.DefD := p.defs.map Prg.dd
abbrev AlQ : Type := He.AlD × Bool
def obsQ (m : Nat) (p : Prg) (g : Addr → Option Obj) : AlQ := (He.obsDG m p.fas p.fns g, p.gls.all (glC (He.frG g (He.asD g m))))
def valQ (p : Prg) : AlQ := (He.valD p.fns, true)
def hookQ (m : Nat) (p : Prg) : PySem.W.Hook where
  α := AlQ
  obs := fun s => obsQ m p s.heap.get?
  val := fun _ => valQ p
  says := fun _ h => ∃ K : PySem.W.Frag, K.In h ∧ He.SaysD p.fas p.fns K ∧ p.gls.all (glC K) = true
  of := fun _ _ e => ⟨_, He.frG_in, congrArg Prod.fst e, congrArg Prod.snd e⟩
  keeps := fun _ _ _ ⟨K, hK, c⟩ k => ⟨K, PySem.W.Frag.In.keeps hK k, c⟩
theorem obsQ_eq {m : Nat} {p : Prg} {g : Addr → Option Obj} {s : Shared} (h : ∀ a, g a = s.heap.get? a) : obsQ m p g = (hookQ m p).obs s := by
  have e : g = s.heap.get? := funext h
  rw [e] <;> rfl
def faQ (p : Prg) (K : PySem.W.Frag) (k : Nat) : Option Addr := (p.defs[k]?).map fun d => He.ga K d.name
theorem has_of {p : Prg} {K : PySem.W.Frag} {h : Heap} {mg : Str → Option Value} (X : K.In h) (G : h.Ns mainGlobals mg) (c : He.SaysD p.fas p.fns K) (cg : p.gls.all (glC K) = true) : Has p K mg (faQ p K) where
  defs := fun k d hk => by
    have h1 : p.fas[k]? = some (He.Fa.glo d.name) := by
      unfold Prg.fas
      have hl : k < p.defs.length := (List.getElem?_eq_some_iff.mp hk).1
      rw [List.getElem?_append_left (by simpa using hl), List.getElem?_map, hk]; rfl
    have h2 : p.fns[k]? = some (Prg.dd d) := by unfold Prg.fns; rw [List.getElem?_map, hk]; rfl
    obtain ⟨fd, F⟩ := c.def_ k h2
    exact ⟨He.ga K d.name, fd, by unfold faQ; rw [hk]; rfl, He.glo_ok X G (c.fact k h1), F⟩
  gls := fun f d hf => by
    have h1 := List.all_eq_true.mp cg _ hf
    unfold glC at h1
    split at h1
    · rename_i u hu
      obtain ⟨v, r1, r2⟩ := repC_ok 20 d u h1
      exact ⟨u, v, PySem.W.mg_of X G hu, r1, r2 _⟩
    · cases h1
  bls := fun f hf => by
    obtain ⟨i, hi⟩ := List.getElem?_of_mem hf
    have h1 : p.fas[p.defs.length + i]? = some (He.Fa.free f) := by
      unfold Prg.fas
      rw [List.getElem?_append_right (by simp), List.getElem?_map, List.length_map, Nat.add_sub_cancel_left, hi]; rfl
    exact He.free_ok X G (c.fact _ h1)
theorem law_F {p : Prg} {m n kl : Nat} {d : QD} (hd : ∀ d, d ∈ p.defs → DefOk p.fnsT p.glsT p.bls d) (hk : p.defs[kl]? = some d) (hps : d.ps = [("script" : Str)]) (hlaw : ∀ ns : List Int, ns.length ≤ 63 → ∃ L b, callN p.tb p.gb L n kl [.scr ns] [] = .ok (.bl true) b)
    {P : Program} {w : World} {mg : Str → Option Value} {fa : Addr} {h : Heap} (Y : (hookQ m p).says w h) (G : h.Ns mainGlobals mg) (hf : mg d.name = some (.ref fa)) :
    ∃ (K : PySem.W.Frag) (fd : FuncData) (sp : Sp), K.In h ∧ (∀ (s : Shared) (u : Value), BindsTo s fd ⟨[u], []⟩ [(("script" : Str), u)]) ∧
        (∀ (H : Hp) (a : Addr) (ns : List Int), ns.length ≤ 63 → Only H → SqL K H a (ns.map V.int) → sp [.ref a] H (fun v _ => v = .bl true) fun _ _ _ => False) ∧
        ∀ base : Heap, K.In base → base.Ns mainGlobals mg → FnOk P w K mg base L2.CX0 n fa fd [("script" : Str)] sp := by
  obtain ⟨K, KX, c, cg⟩ := Y
  have hs := has_of KX G c cg
  obtain ⟨a, fd, q1, q2, F⟩ := hs.defs kl d hk
  rw [hf] at q2; cases q2
  have D := hd d (List.mem_of_getElem? hk)
  refine ⟨K, fd, fun vs H Q E => ∃ L, spF K (faQ p K) (callN p.tb p.gb L n) 1 kl vs H Q E, KX, fun s u => ?_, fun H a ns hl hO hS => ?_, fun base hb hg => ?_⟩
  · have hb := D.bind
    rw [hps] at hb
    exact F.bindsA hb s [u] rfl
  · obtain ⟨L, b, hc⟩ := hlaw ns hl
    refine ⟨L, rfl, H, H, [], [.scr ns], [], .bl true, b, ⟨Ex.refl _, Ex.refl _, rfl, (fun i d h => by rw [get_nil] at h; cases h), (fun i j d e v _ h _ _ _ _ _ => by rw [get_nil] at h; cases h), rfl, (fun k xs h => by cases h), List.nodup_nil⟩, .one ?_, hc, fun _ _ e _ => e, fun F' B' H' v st r rr => rep_bl (rr.rep rfl)⟩
    unfold Rep
    exact ⟨a, rfl, hS⟩
  · have ok := fun L => fns_ok (P := P) (w := w) (base := base) (L := L) hd hs n kl d fa fd hk q1 F
    rw [hps] at ok
    exact ⟨fun vs H Q E ⟨L, z⟩ => (ok L).len vs H Q E z, fun A outer s H args us vs Q E hr he hb hv ⟨L, z⟩ => (ok L).run A outer s H args us vs Q E hr he hb hv z⟩
end Q
end

section
set_option maxRecDepth 100000
set_option maxHeartbeats 0
namespace Q.K46
open PySem PySem.Spec PyProof.Rows L2
abbrev top (i : Nat) : Stmt := PySem.Challenge.pw_everysample_k46_whole_sheets_laid_over.main.body.getD i (.Pass ⟨0, 0, 0, 0⟩)
def fT : List (Str × Nat × Nat) := [(("is_integer" : Str), 0, 1), (("is_within" : Str), 1, 3), (("is_sized" : Str), 2, 3), (("common" : Str), 3, 2), (("share" : Str), 4, 2), (("is_share" : Str), 5, 1), (("plus" : Str), 6, 2), (("minus" : Str), 7, 2), (("times" : Str), 8, 2), (("is_less" : Str), 9, 2), (("is_in_one" : Str), 10, 1), (("is_depth" : Str), 11, 1), (("is_fragment" : Str), 12, 1), (("is_ahead" : Str), 13, 2), (("is_full" : Str), 14, 1), (("are_layers" : Str), 15, 1), (("check_layers" : Str), 16, 1), (("is_ground" : Str), 17, 1), (("check_ground" : Str), 18, 1), (("added" : Str), 19, 3), (("raw_sheet" : Str), 20, 1), (("seen_through" : Str), 21, 2), (("is_sheet" : Str), 22, 1), (("check_sheet" : Str), 23, 1), (("sheet_of" : Str), 24, 1), (("laid_over" : Str), 25, 2), (("sheet_on" : Str), 26, 2), (("_law_hand" : Str), 27, 1), (("_law_draw" : Str), 28, 2), (("_law_some" : Str), 29, 2), (("_law_is_number" : Str), 30, 1), (("_law_low" : Str), 31, 2), (("_law_plus" : Str), 32, 2), (("_law_minus" : Str), 33, 2), (("_law_times" : Str), 34, 2), (("_law_less" : Str), 35, 2), (("_law_sum" : Str), 36, 1), (("_law_fragment" : Str), 37, 1), (("_law_ahead" : Str), 38, 2), (("_law_put" : Str), 39, 2), (("_law_all_put" : Str), 40, 1), (("_law_weights" : Str), 41, 1), (("_law_seen" : Str), 42, 2), (("_law_ground" : Str), 43, 1), (("_law_deep" : Str), 44, 1), (("_law_odd" : Str), 45, 1), (("_law_is" : Str), 46, 2), (("_law_sheet" : Str), 47, 1), (("_law_over_one" : Str), 48, 2), (("_law_is_sheet" : Str), 49, 1), (("law" : Str), 50, 1)]
def gT : List (Str × Nat) := [(("ZERO" : Str), 0), (("ONE" : Str), 1), (("MOST_NUMBER" : Str), 2), (("DARK" : Str), 3)]
def bT : List Str := [("len" : Str), ("abs" : Str), ("int" : Str), ("any" : Str), ("all" : Str), ("tuple" : Str), ("list" : Str), ("isinstance" : Str), ("range" : Str), ("zip" : Str), ("bool" : Str), ("str" : Str), ("dict" : Str)]
/-- is_integer(thing); slots: thing -/
def i0 : St := (.seq (.ret (.and (.isi (.var 0) [.int]) (.not (.isi (.var 0) [.bool])))) .nil)
def q0 : QD := ⟨top 1, "is_integer", [("thing" : Str)], [("thing" : Str)], false, i0⟩
/-- is_within(thing, low, high); slots: thing, low, high -/
def i1 : St := (.seq (.ret (.and (.call 0 (.cons (.var 0) .nil)) (.chn .le .le (.var 1) (.var 0) (.var 2)))) .nil)
def q1 : QD := ⟨top 2, "is_within", [("thing" : Str), ("low" : Str), ("high" : Str)], [("thing" : Str), ("low" : Str), ("high" : Str)], false, i1⟩
/-- is_sized(thing, low, high); slots: thing, low, high -/
def i2 : St := (.seq (.ret (.and (.isi (.var 0) [.tuple]) (.chn .le .le (.var 1) (.lenv 0) (.var 2)))) .nil)
def q2 : QD := ⟨top 3, "is_sized", [("thing" : Str), ("low" : Str), ("high" : Str)], [("thing" : Str), ("low" : Str), ("high" : Str)], false, i2⟩
/-- common(one, other); slots: one, other -/
def i3 : St := (.seq (.whl (.tru (.cmp .ne (.var 1) (.cst (.int 0)))) (.seq (.par 0 1 (.var 1) (.bin .mod (.var 0) (.var 1))) .nil)) (.seq (.ret (.blt .abs (.cons (.var 0) .nil))) .nil))
def q3 : QD := ⟨top 12, "common", [("one" : Str), ("other" : Str)], [("one" : Str), ("other" : Str)], false, i3⟩
/-- share(top, bottom); slots: top, bottom, divisor -/
def i4 : St := (.seq (.asv 2 (.call 3 (.cons (.var 0) (.cons (.var 1) .nil)))) (.seq (.asv 2 (.ite (.tru (.cmp .gt (.var 1) (.cst (.int 0)))) (.var 2) (.bin .sub (.cst (.int 0)) (.var 2)))) (.seq (.ret (.tup (.cons (.bin .fdiv (.var 0) (.var 2)) (.cons (.bin .fdiv (.var 1) (.var 2)) .nil)))) .nil)))
def q4 : QD := ⟨top 13, "share", [("top" : Str), ("bottom" : Str)], [("top" : Str), ("bottom" : Str), ("divisor" : Str)], false, i4⟩
/-- is_share(thing); slots: thing, one -/
def i5 : St := (.seq (.ite (.or (.not (.tru (.call 2 (.cons (.var 0) (.cons (.cst (.int 2)) (.cons (.cst (.int 2)) .nil)))))) (.not (.tru (.blt .all (.cons (.lc (.call 0 (.cons (.var 1) .nil)) (.var 1) (.its (.var 0)) .nil [1]) .nil))))) (.seq (.ret (.cst (.bl false))) .nil) .nil) (.seq (.ret (.and (.cmp .gt (.ixv 0 (.cst (.int 1))) (.cst (.int 0))) (.cmp .eq (.call 3 (.cons (.ixv 0 (.cst (.int 0))) (.cons (.ixv 0 (.cst (.int 1))) .nil))) (.cst (.int 1))))) .nil))
def q5 : QD := ⟨top 14, "is_share", [("thing" : Str)], [("thing" : Str), ("one" : Str)], false, i5⟩
/-- plus(one, other); slots: one, other -/
def i6 : St := (.seq (.ret (.call 4 (.cons (.bin .add (.bin .mul (.ixv 0 (.cst (.int 0))) (.ixv 1 (.cst (.int 1)))) (.bin .mul (.ixv 1 (.cst (.int 0))) (.ixv 0 (.cst (.int 1))))) (.cons (.bin .mul (.ixv 0 (.cst (.int 1))) (.ixv 1 (.cst (.int 1)))) .nil)))) .nil)
def q6 : QD := ⟨top 15, "plus", [("one" : Str), ("other" : Str)], [("one" : Str), ("other" : Str)], false, i6⟩
/-- minus(one, other); slots: one, other -/
def i7 : St := (.seq (.ret (.call 4 (.cons (.bin .sub (.bin .mul (.ixv 0 (.cst (.int 0))) (.ixv 1 (.cst (.int 1)))) (.bin .mul (.ixv 1 (.cst (.int 0))) (.ixv 0 (.cst (.int 1))))) (.cons (.bin .mul (.ixv 0 (.cst (.int 1))) (.ixv 1 (.cst (.int 1)))) .nil)))) .nil)
def q7 : QD := ⟨top 16, "minus", [("one" : Str), ("other" : Str)], [("one" : Str), ("other" : Str)], false, i7⟩
/-- times(one, other); slots: one, other -/
def i8 : St := (.seq (.ret (.call 4 (.cons (.bin .mul (.ixv 0 (.cst (.int 0))) (.ixv 1 (.cst (.int 0)))) (.cons (.bin .mul (.ixv 0 (.cst (.int 1))) (.ixv 1 (.cst (.int 1)))) .nil)))) .nil)
def q8 : QD := ⟨top 17, "times", [("one" : Str), ("other" : Str)], [("one" : Str), ("other" : Str)], false, i8⟩
/-- is_less(one, other); slots: one, other -/
def i9 : St := (.seq (.ret (.cmp .lt (.bin .mul (.ixv 0 (.cst (.int 0))) (.ixv 1 (.cst (.int 1)))) (.bin .mul (.ixv 1 (.cst (.int 0))) (.ixv 0 (.cst (.int 1)))))) .nil)
def q9 : QD := ⟨top 18, "is_less", [("one" : Str), ("other" : Str)], [("one" : Str), ("other" : Str)], false, i9⟩
/-- is_in_one(thing); slots: thing -/
def i10 : St := (.seq (.ret (.and (.call 5 (.cons (.var 0) .nil)) (.chn .le .le (.cst (.int 0)) (.ixv 0 (.cst (.int 0))) (.ixv 0 (.cst (.int 1)))))) .nil)
def q10 : QD := ⟨top 22, "is_in_one", [("thing" : Str)], [("thing" : Str)], false, i10⟩
/-- is_depth(thing); slots: thing -/
def i11 : St := (.seq (.ret (.and (.call 5 (.cons (.var 0) .nil)) (.cmp .gt (.ixv 0 (.cst (.int 0))) (.cst (.int 0))))) .nil)
def q11 : QD := ⟨top 23, "is_depth", [("thing" : Str)], [("thing" : Str)], false, i11⟩
/-- is_fragment(thing); slots: thing, one -/
def i12 : St := (.seq (.ite (.or (.not (.tru (.call 2 (.cons (.var 0) (.cons (.cst (.int 3)) (.cons (.cst (.int 3)) .nil)))))) (.or (.not (.tru (.call 11 (.cons (.ixv 0 (.cst (.int 0))) .nil)))) (.not (.tru (.call 1 (.cons (.ixv 0 (.cst (.int 1))) (.cons (.cst (.int 0)) (.cons (.glb 2) .nil)))))))) (.seq (.ret (.cst (.bl false))) .nil) .nil) (.seq (.ret (.and (.call 2 (.cons (.ixv 0 (.cst (.int 2))) (.cons (.cst (.int 4)) (.cons (.cst (.int 4)) .nil)))) (.blt .all (.cons (.lc (.call 10 (.cons (.var 1) .nil)) (.var 1) (.its (.ixv 0 (.cst (.int 2)))) .nil [1]) .nil)))) .nil))
def q12 : QD := ⟨top 24, "is_fragment", [("thing" : Str)], [("thing" : Str), ("one" : Str)], false, i12⟩
/-- is_ahead(one, other); slots: one, other -/
def i13 : St := (.seq (.ret (.or (.call 9 (.cons (.ixv 0 (.cst (.int 0))) (.cons (.ixv 1 (.cst (.int 0))) .nil))) (.and (.cmp .eq (.ixv 0 (.cst (.int 0))) (.ixv 1 (.cst (.int 0)))) (.cmp .lt (.ixv 0 (.cst (.int 1))) (.ixv 1 (.cst (.int 1))))))) .nil)
def q13 : QD := ⟨top 25, "is_ahead", [("one" : Str), ("other" : Str)], [("one" : Str), ("other" : Str)], false, i13⟩
/-- is_full(fragment); slots: fragment -/
def i14 : St := (.seq (.ret (.cmp .eq (.idx (.ixv 0 (.cst (.int 2))) (.cst (.int 3))) (.glb 1))) .nil)
def q14 : QD := ⟨top 26, "is_full", [("fragment" : Str)], [("fragment" : Str)], false, i14⟩
/-- are_layers(thing); slots: thing, one, other -/
def i15 : St := (.seq (.ite (.or (.not (.tru (.isi (.var 0) [.tuple]))) (.not (.tru (.blt .all (.cons (.lc (.call 12 (.cons (.var 1) .nil)) (.var 1) (.its (.var 0)) .nil [1]) .nil))))) (.seq (.ret (.cst (.bl false))) .nil) .nil) (.seq (.ite (.tru (.blt .any (.cons (.lc (.call 14 (.cons (.var 1) .nil)) (.var 1) (.its (.slv 0 .nil (.prt (.neg (.cst (.int 1)))))) .nil [1]) .nil))) (.seq (.ret (.cst (.bl false))) .nil) .nil) (.seq (.ret (.blt .all (.cons (.lc (.call 13 (.cons (.var 1) (.cons (.var 2) .nil))) (.tup (.cons (.var 1) (.cons (.var 2) .nil))) (.zip (.var 0) (.slv 0 (.prt (.cst (.int 1))) .nil)) .nil [1, 2]) .nil))) .nil)))
def q15 : QD := ⟨top 27, "are_layers", [("thing" : Str)], [("thing" : Str), ("one" : Str), ("other" : Str)], false, i15⟩
/-- check_layers(layers); slots: layers -/
def i16 : St := (.seq (.ite (.not (.tru (.call 15 (.cons (.var 0) .nil)))) (.seq (.rais 0 .nil) .nil) .nil) .nil)
def q16 : QD := ⟨top 28, "check_layers", [("layers" : Str)], [("layers" : Str)], false, i16⟩
/-- is_ground(thing); slots: thing, one -/
def i17 : St := (.seq (.ret (.and (.call 2 (.cons (.var 0) (.cons (.cst (.int 3)) (.cons (.cst (.int 3)) .nil)))) (.blt .all (.cons (.lc (.call 10 (.cons (.var 1) .nil)) (.var 1) (.its (.var 0)) .nil [1]) .nil)))) .nil)
def q17 : QD := ⟨top 29, "is_ground", [("thing" : Str)], [("thing" : Str), ("one" : Str)], false, i17⟩
/-- check_ground(ground); slots: ground -/
def i18 : St := (.seq (.ite (.not (.tru (.call 17 (.cons (.var 0) .nil)))) (.seq (.rais 0 .nil) .nil) .nil) .nil)
def q18 : QD := ⟨top 30, "check_ground", [("ground" : Str)], [("ground" : Str)], false, i18⟩
/-- added(colour, other, weight); slots: colour, other, weight, one, more -/
def i19 : St := (.seq (.ret (.blt .tuple (.cons (.lc (.call 6 (.cons (.var 3) (.cons (.call 8 (.cons (.var 2) (.cons (.var 4) .nil))) .nil))) (.tup (.cons (.var 3) (.cons (.var 4) .nil))) (.zip (.var 0) (.var 1)) .nil [3, 4]) .nil))) .nil)
def q19 : QD := ⟨top 31, "added", [("colour" : Str), ("other" : Str), ("weight" : Str)], [("colour" : Str), ("other" : Str), ("weight" : Str), ("one" : Str), ("more" : Str)], false, i19⟩
/-- raw_sheet(layers); slots: layers, colour, left, depth, number, rgba -/
def i20 : St := (.seq (.par 1 2 (.glb 3) (.glb 1)) (.seq (.for (.tup (.cons (.var 3) (.cons (.var 4) (.cons (.var 5) .nil)))) (.its (.var 0)) (.seq (.asv 1 (.call 19 (.cons (.var 1) (.cons (.slv 5 .nil (.prt (.cst (.int 3)))) (.cons (.call 8 (.cons (.var 2) (.cons (.ixv 5 (.cst (.int 3))) .nil))) .nil))))) (.seq (.asv 2 (.call 8 (.cons (.var 2) (.cons (.call 7 (.cons (.glb 1) (.cons (.ixv 5 (.cst (.int 3))) .nil))) .nil)))) .nil))) (.seq (.ret (.tup (.cons (.var 1) (.cons (.var 2) .nil)))) .nil)))
def q20 : QD := ⟨top 32, "raw_sheet", [("layers" : Str)], [("layers" : Str), ("colour" : Str), ("left" : Str), ("depth" : Str), ("number" : Str), ("rgba" : Str)], false, i20⟩
/-- seen_through(layers, ground); slots: layers, ground, colour, left -/
def i21 : St := (.seq (.ex (.call 16 (.cons (.var 0) .nil))) (.seq (.ex (.call 18 (.cons (.var 1) .nil))) (.seq (.asg (.tup (.cons (.var 2) (.cons (.var 3) .nil))) (.call 20 (.cons (.var 0) .nil))) (.seq (.ret (.call 19 (.cons (.var 2) (.cons (.var 1) (.cons (.var 3) .nil))))) .nil))))
def q21 : QD := ⟨top 33, "seen_through", [("layers" : Str), ("ground" : Str)], [("layers" : Str), ("ground" : Str), ("colour" : Str), ("left" : Str)], false, i21⟩
/-- is_sheet(thing); slots: thing, one -/
def i22 : St := (.seq (.ite (.or (.not (.tru (.call 2 (.cons (.var 0) (.cons (.cst (.int 2)) (.cons (.cst (.int 2)) .nil)))))) (.or (.not (.tru (.call 10 (.cons (.ixv 0 (.cst (.int 1))) .nil)))) (.not (.tru (.call 2 (.cons (.ixv 0 (.cst (.int 0))) (.cons (.cst (.int 3)) (.cons (.cst (.int 3)) .nil)))))))) (.seq (.ret (.cst (.bl false))) .nil) .nil) (.seq (.ret (.blt .all (.cons (.lc (.and (.call 5 (.cons (.var 1) .nil)) (.cmp .ge (.ixv 1 (.cst (.int 0))) (.cst (.int 0)))) (.var 1) (.its (.ixv 0 (.cst (.int 0)))) .nil [1]) .nil))) .nil))
def q22 : QD := ⟨top 34, "is_sheet", [("thing" : Str)], [("thing" : Str), ("one" : Str)], false, i22⟩
/-- check_sheet(sheet); slots: sheet -/
def i23 : St := (.seq (.ite (.not (.tru (.call 22 (.cons (.var 0) .nil)))) (.seq (.rais 0 .nil) .nil) .nil) .nil)
def q23 : QD := ⟨top 35, "check_sheet", [("sheet" : Str)], [("sheet" : Str)], false, i23⟩
/-- sheet_of(layers); slots: layers -/
def i24 : St := (.seq (.ex (.call 16 (.cons (.var 0) .nil))) (.seq (.ret (.call 20 (.cons (.var 0) .nil))) .nil))
def q24 : QD := ⟨top 36, "sheet_of", [("layers" : Str)], [("layers" : Str)], false, i24⟩
/-- laid_over(one, other); slots: one, other -/
def i25 : St := (.seq (.ex (.call 23 (.cons (.var 0) .nil))) (.seq (.ex (.call 23 (.cons (.var 1) .nil))) (.seq (.ret (.tup (.cons (.call 19 (.cons (.ixv 0 (.cst (.int 0))) (.cons (.ixv 1 (.cst (.int 0))) (.cons (.ixv 0 (.cst (.int 1))) .nil)))) (.cons (.call 8 (.cons (.ixv 0 (.cst (.int 1))) (.cons (.ixv 1 (.cst (.int 1))) .nil))) .nil)))) .nil)))
def q25 : QD := ⟨top 37, "laid_over", [("one" : Str), ("other" : Str)], [("one" : Str), ("other" : Str)], false, i25⟩
/-- sheet_on(sheet, ground); slots: sheet, ground -/
def i26 : St := (.seq (.ex (.call 23 (.cons (.var 0) .nil))) (.seq (.ex (.call 18 (.cons (.var 1) .nil))) (.seq (.ret (.call 19 (.cons (.ixv 0 (.cst (.int 0))) (.cons (.var 1) (.cons (.ixv 0 (.cst (.int 1))) .nil))))) .nil)))
def q26 : QD := ⟨top 38, "sheet_on", [("sheet" : Str), ("ground" : Str)], [("sheet" : Str), ("ground" : Str)], false, i26⟩
/-- _law_hand(script); slots: script, cells, cell -/
def i27 : St := (.seq (.asv 1 (.lc (.blt .abs (.cons (.blt .int (.cons (.var 2) .nil)) .nil)) (.var 2) (.its (.slv 0 .nil (.prt (.cst (.int 63))))) .nil [2])) (.seq (.ret (.bxl (.cons (.var 1) (.cons (.cst (.int 0)) (.cons (.cst (.int 0)) (.cons (.bin .add (.cst (.int 97)) (.bin .mul (.cst (.int 5)) (.lenv 1))) (.cons (.cst (.int 0)) .nil))))))) .nil))
def q27 : QD := ⟨top 40, "_law_hand", [("script" : Str)], [("script" : Str), ("cells" : Str), ("cell" : Str)], true, i27⟩
/-- _law_draw(hand, many); slots: hand, many, number, cell, figure -/
def i28 : St := (.seq (.ite (.and (.tru (.cmp .eq (.ixv 0 (.cst (.int 2))) (.cst (.int 0)))) (.tru (.cmp .lt (.ixv 0 (.cst (.int 1))) (.blt .len (.cons (.ixv 0 (.cst (.int 0))) .nil))))) (.seq (.asv 3 (.idx (.ixv 0 (.cst (.int 0))) (.ixv 0 (.cst (.int 1))))) (.seq (.set 0 (.cst (.int 1)) (.bin .add (.ixv 0 (.cst (.int 1))) (.cst (.int 1)))) (.seq (.set 0 (.cst (.int 3)) (.bin .mod (.blt .int (.cons (.bin .add (.bin .add (.bin .mul (.ixv 0 (.cst (.int 3))) (.cst (.int 48271))) (.var 3)) (.cst (.int 31))) .nil)) (.cst (.int 2147483647)))) (.seq (.ite (.tru (.cmp .ge (.var 3) (.bin .pow (.cst (.int 10)) (.cst (.int 18))))) (.seq (.set 0 (.cst (.int 2)) (.var 3)) .nil) .nil) .nil)))) .nil) (.seq (.ite (.tru (.cmp .gt (.ixv 0 (.cst (.int 2))) (.cst (.int 0)))) (.seq (.asv 4 (.bin .mod (.blt .int (.cons (.ixv 0 (.cst (.int 2))) .nil)) (.var 1))) (.seq (.set 0 (.cst (.int 2)) (.bin .fdiv (.ixv 0 (.cst (.int 2))) (.var 1))) (.seq (.ret (.var 4)) .nil))) .nil) (.seq (.set 0 (.cst (.int 4)) (.bin .add (.ixv 0 (.cst (.int 4))) (.cst (.int 1)))) (.seq (.asv 2 (.bin .mod (.blt .int (.cons (.bin .mul (.blt .int (.cons (.bin .add (.ixv 0 (.cst (.int 3))) (.bin .mul (.cst (.int 6151)) (.ixv 0 (.cst (.int 4))))) .nil)) (.cst (.int 40692))) .nil)) (.cst (.int 2147483399)))) (.seq (.asv 2 (.bin .mod (.blt .int (.cons (.bin .mul (.var 2) (.bin .add (.bin .fdiv (.var 2) (.cst (.int 1223))) (.cst (.int 52027)))) .nil)) (.cst (.int 2147483629)))) (.seq (.asv 2 (.bin .mod (.blt .int (.cons (.bin .mul (.var 2) (.bin .add (.bin .fdiv (.var 2) (.cst (.int 2671))) (.cst (.int 69621)))) .nil)) (.cst (.int 2147483647)))) (.seq (.ret (.bin .mod (.blt .int (.cons (.bin .fdiv (.var 2) (.cst (.int 32))) .nil)) (.var 1))) .nil)))))))
def q28 : QD := ⟨top 41, "_law_draw", [("hand" : Str), ("many" : Str)], [("hand" : Str), ("many" : Str), ("number" : Str), ("cell" : Str), ("figure" : Str)], false, i28⟩
/-- _law_some(hand, things); slots: hand, things -/
def i29 : St := (.seq (.ret (.ixv 1 (.call 28 (.cons (.var 0) (.cons (.lenv 1) .nil))))) .nil)
def q29 : QD := ⟨top 42, "_law_some", [("hand" : Str), ("things" : Str)], [("hand" : Str), ("things" : Str)], false, i29⟩
/-- _law_is_number(thing); slots: thing -/
def i30 : St := (.seq (.ret (.and (.isi (.var 0) [.int]) (.not (.isi (.var 0) [.bool])))) .nil)
def q30 : QD := ⟨top 43, "_law_is_number", [("thing" : Str)], [("thing" : Str)], false, i30⟩
/-- _law_low(top, bottom); slots: top, bottom, other, one -/
def i31 : St := (.seq (.par 3 2 (.blt .abs (.cons (.var 0) .nil)) (.blt .abs (.cons (.var 1) .nil))) (.seq (.whl (.tru (.cmp .gt (.var 3) (.cst (.int 0)))) (.seq (.par 3 2 (.bin .mod (.blt .int (.cons (.var 2) .nil)) (.var 3)) (.var 3)) .nil)) (.seq (.asv 2 (.ite (.tru (.cmp .gt (.var 1) (.cst (.int 0)))) (.var 2) (.bin .sub (.cst (.int 0)) (.var 2)))) (.seq (.ret (.tup (.cons (.bin .fdiv (.var 0) (.var 2)) (.cons (.bin .fdiv (.var 1) (.var 2)) .nil)))) .nil))))
def q31 : QD := ⟨top 44, "_law_low", [("top" : Str), ("bottom" : Str)], [("top" : Str), ("bottom" : Str), ("other" : Str), ("one" : Str)], false, i31⟩
/-- _law_plus(one, other); slots: one, other -/
def i32 : St := (.seq (.ret (.call 31 (.cons (.bin .add (.bin .mul (.ixv 0 (.cst (.int 0))) (.ixv 1 (.cst (.int 1)))) (.bin .mul (.ixv 1 (.cst (.int 0))) (.ixv 0 (.cst (.int 1))))) (.cons (.bin .mul (.ixv 0 (.cst (.int 1))) (.ixv 1 (.cst (.int 1)))) .nil)))) .nil)
def q32 : QD := ⟨top 45, "_law_plus", [("one" : Str), ("other" : Str)], [("one" : Str), ("other" : Str)], false, i32⟩
/-- _law_minus(one, other); slots: one, other -/
def i33 : St := (.seq (.ret (.call 32 (.cons (.var 0) (.cons (.tup (.cons (.bin .sub (.cst (.int 0)) (.ixv 1 (.cst (.int 0)))) (.cons (.ixv 1 (.cst (.int 1))) .nil))) .nil)))) .nil)
def q33 : QD := ⟨top 46, "_law_minus", [("one" : Str), ("other" : Str)], [("one" : Str), ("other" : Str)], false, i33⟩
/-- _law_times(one, other); slots: one, other -/
def i34 : St := (.seq (.ret (.call 31 (.cons (.bin .mul (.ixv 0 (.cst (.int 0))) (.ixv 1 (.cst (.int 0)))) (.cons (.bin .mul (.ixv 0 (.cst (.int 1))) (.ixv 1 (.cst (.int 1)))) .nil)))) .nil)
def q34 : QD := ⟨top 47, "_law_times", [("one" : Str), ("other" : Str)], [("one" : Str), ("other" : Str)], false, i34⟩
/-- _law_less(one, other); slots: one, other -/
def i35 : St := (.seq (.ret (.cmp .lt (.bin .mul (.ixv 0 (.cst (.int 0))) (.ixv 1 (.cst (.int 1)))) (.bin .mul (.ixv 1 (.cst (.int 0))) (.ixv 0 (.cst (.int 1)))))) .nil)
def q35 : QD := ⟨top 48, "_law_less", [("one" : Str), ("other" : Str)], [("one" : Str), ("other" : Str)], false, i35⟩
/-- _law_sum(parts); slots: parts, found, part -/
def i36 : St := (.seq (.asv 1 (.tup (.cons (.cst (.int 0)) (.cons (.cst (.int 1)) .nil)))) (.seq (.for (.var 2) (.its (.var 0)) (.seq (.asv 1 (.call 32 (.cons (.var 1) (.cons (.var 2) .nil)))) .nil)) (.seq (.ret (.var 1)) .nil)))
def q36 : QD := ⟨top 49, "_law_sum", [("parts" : Str)], [("parts" : Str), ("found" : Str), ("part" : Str)], false, i36⟩
/-- _law_fragment(hand); slots: hand, colour, holds, part -/
def i37 : St := (.seq (.asv 1 (.blt .tuple (.cons (.lc (.call 31 (.cons (.call 28 (.cons (.var 0) (.cons (.cst (.int 5)) .nil))) (.cons (.cst (.int 4)) .nil))) (.var 3) (.rng1 (.cst (.int 3))) .nil [3]) .nil))) (.seq (.asv 2 (.ite (.tru (.cmp .eq (.call 28 (.cons (.var 0) (.cons (.cst (.int 4)) .nil))) (.cst (.int 0)))) (.tup (.cons (.cst (.int 1)) (.cons (.cst (.int 1)) .nil))) (.call 31 (.cons (.call 28 (.cons (.var 0) (.cons (.cst (.int 4)) .nil))) (.cons (.cst (.int 4)) .nil))))) (.seq (.ret (.tup (.cons (.call 31 (.cons (.bin .add (.cst (.int 1)) (.call 28 (.cons (.var 0) (.cons (.cst (.int 8)) .nil)))) (.cons (.cst (.int 2)) .nil))) (.cons (.call 28 (.cons (.var 0) (.cons (.cst (.int 4)) .nil))) (.cons (.bin .add (.var 1) (.tup (.cons (.var 2) .nil))) .nil))))) .nil)))
def q37 : QD := ⟨top 50, "_law_fragment", [("hand" : Str)], [("hand" : Str), ("colour" : Str), ("holds" : Str), ("part" : Str)], false, i37⟩
/-- _law_ahead(one, other); slots: one, other -/
def i38 : St := (.seq (.ite (.tru (.cmp .ne (.ixv 0 (.cst (.int 0))) (.ixv 1 (.cst (.int 0))))) (.seq (.ret (.call 35 (.cons (.ixv 0 (.cst (.int 0))) (.cons (.ixv 1 (.cst (.int 0))) .nil)))) .nil) .nil) (.seq (.ret (.cmp .lt (.ixv 0 (.cst (.int 1))) (.ixv 1 (.cst (.int 1))))) .nil))
def q38 : QD := ⟨top 51, "_law_ahead", [("one" : Str), ("other" : Str)], [("one" : Str), ("other" : Str)], false, i38⟩
/-- _law_put(layers, fragment); slots: layers, fragment, rest, front, one, row, found -/
def i39 : St := (.seq (.asv 2 (.lc (.var 4) (.var 4) (.its (.var 0)) (.tru (.cmp .ne (.slv 4 .nil (.prt (.cst (.int 2)))) (.slv 1 .nil (.prt (.cst (.int 2)))))) [4])) (.seq (.asv 3 (.lc (.var 4) (.var 4) (.its (.var 2)) (.tru (.call 38 (.cons (.var 4) (.cons (.var 1) .nil)))) [4])) (.seq (.par 5 6 (.bin .add (.bin .add (.var 3) (.lst (.cons (.var 1) .nil))) (.slv 2 (.prt (.lenv 3)) .nil)) (.lst .nil)) (.seq (.for (.var 4) (.its (.var 5)) (.seq (.ite (.or (.tru (.cmp .eq (.lenv 6) (.cst (.int 0)))) (.tru (.cmp .ne (.idx (.idx (.ixv 6 (.neg (.cst (.int 1)))) (.cst (.int 2))) (.cst (.int 3))) (.tup (.cons (.cst (.int 1)) (.cons (.cst (.int 1)) .nil)))))) (.seq (.ex (.mut .append 6 (.cons (.var 4) .nil))) .nil) .nil) .nil)) (.seq (.ret (.blt .tuple (.cons (.var 6) .nil))) .nil)))))
def q39 : QD := ⟨top 52, "_law_put", [("layers" : Str), ("fragment" : Str)], [("layers" : Str), ("fragment" : Str), ("rest" : Str), ("front" : Str), ("one" : Str), ("row" : Str), ("found" : Str)], false, i39⟩
/-- _law_all_put(some); slots: some, found, one -/
def i40 : St := (.seq (.asv 1 (.tup .nil)) (.seq (.for (.var 2) (.its (.var 0)) (.seq (.asv 1 (.call 39 (.cons (.var 1) (.cons (.var 2) .nil)))) .nil)) (.seq (.ret (.var 1)) .nil)))
def q40 : QD := ⟨top 53, "_law_all_put", [("some" : Str)], [("some" : Str), ("found" : Str), ("one" : Str)], false, i40⟩
/-- _law_weights(layers); slots: layers, found, left, depth, number, colour -/
def i41 : St := (.seq (.par 1 2 (.lst .nil) (.tup (.cons (.cst (.int 1)) (.cons (.cst (.int 1)) .nil)))) (.seq (.for (.tup (.cons (.var 3) (.cons (.var 4) (.cons (.var 5) .nil)))) (.its (.var 0)) (.seq (.ex (.mut .append 1 (.cons (.call 34 (.cons (.var 2) (.cons (.ixv 5 (.cst (.int 3))) .nil))) .nil))) (.seq (.asv 2 (.call 34 (.cons (.var 2) (.cons (.call 33 (.cons (.tup (.cons (.cst (.int 1)) (.cons (.cst (.int 1)) .nil))) (.cons (.ixv 5 (.cst (.int 3))) .nil))) .nil)))) .nil))) (.seq (.ret (.bin .add (.var 1) (.lst (.cons (.var 2) .nil)))) .nil)))
def q41 : QD := ⟨top 54, "_law_weights", [("layers" : Str)], [("layers" : Str), ("found" : Str), ("left" : Str), ("depth" : Str), ("number" : Str), ("colour" : Str)], false, i41⟩
/-- _law_seen(layers, ground); slots: layers, ground, at, weights, found, parts, weight, one -/
def i42 : St := (.seq (.par 3 4 (.call 41 (.cons (.var 0) .nil)) (.lst .nil)) (.seq (.for (.var 2) (.rng1 (.cst (.int 3))) (.seq (.asv 5 (.lc (.call 34 (.cons (.var 6) (.cons (.idx (.ixv 7 (.cst (.int 2))) (.var 2)) .nil))) (.tup (.cons (.var 6) (.cons (.var 7) .nil))) (.zip (.var 3) (.var 0)) .nil [6, 7])) (.seq (.ex (.mut .append 4 (.cons (.call 36 (.cons (.bin .add (.var 5) (.lst (.cons (.call 34 (.cons (.ixv 3 (.neg (.cst (.int 1)))) (.cons (.ixv 1 (.var 2)) .nil))) .nil))) .nil)) .nil))) .nil))) (.seq (.ret (.blt .tuple (.cons (.var 4) .nil))) .nil)))
def q42 : QD := ⟨top 55, "_law_seen", [("layers" : Str), ("ground" : Str)], [("layers" : Str), ("ground" : Str), ("at" : Str), ("weights" : Str), ("found" : Str), ("parts" : Str), ("weight" : Str), ("one" : Str)], false, i42⟩
/-- _law_ground(hand); slots: hand, part -/
def i43 : St := (.seq (.ret (.blt .tuple (.cons (.lc (.call 31 (.cons (.call 28 (.cons (.var 0) (.cons (.cst (.int 4)) .nil))) (.cons (.cst (.int 3)) .nil))) (.var 1) (.rng1 (.cst (.int 3))) .nil [1]) .nil))) .nil)
def q43 : QD := ⟨top 56, "_law_ground", [("hand" : Str)], [("hand" : Str), ("part" : Str)], false, i43⟩
/-- _law_deep(hand); slots: hand, found, turn -/
def i44 : St := (.seq (.asv 1 (.idx (.lst (.cons (.cst .non) (.cons (.cst (.int 5)) (.cons (.neg (.cst (.int 1))) (.cons (.dic .nil) (.cons (.cst (.bl true)) .nil)))))) (.call 28 (.cons (.var 0) (.cons (.cst (.int 5)) .nil))))) (.seq (.for (.var 2) (.rng1 (.bin .add (.cst (.int 5)) (.call 28 (.cons (.var 0) (.cons (.cst (.int 24)) .nil))))) (.seq (.asv 1 (.idx (.lst (.cons (.tup (.cons (.var 1) .nil)) (.cons (.lst (.cons (.var 1) .nil)) (.cons (.dic (.cons (.cst (.int 0)) (.cons (.var 1) .nil))) .nil)))) (.call 28 (.cons (.var 0) (.cons (.cst (.int 3)) .nil))))) .nil)) (.seq (.ret (.var 1)) .nil)))
def q44 : QD := ⟨top 57, "_law_deep", [("hand" : Str)], [("hand" : Str), ("found" : Str), ("turn" : Str)], false, i44⟩
/-- _law_odd(hand); slots: hand -/
def i45 : St := (.seq (.ret (.call 29 (.cons (.var 0) (.cons (.lst (.cons (.cst .non) (.cons (.cst (.bl true)) (.cons (.cst (.bl false)) (.cons (.cst (.int 0)) (.cons (.neg (.cst (.int 1))) (.cons (.cst (.int 999)) (.cons (.bin .shl (.cst (.int 1)) (.cst (.int 63))) (.cons (.cst (.str "p")) (.cons (.cst (.str "")) (.cons (.tup .nil) (.cons (.lst .nil) (.cons (.dic .nil) (.cons (.tup (.cons (.cst (.int 1)) .nil)) (.cons (.tup (.cons (.cst (.str "a")) .nil)) (.cons (.call 44 (.cons (.var 0) .nil)) .nil)))))))))))))))) .nil)))) .nil)
def q45 : QD := ⟨top 58, "_law_odd", [("hand" : Str)], [("hand" : Str)], false, i45⟩
/-- _law_is(told, due); slots: told, due, key, one, two -/
def i46 : St := (.seq (.ite (.tru (.isi (.var 1) [.tuple, .list])) (.seq (.ite (.or (.tru (.cmp .ne (.isi (.var 0) [.tuple]) (.isi (.var 1) [.tuple]))) (.not (.tru (.isi (.var 0) [.tuple, .list])))) (.seq (.ret (.cst (.bl false))) .nil) .nil) (.seq (.ret (.and (.cmp .eq (.lenv 0) (.lenv 1)) (.blt .all (.cons (.lc (.call 46 (.cons (.var 3) (.cons (.var 4) .nil))) (.tup (.cons (.var 3) (.cons (.var 4) .nil))) (.zip (.var 0) (.var 1)) .nil [3, 4]) .nil)))) .nil)) .nil) (.seq (.ite (.tru (.isi (.var 1) [.dict])) (.seq (.ite (.or (.not (.tru (.isi (.var 0) [.dict]))) (.tru (.cmp .ne (.lenv 0) (.lenv 1)))) (.seq (.ret (.cst (.bl false))) .nil) .nil) (.seq (.ret (.blt .all (.cons (.lc (.and (.cmp .isin (.var 2) (.var 0)) (.call 46 (.cons (.ixv 0 (.var 2)) (.cons (.ixv 1 (.var 2)) .nil)))) (.var 2) (.its (.var 1)) .nil [2]) .nil))) .nil)) .nil) (.seq (.ite (.or (.tru (.isi (.var 1) [.str])) (.tru (.cmp .isN (.var 1) (.cst .non)))) (.seq (.ret (.and (.cmp .eq (.isi (.var 0) [.str]) (.isi (.var 1) [.str])) (.cmp .eq (.var 0) (.var 1)))) .nil) .nil) (.seq (.ret (.and (.isi (.var 0) [.int]) (.and (.cmp .eq (.isi (.var 0) [.bool]) (.isi (.var 1) [.bool])) (.cmp .eq (.var 0) (.var 1))))) .nil))))
def q46 : QD := ⟨top 59, "_law_is", [("told" : Str), ("due" : Str)], [("told" : Str), ("due" : Str), ("key" : Str), ("one" : Str), ("two" : Str)], false, i46⟩
/-- _law_sheet(layers); slots: layers, weights, colour, at, weight, one -/
def i47 : St := (.seq (.asv 1 (.call 41 (.cons (.var 0) .nil))) (.seq (.asv 2 (.lc (.call 36 (.cons (.lc (.call 34 (.cons (.var 4) (.cons (.idx (.ixv 5 (.cst (.int 2))) (.var 3)) .nil))) (.tup (.cons (.var 4) (.cons (.var 5) .nil))) (.zip (.var 1) (.var 0)) .nil [4, 5]) .nil)) (.var 3) (.rng1 (.cst (.int 3))) .nil [3])) (.seq (.ret (.tup (.cons (.blt .tuple (.cons (.var 2) .nil)) (.cons (.ixv 1 (.neg (.cst (.int 1)))) .nil)))) .nil)))
def q47 : QD := ⟨top 60, "_law_sheet", [("layers" : Str)], [("layers" : Str), ("weights" : Str), ("colour" : Str), ("at" : Str), ("weight" : Str), ("one" : Str)], false, i47⟩
/-- _law_over_one(one, other); slots: one, other, colour, a, b -/
def i48 : St := (.seq (.asv 2 (.lc (.call 32 (.cons (.var 3) (.cons (.call 34 (.cons (.ixv 0 (.cst (.int 1))) (.cons (.var 4) .nil))) .nil))) (.tup (.cons (.var 3) (.cons (.var 4) .nil))) (.zip (.ixv 0 (.cst (.int 0))) (.ixv 1 (.cst (.int 0)))) .nil [3, 4])) (.seq (.ret (.tup (.cons (.blt .tuple (.cons (.var 2) .nil)) (.cons (.call 34 (.cons (.ixv 0 (.cst (.int 1))) (.cons (.ixv 1 (.cst (.int 1))) .nil))) .nil)))) .nil))
def q48 : QD := ⟨top 61, "_law_over_one", [("one" : Str), ("other" : Str)], [("one" : Str), ("other" : Str), ("colour" : Str), ("a" : Str), ("b" : Str)], false, i48⟩
/-- _law_is_sheet(thing); slots: thing, part, one -/
def i49 : St := (.seq (.ite (.or (.not (.tru (.isi (.var 0) [.tuple]))) (.or (.tru (.cmp .ne (.lenv 0) (.cst (.int 2)))) (.or (.not (.tru (.isi (.ixv 0 (.cst (.int 0))) [.tuple]))) (.tru (.cmp .ne (.blt .len (.cons (.ixv 0 (.cst (.int 0))) .nil)) (.cst (.int 3))))))) (.seq (.ret (.cst (.bl false))) .nil) .nil) (.seq (.for (.var 1) (.its (.bin .add (.ixv 0 (.cst (.int 0))) (.tup (.cons (.ixv 0 (.cst (.int 1))) .nil)))) (.seq (.ite (.or (.not (.tru (.isi (.var 1) [.tuple]))) (.or (.tru (.cmp .ne (.lenv 1) (.cst (.int 2)))) (.not (.tru (.blt .all (.cons (.lc (.call 30 (.cons (.var 2) .nil)) (.var 2) (.its (.var 1)) .nil [2]) .nil)))))) (.seq (.ret (.cst (.bl false))) .nil) .nil) (.seq (.ite (.or (.tru (.cmp .lt (.ixv 1 (.cst (.int 0))) (.cst (.int 0)))) (.or (.tru (.cmp .le (.ixv 1 (.cst (.int 1))) (.cst (.int 0)))) (.tru (.cmp .ne (.call 31 (.cons (.ixv 1 (.cst (.int 0))) (.cons (.ixv 1 (.cst (.int 1))) .nil))) (.var 1))))) (.seq (.ret (.cst (.bl false))) .nil) .nil) .nil))) (.seq (.ret (.cmp .le (.idx (.ixv 0 (.cst (.int 1))) (.cst (.int 0))) (.idx (.ixv 0 (.cst (.int 1))) (.cst (.int 1))))) .nil)))
def q49 : QD := ⟨top 62, "_law_is_sheet", [("thing" : Str)], [("thing" : Str), ("part" : Str), ("one" : Str)], false, i49⟩
/-- law(script); slots: script, hand, clear, turn, layers, whole, some, again, due, things, thing, at, ground, first, second, colour, one, other, third, left, right, part, a, b -/
def i50 : St := (.seq (.asv 1 (.call 27 (.cons (.var 0) .nil))) (.seq (.asv 2 (.tup (.cons (.bin .mul (.tup (.cons (.tup (.cons (.cst (.int 0)) (.cons (.cst (.int 1)) .nil))) .nil)) (.cst (.int 3))) (.cons (.tup (.cons (.cst (.int 1)) (.cons (.cst (.int 1)) .nil))) .nil)))) (.seq (.for (.var 3) (.rng1 (.cst (.int 6))) (.seq (.asv 4 (.call 40 (.cons (.lc (.call 37 (.cons (.var 1) .nil)) (.var 7) (.rng1 (.call 28 (.cons (.var 1) (.cons (.cst (.int 6)) .nil)))) .nil [7]) .nil))) (.seq (.par 11 12 (.call 28 (.cons (.var 1) (.cons (.bin .add (.lenv 4) (.cst (.int 1))) .nil))) (.call 43 (.cons (.var 1) .nil))) (.seq (.asv 5 (.call 47 (.cons (.var 4) .nil))) (.seq (.par 13 14 (.call 47 (.cons (.slv 4 .nil (.prt (.var 11))) .nil)) (.call 47 (.cons (.slv 4 (.prt (.var 11)) .nil) .nil))) (.seq (.ite (.or (.not (.tru (.call 46 (.cons (.call 24 (.cons (.var 4) .nil)) (.cons (.var 5) .nil))))) (.not (.tru (.call 46 (.cons (.call 24 (.cons (.slv 4 .nil (.prt (.var 11))) .nil)) (.cons (.var 13) .nil)))))) (.seq (.ret (.cst (.bl false))) .nil) .nil) (.seq (.ite (.or (.not (.tru (.call 46 (.cons (.call 25 (.cons (.var 13) (.cons (.var 14) .nil))) (.cons (.var 5) .nil))))) (.tru (.cmp .ne (.call 48 (.cons (.var 13) (.cons (.var 14) .nil))) (.var 5)))) (.seq (.ret (.cst (.bl false))) .nil) .nil) (.seq (.ite (.not (.tru (.call 46 (.cons (.call 26 (.cons (.var 5) (.cons (.var 12) .nil))) (.cons (.call 42 (.cons (.var 4) (.cons (.var 12) .nil))) .nil))))) (.seq (.ret (.cst (.bl false))) .nil) .nil) (.seq (.ite (.tru (.cmp .ne (.call 21 (.cons (.var 4) (.cons (.var 12) .nil))) (.call 26 (.cons (.call 25 (.cons (.var 13) (.cons (.var 14) .nil))) (.cons (.var 12) .nil))))) (.seq (.ret (.cst (.bl false))) .nil) .nil) (.seq (.asv 6 (.lst .nil)) (.seq (.for (.var 7) (.rng1 (.cst (.int 3))) (.seq (.asv 15 (.blt .tuple (.cons (.lc (.call 31 (.cons (.call 28 (.cons (.var 1) (.cons (.cst (.int 9)) .nil))) (.cons (.bin .add (.cst (.int 1)) (.call 28 (.cons (.var 1) (.cons (.cst (.int 4)) .nil)))) .nil))) (.var 21) (.rng1 (.cst (.int 3))) .nil [21]) .nil))) (.seq (.ex (.mut .append 6 (.cons (.tup (.cons (.var 15) (.cons (.call 31 (.cons (.call 28 (.cons (.var 1) (.cons (.cst (.int 5)) .nil))) (.cons (.cst (.int 4)) .nil))) .nil))) .nil))) .nil))) (.seq (.asg (.tup (.cons (.var 16) (.cons (.var 17) (.cons (.var 18) .nil)))) (.var 6)) (.seq (.par 19 20 (.call 25 (.cons (.call 25 (.cons (.var 16) (.cons (.var 17) .nil))) (.cons (.var 18) .nil))) (.call 25 (.cons (.var 16) (.cons (.call 25 (.cons (.var 17) (.cons (.var 18) .nil))) .nil)))) (.seq (.ite (.or (.not (.tru (.call 46 (.cons (.var 19) (.cons (.call 48 (.cons (.call 48 (.cons (.var 16) (.cons (.var 17) .nil))) (.cons (.var 18) .nil))) .nil))))) (.tru (.cmp .ne (.var 19) (.var 20)))) (.seq (.ret (.cst (.bl false))) .nil) .nil) (.seq (.ite (.or (.tru (.cmp .ne (.call 25 (.cons (.var 16) (.cons (.var 2) .nil))) (.var 16))) (.tru (.cmp .ne (.call 25 (.cons (.var 2) (.cons (.var 16) .nil))) (.var 16)))) (.seq (.ret (.cst (.bl false))) .nil) .nil) (.seq (.asv 8 (.blt .tuple (.cons (.lc (.call 32 (.cons (.var 22) (.cons (.call 34 (.cons (.ixv 16 (.cst (.int 1))) (.cons (.var 23) .nil))) .nil))) (.tup (.cons (.var 22) (.cons (.var 23) .nil))) (.zip (.ixv 16 (.cst (.int 0))) (.var 12)) .nil [22, 23]) .nil))) (.seq (.ite (.not (.tru (.call 46 (.cons (.call 26 (.cons (.var 16) (.cons (.var 12) .nil))) (.cons (.var 8) .nil))))) (.seq (.ret (.cst (.bl false))) .nil) .nil) (.seq (.asv 9 (.lst (.cons (.var 16) (.cons (.blt .list (.cons (.var 16) .nil)) (.cons (.tup (.cons (.ixv 16 (.cst (.int 0))) .nil)) (.cons (.tup (.cons (.slc (.ixv 16 (.cst (.int 0))) .nil (.prt (.cst (.int 2)))) (.cons (.ixv 16 (.cst (.int 1))) .nil))) (.cons (.tup (.cons (.ixv 16 (.cst (.int 0))) (.cons (.tup (.cons (.cst (.int 5)) (.cons (.cst (.int 4)) .nil))) .nil))) (.cons (.tup (.cons (.ixv 16 (.cst (.int 0))) (.cons (.tup (.cons (.neg (.cst (.int 1))) (.cons (.cst (.int 4)) .nil))) .nil))) .nil)))))))) (.seq (.ex (.mut .append 9 (.cons (.tup (.cons (.ixv 16 (.cst (.int 0))) (.cons (.tup (.cons (.cst (.int 2)) (.cons (.cst (.int 4)) .nil))) .nil))) .nil))) (.seq (.asv 9 (.bin .add (.var 9) (.lst (.cons (.tup (.cons (.bin .add (.tup (.cons (.tup (.cons (.neg (.cst (.int 1))) (.cons (.cst (.int 1)) .nil))) .nil)) (.slc (.ixv 16 (.cst (.int 0))) (.prt (.cst (.int 1))) .nil)) (.cons (.ixv 16 (.cst (.int 1))) .nil))) (.cons (.tup (.cons (.bin .add (.tup (.cons (.tup (.cons (.cst (.bl true)) (.cons (.cst (.int 1)) .nil))) .nil)) (.slc (.ixv 16 (.cst (.int 0))) (.prt (.cst (.int 1))) .nil)) (.cons (.ixv 16 (.cst (.int 1))) .nil))) (.cons (.var 2) (.cons (.cst .non) .nil))))))) (.seq (.for (.var 10) (.its (.bin .add (.var 9) (.lst (.cons (.call 45 (.cons (.var 1) .nil)) .nil)))) (.seq (.ite (.not (.tru (.call 46 (.cons (.call 22 (.cons (.var 10) .nil)) (.cons (.call 49 (.cons (.var 10) .nil)) .nil))))) (.seq (.ret (.cst (.bl false))) .nil) .nil) .nil)) .nil))))))))))))))))))))) (.seq (.ret (.cst (.bl true))) .nil))))
def q50 : QD := ⟨top 63, "law", [("script" : Str)], [("script" : Str), ("hand" : Str), ("clear" : Str), ("turn" : Str), ("layers" : Str), ("whole" : Str), ("some" : Str), ("again" : Str), ("due" : Str), ("things" : Str), ("thing" : Str), ("at" : Str), ("ground" : Str), ("first" : Str), ("second" : Str), ("colour" : Str), ("one" : Str), ("other" : Str), ("third" : Str), ("left" : Str), ("right" : Str), ("part" : Str), ("a" : Str), ("b" : Str)], false, i50⟩
def prg : Prg := ⟨[q0, q1, q2, q3, q4, q5, q6, q7, q8, q9, q10, q11, q12, q13, q14, q15, q16, q17, q18, q19, q20, q21, q22, q23, q24, q25, q26, q27, q28, q29, q30, q31, q32, q33, q34, q35, q36, q37, q38, q39, q40, q41, q42, q43, q44, q45, q46, q47, q48, q49, q50], [(("ZERO" : Str), (.tup [(.int 0), (.int 1)])), (("ONE" : Str), (.tup [(.int 1), (.int 1)])), (("MOST_NUMBER" : Str), (.int 7)), (("DARK" : Str), (.tup [(.tup [(.int 0), (.int 1)]), (.tup [(.int 0), (.int 1)]), (.tup [(.int 0), (.int 1)])]))], bT⟩
end Q.K46
end

section
set_option maxRecDepth 100000
set_option maxHeartbeats 0
namespace Q.K46
open PySem PySem.Spec PyProof.Rows L2
theorem fT_eq : prg.fnsT = fT := by kernel_rfl
theorem gT_eq : prg.glsT = gT := by kernel_rfl
theorem ok0 : DefOk fT gT bT q0 := ⟨scB_ok (by decide +kernel), ir_of (by kernel_rfl), fun _ _ _ _ _ _ us hl => match us, hl with | [_], _ => rfl⟩
theorem ok1 : DefOk fT gT bT q1 := ⟨scB_ok (by decide +kernel), ir_of (by kernel_rfl), fun _ _ _ _ _ _ us hl => match us, hl with | [_, _, _], _ => rfl⟩
theorem ok2 : DefOk fT gT bT q2 := ⟨scB_ok (by decide +kernel), ir_of (by kernel_rfl), fun _ _ _ _ _ _ us hl => match us, hl with | [_, _, _], _ => rfl⟩
theorem ok3 : DefOk fT gT bT q3 := ⟨scB_ok (by decide +kernel), ir_of (by kernel_rfl), fun _ _ _ _ _ _ us hl => match us, hl with | [_, _], _ => rfl⟩
theorem ok4 : DefOk fT gT bT q4 := ⟨scB_ok (by decide +kernel), ir_of (by kernel_rfl), fun _ _ _ _ _ _ us hl => match us, hl with | [_, _], _ => rfl⟩
theorem ok5 : DefOk fT gT bT q5 := ⟨scB_ok (by decide +kernel), ir_of (by kernel_rfl), fun _ _ _ _ _ _ us hl => match us, hl with | [_], _ => rfl⟩
theorem ok6 : DefOk fT gT bT q6 := ⟨scB_ok (by decide +kernel), ir_of (by kernel_rfl), fun _ _ _ _ _ _ us hl => match us, hl with | [_, _], _ => rfl⟩
theorem ok7 : DefOk fT gT bT q7 := ⟨scB_ok (by decide +kernel), ir_of (by kernel_rfl), fun _ _ _ _ _ _ us hl => match us, hl with | [_, _], _ => rfl⟩
theorem ok8 : DefOk fT gT bT q8 := ⟨scB_ok (by decide +kernel), ir_of (by kernel_rfl), fun _ _ _ _ _ _ us hl => match us, hl with | [_, _], _ => rfl⟩
theorem ok9 : DefOk fT gT bT q9 := ⟨scB_ok (by decide +kernel), ir_of (by kernel_rfl), fun _ _ _ _ _ _ us hl => match us, hl with | [_, _], _ => rfl⟩
theorem ok10 : DefOk fT gT bT q10 := ⟨scB_ok (by decide +kernel), ir_of (by kernel_rfl), fun _ _ _ _ _ _ us hl => match us, hl with | [_], _ => rfl⟩
theorem ok11 : DefOk fT gT bT q11 := ⟨scB_ok (by decide +kernel), ir_of (by kernel_rfl), fun _ _ _ _ _ _ us hl => match us, hl with | [_], _ => rfl⟩
theorem ok12 : DefOk fT gT bT q12 := ⟨scB_ok (by decide +kernel), ir_of (by kernel_rfl), fun _ _ _ _ _ _ us hl => match us, hl with | [_], _ => rfl⟩
theorem ok13 : DefOk fT gT bT q13 := ⟨scB_ok (by decide +kernel), ir_of (by kernel_rfl), fun _ _ _ _ _ _ us hl => match us, hl with | [_, _], _ => rfl⟩
theorem ok14 : DefOk fT gT bT q14 := ⟨scB_ok (by decide +kernel), ir_of (by kernel_rfl), fun _ _ _ _ _ _ us hl => match us, hl with | [_], _ => rfl⟩
theorem ok15 : DefOk fT gT bT q15 := ⟨scB_ok (by decide +kernel), ir_of (by kernel_rfl), fun _ _ _ _ _ _ us hl => match us, hl with | [_], _ => rfl⟩
theorem ok16 : DefOk fT gT bT q16 := ⟨scB_ok (by decide +kernel), ir_of (by kernel_rfl), fun _ _ _ _ _ _ us hl => match us, hl with | [_], _ => rfl⟩
theorem ok17 : DefOk fT gT bT q17 := ⟨scB_ok (by decide +kernel), ir_of (by kernel_rfl), fun _ _ _ _ _ _ us hl => match us, hl with | [_], _ => rfl⟩
theorem ok18 : DefOk fT gT bT q18 := ⟨scB_ok (by decide +kernel), ir_of (by kernel_rfl), fun _ _ _ _ _ _ us hl => match us, hl with | [_], _ => rfl⟩
theorem ok19 : DefOk fT gT bT q19 := ⟨scB_ok (by decide +kernel), ir_of (by kernel_rfl), fun _ _ _ _ _ _ us hl => match us, hl with | [_, _, _], _ => rfl⟩
theorem ok20 : DefOk fT gT bT q20 := ⟨scB_ok (by decide +kernel), ir_of (by kernel_rfl), fun _ _ _ _ _ _ us hl => match us, hl with | [_], _ => rfl⟩
theorem ok21 : DefOk fT gT bT q21 := ⟨scB_ok (by decide +kernel), ir_of (by kernel_rfl), fun _ _ _ _ _ _ us hl => match us, hl with | [_, _], _ => rfl⟩
theorem ok22 : DefOk fT gT bT q22 := ⟨scB_ok (by decide +kernel), ir_of (by kernel_rfl), fun _ _ _ _ _ _ us hl => match us, hl with | [_], _ => rfl⟩
theorem ok23 : DefOk fT gT bT q23 := ⟨scB_ok (by decide +kernel), ir_of (by kernel_rfl), fun _ _ _ _ _ _ us hl => match us, hl with | [_], _ => rfl⟩
theorem ok24 : DefOk fT gT bT q24 := ⟨scB_ok (by decide +kernel), ir_of (by kernel_rfl), fun _ _ _ _ _ _ us hl => match us, hl with | [_], _ => rfl⟩
theorem ok25 : DefOk fT gT bT q25 := ⟨scB_ok (by decide +kernel), ir_of (by kernel_rfl), fun _ _ _ _ _ _ us hl => match us, hl with | [_, _], _ => rfl⟩
theorem ok26 : DefOk fT gT bT q26 := ⟨scB_ok (by decide +kernel), ir_of (by kernel_rfl), fun _ _ _ _ _ _ us hl => match us, hl with | [_, _], _ => rfl⟩
theorem ok27 : DefOk fT gT bT q27 := ⟨scB_ok (by decide +kernel), ir_of (by kernel_rfl), fun _ _ _ _ _ _ us hl => match us, hl with | [_], _ => rfl⟩
theorem ok28 : DefOk fT gT bT q28 := ⟨scB_ok (by decide +kernel), ir_of (by kernel_rfl), fun _ _ _ _ _ _ us hl => match us, hl with | [_, _], _ => rfl⟩
theorem ok29 : DefOk fT gT bT q29 := ⟨scB_ok (by decide +kernel), ir_of (by kernel_rfl), fun _ _ _ _ _ _ us hl => match us, hl with | [_, _], _ => rfl⟩
theorem ok30 : DefOk fT gT bT q30 := ⟨scB_ok (by decide +kernel), ir_of (by kernel_rfl), fun _ _ _ _ _ _ us hl => match us, hl with | [_], _ => rfl⟩
theorem ok31 : DefOk fT gT bT q31 := ⟨scB_ok (by decide +kernel), ir_of (by kernel_rfl), fun _ _ _ _ _ _ us hl => match us, hl with | [_, _], _ => rfl⟩
theorem ok32 : DefOk fT gT bT q32 := ⟨scB_ok (by decide +kernel), ir_of (by kernel_rfl), fun _ _ _ _ _ _ us hl => match us, hl with | [_, _], _ => rfl⟩
theorem ok33 : DefOk fT gT bT q33 := ⟨scB_ok (by decide +kernel), ir_of (by kernel_rfl), fun _ _ _ _ _ _ us hl => match us, hl with | [_, _], _ => rfl⟩
theorem ok34 : DefOk fT gT bT q34 := ⟨scB_ok (by decide +kernel), ir_of (by kernel_rfl), fun _ _ _ _ _ _ us hl => match us, hl with | [_, _], _ => rfl⟩
theorem ok35 : DefOk fT gT bT q35 := ⟨scB_ok (by decide +kernel), ir_of (by kernel_rfl), fun _ _ _ _ _ _ us hl => match us, hl with | [_, _], _ => rfl⟩
theorem ok36 : DefOk fT gT bT q36 := ⟨scB_ok (by decide +kernel), ir_of (by kernel_rfl), fun _ _ _ _ _ _ us hl => match us, hl with | [_], _ => rfl⟩
theorem ok37 : DefOk fT gT bT q37 := ⟨scB_ok (by decide +kernel), ir_of (by kernel_rfl), fun _ _ _ _ _ _ us hl => match us, hl with | [_], _ => rfl⟩
theorem ok38 : DefOk fT gT bT q38 := ⟨scB_ok (by decide +kernel), ir_of (by kernel_rfl), fun _ _ _ _ _ _ us hl => match us, hl with | [_, _], _ => rfl⟩
theorem ok39 : DefOk fT gT bT q39 := ⟨scB_ok (by decide +kernel), ir_of (by kernel_rfl), fun _ _ _ _ _ _ us hl => match us, hl with | [_, _], _ => rfl⟩
theorem ok40 : DefOk fT gT bT q40 := ⟨scB_ok (by decide +kernel), ir_of (by kernel_rfl), fun _ _ _ _ _ _ us hl => match us, hl with | [_], _ => rfl⟩
theorem ok41 : DefOk fT gT bT q41 := ⟨scB_ok (by decide +kernel), ir_of (by kernel_rfl), fun _ _ _ _ _ _ us hl => match us, hl with | [_], _ => rfl⟩
theorem ok42 : DefOk fT gT bT q42 := ⟨scB_ok (by decide +kernel), ir_of (by kernel_rfl), fun _ _ _ _ _ _ us hl => match us, hl with | [_, _], _ => rfl⟩
theorem ok43 : DefOk fT gT bT q43 := ⟨scB_ok (by decide +kernel), ir_of (by kernel_rfl), fun _ _ _ _ _ _ us hl => match us, hl with | [_], _ => rfl⟩
theorem ok44 : DefOk fT gT bT q44 := ⟨scB_ok (by decide +kernel), ir_of (by kernel_rfl), fun _ _ _ _ _ _ us hl => match us, hl with | [_], _ => rfl⟩
theorem ok45 : DefOk fT gT bT q45 := ⟨scB_ok (by decide +kernel), ir_of (by kernel_rfl), fun _ _ _ _ _ _ us hl => match us, hl with | [_], _ => rfl⟩
theorem ok46 : DefOk fT gT bT q46 := ⟨scB_ok (by decide +kernel), ir_of (by kernel_rfl), fun _ _ _ _ _ _ us hl => match us, hl with | [_, _], _ => rfl⟩
theorem ok47 : DefOk fT gT bT q47 := ⟨scB_ok (by decide +kernel), ir_of (by kernel_rfl), fun _ _ _ _ _ _ us hl => match us, hl with | [_], _ => rfl⟩
theorem ok48 : DefOk fT gT bT q48 := ⟨scB_ok (by decide +kernel), ir_of (by kernel_rfl), fun _ _ _ _ _ _ us hl => match us, hl with | [_, _], _ => rfl⟩
theorem ok49 : DefOk fT gT bT q49 := ⟨scB_ok (by decide +kernel), ir_of (by kernel_rfl), fun _ _ _ _ _ _ us hl => match us, hl with | [_], _ => rfl⟩
theorem ok50 : DefOk fT gT bT q50 := ⟨scB_ok (by decide +kernel), ir_of (by kernel_rfl), fun _ _ _ _ _ _ us hl => match us, hl with | [_], _ => rfl⟩
theorem oks : ∀ d, d ∈ prg.defs → DefOk prg.fnsT prg.glsT prg.bls d := by
  rw [fT_eq, gT_eq]
  intro d hd
  simp only [prg, List.mem_cons, List.not_mem_nil, or_false] at hd
  rcases hd with rfl | rfl | rfl | rfl | rfl | rfl | rfl | rfl | rfl | rfl | rfl | rfl | rfl | rfl | rfl | rfl | rfl | rfl | rfl | rfl | rfl | rfl | rfl | rfl | rfl | rfl | rfl | rfl | rfl | rfl | rfl | rfl | rfl | rfl | rfl | rfl | rfl | rfl | rfl | rfl | rfl | rfl | rfl | rfl | rfl | rfl | rfl | rfl | rfl | rfl | rfl
  · exact ok0
  · exact ok1
  · exact ok2
  · exact ok3
  · exact ok4
  · exact ok5
  · exact ok6
  · exact ok7
  · exact ok8
  · exact ok9
  · exact ok10
  · exact ok11
  · exact ok12
  · exact ok13
  · exact ok14
  · exact ok15
  · exact ok16
  · exact ok17
  · exact ok18
  · exact ok19
  · exact ok20
  · exact ok21
  · exact ok22
  · exact ok23
  · exact ok24
  · exact ok25
  · exact ok26
  · exact ok27
  · exact ok28
  · exact ok29
  · exact ok30
  · exact ok31
  · exact ok32
  · exact ok33
  · exact ok34
  · exact ok35
  · exact ok36
  · exact ok37
  · exact ok38
  · exact ok39
  · exact ok40
  · exact ok41
  · exact ok42
  · exact ok43
  · exact ok44
  · exact ok45
  · exact ok46
  · exact ok47
  · exact ok48
  · exact ok49
  · exact ok50
end Q.K46
end

section
set_option maxRecDepth 100000
set_option maxHeartbeats 0
namespace Q.K46
open PySem PySem.Spec PyProof.Rows L2
abbrev R : PySem.W.OpenRow := PySem.W.OpenLaw.row PySem.Challenge.rw_everysample_k46_whole_sheets_laid_over
abbrev hk : PySem.W.Hook := hookQ 5 prg
def ob (s : PySem.W.SharedT) : AlQ := obsQ 5 prg (HandSHeadRun.getT s)
theorem ob_eq (s : PySem.W.SharedT) : ob s = hk.obs s.abs := obsQ_eq (HandSHeadRun.getT_eq s)
def loose : List Str := ([("is_integer" : Str), ("is_within" : Str), ("is_sized" : Str), ("SampleError" : Str), ("NoGround" : Str), ("NoLayers" : Str), ("NoSheet" : Str), ("ZERO" : Str), ("ONE" : Str), ("common" : Str), ("share" : Str), ("is_share" : Str), ("plus" : Str), ("minus" : Str), ("times" : Str), ("is_less" : Str), ("MOST_NUMBER" : Str), ("DARK" : Str), ("is_in_one" : Str), ("is_depth" : Str), ("is_fragment" : Str), ("is_ahead" : Str), ("is_full" : Str), ("are_layers" : Str), ("check_layers" : Str), ("is_ground" : Str), ("check_ground" : Str), ("added" : Str), ("raw_sheet" : Str), ("seen_through" : Str)] : List Str) ++ ([("is_sheet" : Str), ("check_sheet" : Str), ("sheet_of" : Str), ("laid_over" : Str), ("sheet_on" : Str), ("_law_hand" : Str), ("_law_draw" : Str), ("_law_some" : Str), ("_law_is_number" : Str), ("_law_low" : Str), ("_law_plus" : Str), ("_law_minus" : Str), ("_law_times" : Str), ("_law_less" : Str), ("_law_sum" : Str), ("_law_fragment" : Str), ("_law_ahead" : Str), ("_law_put" : Str), ("_law_all_put" : Str), ("_law_weights" : Str), ("_law_seen" : Str), ("_law_ground" : Str), ("_law_deep" : Str), ("_law_odd" : Str), ("_law_is" : Str), ("_law_sheet" : Str), ("_law_over_one" : Str), ("_law_is_sheet" : Str)] : List Str)
theorem run (w : World) : HandSHeadRun.RunEq R (PySem.W.view R.prog [63]) hk ob 20000 loose w := by
  intro os
  kernel_rfl
end Q.K46
end

section
set_option maxRecDepth 100000
set_option maxHeartbeats 0
open PySem PySem.W PySem.Calls PyProof.Rows
theorem Q.K46.holds_of (hlaw : ∀ ns : List Int, ns.length ≤ 63 → ∃ L b, Q.callN Q.K46.prg.tb Q.K46.prg.gb L 60 50 [.scr ns] [] = .ok (.bl true) b) : PySem.Challenge.rw_everysample_k46_whole_sheets_laid_over.Holds := by
  w_on; o_law
  refine HandSHeadRun.head_any (r := OpenLaw.row PySem.Challenge.rw_everysample_k46_whole_sheets_laid_over) (q := view (OpenLaw.row PySem.Challenge.rw_everysample_k46_whole_sheets_laid_over).prog [63]) (H := Q.K46.hk) (ob := Q.K46.ob) (M := 20000) (loose := Q.K46.loose) (d := HandSHeadRun.topDef (OpenLaw.row PySem.Challenge.rw_everysample_k46_whole_sheets_laid_over).prog 63) (kwd := []) Q.K46.ob_eq
    (by kernel_rfl) (fun s => by kernel_rfl) Q.K46.run (by kernel_rfl) (by kernel_rfl) (by kernel_rfl) (by rfl) (by first | assumption | decide +kernel) (by decide +kernel) ⟨rfl, rfl, rfl, rfl, rfl, by decide +kernel⟩ ?hw ?hc
  case hw => w_witness2
  case hc =>
    refine L2.walk_ofE (l := PySem.Challenge.rw_everysample_k46_whole_sheets_laid_over) (n := 63) (k := 60) (x := "script") (CX := L2.CX0) rfl (by decide) (by kernel_rfl) ⟨rfl, by decide, by decide⟩ ?F (fun _ _ _ _ z => z)
    intro w mg fa h Y G hmg0
    have hmg : mg (Q.K46.q50).name = some (.ref fa) := by
      have e : (HandSHeadRun.topDef (OpenLaw.row PySem.Challenge.rw_everysample_k46_whole_sheets_laid_over).prog 63).name = (Q.K46.q50).name := by kernel_rfl
      rw [← e]
      exact hmg0
    exact Q.law_F (p := Q.K46.prg) (m := 5) (n := 60) (kl := 50) (d := Q.K46.q50) Q.K46.oks rfl rfl hlaw Y G hmg
end

section
set_option maxRecDepth 100000
set_option maxHeartbeats 4000000
/-! QEv: the evaluator's equations where the state is written out. -/
namespace Q
open PySem L2

@[simp] theorem get_mk (l : List (Option D)) (b : List (List D)) (i : Nat) : (S.mk l b).get i = (l[i]?).bind id := rfl
@[simp] theorem put_mk (l : List (Option D)) (b : List (List D)) (i : Nat) (d : D) : (S.mk l b).put i d = ⟨l.set i (some d), b⟩ := rfl
@[simp] theorem frz_int (i : Int) : (D.int i).frz = .int i := rfl
@[simp] theorem frz_bl (i : Bool) : (D.bl i).frz = .bl i := rfl
@[simp] theorem frz_tup (i : List D) : (D.tup i).frz = .tup i := rfl
@[simp] theorem frz_lst (i : List D) : (D.lst i).frz = .lst i := rfl
@[simp] theorem frz_dic (i : List (Key × D)) : (D.dic i).frz = .dic i := rfl
@[simp] theorem frz_own' (i : List D) : (D.own i).frz = .lst i := rfl
@[simp] theorem frz_odc (i : List (Key × D)) : (D.odc i).frz = .dic i := rfl
@[simp] theorem frz_non : D.non.frz = .non := rfl
@[simp] theorem frz_str (x : Str) : (D.str x).frz = .str x := rfl
@[simp] theorem frz_box (x : Nat) : (D.box x).frz = .box x := rfl
@[simp] theorem frz_scr (x : List Int) : (D.scr x).frz = .scr x := rfl
@[simp] theorem isOwn_int (i : Int) : (D.int i).isOwn = false := rfl
@[simp] theorem isOwn_bl (i : Bool) : (D.bl i).isOwn = false := rfl
@[simp] theorem isOwn_tup (i : List D) : (D.tup i).isOwn = false := rfl
@[simp] theorem isOwn_lst (i : List D) : (D.lst i).isOwn = false := rfl
@[simp] theorem isOwn_non : D.non.isOwn = false := rfl
@[simp] theorem isOwn_str (x : Str) : (D.str x).isOwn = false := rfl
@[simp] theorem isOwn_box (x : Nat) : (D.box x).isOwn = false := rfl
@[simp] theorem isOwn_dic (x : List (Key × D)) : (D.dic x).isOwn = false := rfl
@[simp] theorem isOwn_scr (x : List Int) : (D.scr x).isOwn = false := rfl
/-- a slot given out -/
def gv : Option (Option D) → List (Option D) → List (List D) → Nat → Res D
  | some (some (.own xs)), l, b, i => .ok (.lst xs) ⟨l.set i (some (.lst xs)), b⟩
  | some (some (.odc xs)), l, b, i => .ok (.dic xs) ⟨l.set i (some (.dic xs)), b⟩
  | some (some d), l, b, _ => .ok d ⟨l, b⟩
  | _, _, _, _ => .bad
section
variable (l : List (Option D)) (b : List (List D)) (i : Nat)
@[simp] theorem gv_own (xs : List D) : gv (some (some (.own xs))) l b i = .ok (.lst xs) ⟨l.set i (some (.lst xs)), b⟩ := rfl
@[simp] theorem gv_odc (xs : List (Key × D)) : gv (some (some (.odc xs))) l b i = .ok (.dic xs) ⟨l.set i (some (.dic xs)), b⟩ := rfl
@[simp] theorem gv_d {d : D} (h : d.isOwn = false) : gv (some (some d)) l b i = .ok d ⟨l, b⟩ := by cases d <;> first | rfl | cases h
@[simp] theorem gv_int (x : Int) : gv (some (some (.int x))) l b i = .ok (.int x) ⟨l, b⟩ := rfl
@[simp] theorem gv_bl (x : Bool) : gv (some (some (.bl x))) l b i = .ok (.bl x) ⟨l, b⟩ := rfl
@[simp] theorem gv_tup (x : List D) : gv (some (some (.tup x))) l b i = .ok (.tup x) ⟨l, b⟩ := rfl
@[simp] theorem gv_lst (x : List D) : gv (some (some (.lst x))) l b i = .ok (.lst x) ⟨l, b⟩ := rfl
@[simp] theorem gv_non : gv (some (some .non)) l b i = .ok .non ⟨l, b⟩ := rfl
@[simp] theorem gv_str (x : Str) : gv (some (some (.str x))) l b i = .ok (.str x) ⟨l, b⟩ := rfl
@[simp] theorem gv_box (x : Nat) : gv (some (some (.box x))) l b i = .ok (.box x) ⟨l, b⟩ := rfl
@[simp] theorem gv_dic (x : List (Key × D)) : gv (some (some (.dic x))) l b i = .ok (.dic x) ⟨l, b⟩ := rfl
@[simp] theorem gv_scr (x : List Int) : gv (some (some (.scr x))) l b i = .ok (.scr x) ⟨l, b⟩ := rfl
@[simp] theorem gv_n : gv none l b i = .bad := rfl
@[simp] theorem gv_nn : gv (some none) l b i = .bad := rfl
end
section
variable (c : Env) (l : List (Option D)) (bx : List (List D)) (a b d : E) (v : Nat)
@[simp] theorem ev_var (i : Nat) : evE c (.var i) ⟨l, bx⟩ = gv (l[i]?) l bx i := by
  show Res.opt (((l[i]?).bind id).map D.frz) (S.frz ⟨l, bx⟩ i) = _
  unfold S.frz
  simp only [get_mk]
  cases l[i]? with
  | none => rfl
  | some o =>
    cases o with
    | none => rfl
    | some d => cases d <;> rfl
@[simp] theorem ev_cst (d : D) : evE c (.cst d) ⟨l, bx⟩ = .ok d ⟨l, bx⟩ := rfl
@[simp] theorem ev_glb (k : Nat) : evE c (.glb k) ⟨l, bx⟩ = Res.opt (c.glb k) ⟨l, bx⟩ := rfl
@[simp] theorem ev_bin (o : BOp) : evE c (.bin o a b) ⟨l, bx⟩ = (evE c a ⟨l, bx⟩).bnd fun x s1 => (evE c b s1).bnd fun y s2 => Res.opt (opB o x.frz y.frz) s2 := rfl
@[simp] theorem ev_cmp (o : COp) : evE c (.cmp o a b) ⟨l, bx⟩ = (evE c a ⟨l, bx⟩).bnd fun x s1 => (evE c b s1).bnd fun y s2 => Res.opt ((opC o x.frz y.frz).map .bl) s2 := rfl
@[simp] theorem ev_chn (o p : COp) : evE c (.chn o p a b d) ⟨l, bx⟩ = (evE c a ⟨l, bx⟩).bnd fun x s1 => (evE c b s1).bnd fun y s2 => (Res.opt (opC o x.frz y.frz) s2).bnd fun k s3 =>
      if k then (evE c d s3).bnd fun z s4 => Res.opt ((opC p y.frz z.frz).map .bl) s4 else .ok (.bl false) s3 := rfl
def andK (c : Env) (b : E) : D → S → Res D
  | .bl true, s1 => (evE c b s1).bnd fun y s2 => .ok y.frz s2
  | .bl false, s1 => .ok (.bl false) s1
  | _, _ => .bad
def orK (c : Env) (b : E) : D → S → Res D
  | .bl false, s1 => (evE c b s1).bnd fun y s2 => .ok y.frz s2
  | .bl true, s1 => .ok (.bl true) s1
  | _, _ => .bad
def notK : D → S → Res D
  | .bl k, s1 => .ok (.bl (!k)) s1
  | _, _ => .bad
def negK : D → S → Res D
  | .int k, s1 => .ok (.int (-k)) s1
  | _, _ => .bad
@[simp] theorem andK_t (s : S) : andK c b (.bl true) s = (evE c b s).bnd fun y s2 => .ok y.frz s2 := rfl
@[simp] theorem andK_f (s : S) : andK c b (.bl false) s = .ok (.bl false) s := rfl
@[simp] theorem orK_f (s : S) : orK c b (.bl false) s = (evE c b s).bnd fun y s2 => .ok y.frz s2 := rfl
@[simp] theorem orK_t (s : S) : orK c b (.bl true) s = .ok (.bl true) s := rfl
@[simp] theorem notK_b (k : Bool) (s : S) : notK (.bl k) s = .ok (.bl (!k)) s := rfl
@[simp] theorem negK_i (k : Int) (s : S) : negK (.int k) s = .ok (.int (-k)) s := rfl
@[simp] theorem ev_and : evE c (.and a b) ⟨l, bx⟩ = (evE c a ⟨l, bx⟩).bnd (andK c b) := by
  show (evE c a ⟨l, bx⟩).bnd _ = _
  congr 1; funext x s; cases x <;> first | rfl | (rename_i k; cases k <;> rfl)
@[simp] theorem ev_or : evE c (.or a b) ⟨l, bx⟩ = (evE c a ⟨l, bx⟩).bnd (orK c b) := by
  show (evE c a ⟨l, bx⟩).bnd _ = _
  congr 1; funext x s; cases x <;> first | rfl | (rename_i k; cases k <;> rfl)
@[simp] theorem ev_not : evE c (.not a) ⟨l, bx⟩ = (evE c a ⟨l, bx⟩).bnd notK := by
  show (evE c a ⟨l, bx⟩).bnd _ = _
  congr 1; funext x s; cases x <;> rfl
@[simp] theorem ev_neg : evE c (.neg a) ⟨l, bx⟩ = (evE c a ⟨l, bx⟩).bnd negK := by
  show (evE c a ⟨l, bx⟩).bnd _ = _
  congr 1; funext x s; cases x <;> rfl
@[simp] theorem ev_ite : evE c (.ite d a b) ⟨l, bx⟩ = (evT c d ⟨l, bx⟩).bnd fun k s1 => if k then (evE c a s1).bnd fun y s2 => .ok y.frz s2 else (evE c b s1).bnd fun y s2 => .ok y.frz s2 := rfl
@[simp] theorem ev_tup : evE c (.tup a) ⟨l, bx⟩ = (evA c a ⟨l, bx⟩).bnd fun xs s1 => if xs.length ≤ LINE then .ok (.tup xs) s1 else .bad := rfl
@[simp] theorem ev_lst : evE c (.lst a) ⟨l, bx⟩ = (evA c a ⟨l, bx⟩).bnd fun xs s1 => if xs.length ≤ LINE then .ok (.own xs) s1 else .bad := rfl
@[simp] theorem ev_bxl : evE c (.bxl a) ⟨l, bx⟩ = (evA c a ⟨l, bx⟩).bnd fun xs s1 => if xs.length ≤ LINE then .ok (.box s1.box.length) { s1 with box := s1.box ++ [xs] } else .bad := rfl
@[simp] theorem ev_dic : evE c (.dic a) ⟨l, bx⟩ = (evA c a ⟨l, bx⟩).bnd fun xs s1 => (Res.opt (pairsD xs) s1).bnd fun ps s2 => if ps.length ≤ 15 then .ok (.odc (mergeD [] ps)) s2 else .bad := rfl
@[simp] theorem ev_idx : evE c (.idx a b) ⟨l, bx⟩ = (evE c a ⟨l, bx⟩).bnd fun x s1 => (evE c b s1).bnd fun y s2 => Res.opt (ixD x.frz y.frz) s2 := rfl
@[simp] theorem ev_slc (h : E) : evE c (.slc a b h) ⟨l, bx⟩ = (evE c a ⟨l, bx⟩).bnd fun x s1 => (evO c b s1).bnd fun lo s2 => (evO c h s2).bnd fun hi s3 => Res.opt (slD x.frz lo hi) s3 := rfl
@[simp] theorem ev_call (k : Nat) : evE c (.call k a) ⟨l, bx⟩ = (evA c a ⟨l, bx⟩).bnd fun xs s1 => callR c k xs s1 := rfl
@[simp] theorem ev_blt (k : Blt) : evE c (.blt k a) ⟨l, bx⟩ = (evA c a ⟨l, bx⟩).bnd fun xs s1 => Res.opt (bltD k xs) s1 := rfl
@[simp] theorem ev_lenv : evE c (.lenv v) ⟨l, bx⟩ = Res.opt (((S.cont ⟨l, bx⟩ v).bind lenD).map fun (n : Nat) => D.int (n : Int)) ⟨l, bx⟩ := rfl
@[simp] theorem ev_isi (ts : List Ty) : evE c (.isi a ts) ⟨l, bx⟩ = (evE c a ⟨l, bx⟩).bnd fun x s1 => if isTyOk x then .ok (.bl (ts.any (isTy x.frz))) s1 else .bad := rfl
@[simp] theorem ev_ixv : evE c (.ixv v a) ⟨l, bx⟩ = if ((l[v]?).bind id).isSome then (evE c a ⟨l, bx⟩).bnd fun y s1 => Res.opt ((s1.cont v).bind fun x => ixD x y.frz) s1 else .bad := rfl
@[simp] theorem ev_slv : evE c (.slv v a b) ⟨l, bx⟩ = if ((l[v]?).bind id).isSome then (evO c a ⟨l, bx⟩).bnd fun lo s2 => (evO c b s2).bnd fun hi s3 => Res.opt ((s3.cont v).bind fun x => slD x lo hi) s3 else .bad := rfl
@[simp] theorem ev_mut (m : Mth) : evE c (.mut m v a) ⟨l, bx⟩ = if ownL ⟨l, bx⟩ v then (evA c a ⟨l, bx⟩).bnd fun xs s1 => (Res.opt (mutD s1 v m xs) s1).bnd fun p _ => .ok p.1 p.2 else .bad := rfl
/-- one turn of a comprehension -/
def lcT (c : Env) (elt tg cond : E) (own : List Nat) (d : D) (s2 : S) : Res (Option D) := (Res.opt (asgT tg d { s2 with loc := wipeL s2.loc own }) s2).bnd fun s3 _ => (evT c cond s3).nox.bnd fun k s4 =>
        if k then (evE c elt s4).nox.bnd fun y s5 => .ok (some y.frz) s5 else .ok none s4
theorem ev_lc (elt tg it cond : E) (own : List Nat) : evE c (.lc elt tg it cond own) ⟨l, bx⟩ = (evI c it ⟨l, bx⟩).bnd fun ds s1 => if ds.length ≤ LINE then
      (lcL (lcT c elt tg cond own) ds (s1.frzs own)).bnd fun ys s2 => .ok (.own ys) { s2 with loc := backL s2.loc (s1.frzs own).loc own } else .bad := rfl
@[simp] theorem eo_nil : evO c .nil ⟨l, bx⟩ = .ok none ⟨l, bx⟩ := rfl
def prtK : D → S → Res (Option Int)
  | .int i, s => .ok (some i) s
  | _, _ => .bad
@[simp] theorem prtK_i (k : Int) (s : S) : prtK (.int k) s = .ok (some k) s := rfl
@[simp] theorem eo_prt : evO c (.prt a) ⟨l, bx⟩ = (evE c a ⟨l, bx⟩).bnd prtK := by
  show (evE c a ⟨l, bx⟩).bnd _ = _
  congr 1; funext x s; cases x <;> rfl
@[simp] theorem et_nil : evT c .nil ⟨l, bx⟩ = .ok true ⟨l, bx⟩ := rfl
@[simp] theorem et_and : evT c (.and a b) ⟨l, bx⟩ = (evT c a ⟨l, bx⟩).bnd fun k s1 => if k then evT c b s1 else .ok false s1 := rfl
@[simp] theorem et_or : evT c (.or a b) ⟨l, bx⟩ = (evT c a ⟨l, bx⟩).bnd fun k s1 => if k then .ok true s1 else evT c b s1 := rfl
@[simp] theorem et_not : evT c (.not a) ⟨l, bx⟩ = (evT c a ⟨l, bx⟩).bnd fun k s1 => .ok (!k) s1 := rfl
@[simp] theorem et_tru : evT c (.tru a) ⟨l, bx⟩ = (evE c a ⟨l, bx⟩).bnd fun d s1 => Res.opt (truD d) s1 := rfl
@[simp] theorem et_trv : evT c (.trv v) ⟨l, bx⟩ = Res.opt (((l[v]?).bind id).bind truD) ⟨l, bx⟩ := rfl
@[simp] theorem ea_nil : evA c .nil ⟨l, bx⟩ = .ok [] ⟨l, bx⟩ := rfl
@[simp] theorem ea_cons : evA c (.cons a b) ⟨l, bx⟩ = (evE c a ⟨l, bx⟩).bnd fun x s1 => (evA c b s1).bnd fun xs s2 => .ok (x.frz :: xs) s2 := rfl
def r1K : D → S → Res (List D)
  | .int j, s1 => if rngOk 0 j then .ok (rangeD 0 j.toNat) s1 else .bad
  | _, _ => .bad
def r2K : D → D → S → Res (List D)
  | .int i, .int j, s2 => if rngOk i j then .ok (rangeD i (j - i).toNat) s2 else .bad
  | _, _, _ => .bad
@[simp] theorem r1K_i (j : Int) (s : S) : r1K (.int j) s = if rngOk 0 j then .ok (rangeD 0 j.toNat) s else .bad := rfl
@[simp] theorem r2K_i (i j : Int) (s : S) : r2K (.int i) (.int j) s = if rngOk i j then .ok (rangeD i (j - i).toNat) s else .bad := rfl
def zpK (o p : Option (List D)) (s : S) : Res (List D) := match o, p with
  | some xs, some ys => .ok (zipD xs ys) s
  | _, _ => .bad
@[simp] theorem zpK_s (xs ys : List D) (s : S) : zpK (some xs) (some ys) s = .ok (zipD xs ys) s := rfl
@[simp] theorem ei_r1 : evI c (.rng1 a) ⟨l, bx⟩ = (evE c a ⟨l, bx⟩).bnd r1K := by
  show (evE c a ⟨l, bx⟩).bnd _ = _
  congr 1; funext x s; cases x <;> rfl
@[simp] theorem ei_r2 : evI c (.rng2 a b) ⟨l, bx⟩ = (evE c a ⟨l, bx⟩).bnd fun x s1 => (evE c b s1).bnd (r2K x) := by
  show (evE c a ⟨l, bx⟩).bnd _ = _
  congr 1; funext x s
  congr 1; funext y s; cases x <;> cases y <;> rfl
@[simp] theorem ei_zip : evI c (.zip a b) ⟨l, bx⟩ = (evE c a ⟨l, bx⟩).bnd fun x s1 => (evE c b s1).bnd fun y s2 => zpK x.frz.items y.frz.items s2 := rfl
@[simp] theorem ei_its : evI c (.its a) ⟨l, bx⟩ = (evE c a ⟨l, bx⟩).bnd fun x s1 => Res.opt x.frz.items s1 := rfl
end
@[simp] theorem items_tup (xs : List D) : (D.tup xs).items = some xs := rfl
@[simp] theorem items_lst (xs : List D) : (D.lst xs).items = some xs := rfl
section
variable (c : Env) (L : Nat) (l : List (Option D)) (bx : List (List D)) (a b : E) (x y : St) (v w : Nat)
@[simp] theorem es_nil : evS c L .nil ⟨l, bx⟩ = .ok .nx ⟨l, bx⟩ := rfl
def seqK (c : Env) (L : Nat) (y : St) : Flow → S → Res Flow
  | .nx, s1 => evS c L y s1
  | fl, s1 => .ok fl s1
@[simp] theorem seqK_nx (s : S) : seqK c L y .nx s = evS c L y s := rfl
@[simp] theorem seqK_rt (d : D) (s : S) : seqK c L y (.rt d) s = .ok (.rt d) s := rfl
@[simp] theorem seqK_bk (s : S) : seqK c L y .bk s = .ok .bk s := rfl
@[simp] theorem seqK_ct (s : S) : seqK c L y .ct s = .ok .ct s := rfl
@[simp] theorem es_seq : evS c L (.seq x y) ⟨l, bx⟩ = (evS c L x ⟨l, bx⟩).bnd (seqK c L y) := by
  show (evS c L x ⟨l, bx⟩).bnd _ = _
  congr 1; funext f s; cases f <;> rfl
@[simp] theorem es_asg : evS c L (.asg a b) ⟨l, bx⟩ = (evE c b ⟨l, bx⟩).bnd fun d s1 => (Res.opt (asgT a d s1) s1).bnd fun s2 _ => .ok .nx s2 := rfl
@[simp] theorem es_asv : evS c L (.asv v b) ⟨l, bx⟩ = (evE c b ⟨l, bx⟩).bnd fun d s1 => if v < s1.loc.length then .ok .nx (s1.put v d) else .bad := rfl
@[simp] theorem es_par : evS c L (.par v w a b) ⟨l, bx⟩ = (evE c a ⟨l, bx⟩).bnd fun x s1 => (evE c b s1).bnd fun y s2 => if v < s2.loc.length ∧ w < s2.loc.length ∧ v ≠ w then .ok .nx ((s2.put v x).put w y) else .bad := rfl
@[simp] theorem es_set : evS c L (.set v a b) ⟨l, bx⟩ = (evE c b ⟨l, bx⟩).bnd fun x s1 => if (s1.get v).isSome then (evE c a s1).bnd fun k s2 => (Res.opt (s2.setItem v k.frz x.frz) s2).bnd fun s3 _ => .ok .nx s3 else .bad := rfl
def augK (c : Env) (v : Nat) (o : BOp) (b : E) (s : S) : Option D → Res Flow
  | some x => (evE c b s).bnd fun y s1 => (Res.opt (opA o x y.frz) s1).bnd fun z s2 => .ok .nx (s2.put v z)
  | none => .bad
@[simp] theorem augK_s (o : BOp) (s : S) (d : D) : augK c v o b s (some d) = (evE c b s).bnd fun y s1 => (Res.opt (opA o d y.frz) s1).bnd fun z s2 => .ok .nx (s2.put v z) := rfl
@[simp] theorem es_aug (o : BOp) : evS c L (.aug v o b) ⟨l, bx⟩ = augK c v o b ⟨l, bx⟩ ((l[v]?).bind id) := by
  show (match (S.mk l bx).get v with | some x => (evE c b ⟨l, bx⟩).bnd fun y s1 => (Res.opt (opA o x y.frz) s1).bnd fun z s2 => (Res.ok Flow.nx (s2.put v z) : Res Flow) | none => (Res.bad : Res Flow)) = _
  rw [get_mk]
  cases (l[v]?).bind id <;> rfl
@[simp] theorem es_ex : evS c L (.ex a) ⟨l, bx⟩ = (evE c a ⟨l, bx⟩).bnd fun _ s1 => .ok .nx s1 := rfl
@[simp] theorem es_ret : evS c L (.ret a) ⟨l, bx⟩ = (evE c a ⟨l, bx⟩).bnd fun d s1 => .ok (.rt d) s1 := rfl
@[simp] theorem es_retN : evS c L .retN ⟨l, bx⟩ = .ok (.rt .non) ⟨l, bx⟩ := rfl
@[simp] theorem es_ite : evS c L (.ite a x y) ⟨l, bx⟩ = (evT c a ⟨l, bx⟩).bnd fun k s1 => if k then evS c L x s1 else evS c L y s1 := rfl
@[simp] theorem es_whl : evS c L (.whl a x) ⟨l, bx⟩ = whlL (evT c a) (evS c L x) L ⟨l, bx⟩ := rfl
/-- one turn of a for -/
def forT (c : Env) (L : Nat) (tg : E) (x : St) (d : D) (s2 : S) : Res Flow := (Res.opt (asgT tg d s2) s2).bnd fun s3 _ => evS c L x s3
@[simp] theorem es_for : evS c L (.for a b x) ⟨l, bx⟩ = (evI c b ⟨l, bx⟩).bnd fun ds s1 => forL (forT c L a x) ds s1 := rfl
@[simp] theorem es_pass : evS c L .pass ⟨l, bx⟩ = .ok .nx ⟨l, bx⟩ := rfl
@[simp] theorem es_brk : evS c L .brk ⟨l, bx⟩ = .ok .bk ⟨l, bx⟩ := rfl
@[simp] theorem es_cnt : evS c L .cnt ⟨l, bx⟩ = .ok .ct ⟨l, bx⟩ := rfl
theorem whl_t {t : S → Res Bool} {f : S → Res Flow} {m : Nat} {s s1 s2 : S} {r : Res Flow} (h1 : t s = .ok true s1) (h2 : f s1 = .ok .nx s2) (h3 : whlL t f m s2 = r) : whlL t f (m + 1) s = r := by
  unfold whlL
  rw [h1, Res.bnd_ok, if_pos rfl, h2]
  exact h3
theorem whl_f {t : S → Res Bool} {f : S → Res Flow} {m : Nat} {s s1 : S} (h1 : t s = .ok false s1) : whlL t f (m + 1) s = .ok .nx s1 := by
  unfold whlL
  rw [h1]; rfl
end
section
variable (c : Env) (l : List (Option D)) (bx : List (List D)) (v : Nat)
/-- a container at a slot -/
def ctD (bx : List (List D)) : D → Option D
  | .box k => (bx[k]?).map .own
  | d => some d
@[simp] theorem cont_mk : (S.mk l bx).cont v = ((l[v]?).bind id).bind (ctD bx) := by
  show (((l[v]?).bind id).bind _) = _
  congr 1
@[simp] theorem ctD_tup (xs : List D) : ctD bx (.tup xs) = some (.tup xs) := rfl
@[simp] theorem ctD_lst (xs : List D) : ctD bx (.lst xs) = some (.lst xs) := rfl
@[simp] theorem ctD_own (xs : List D) : ctD bx (.own xs) = some (.own xs) := rfl
@[simp] theorem ctD_scr (xs : List Int) : ctD bx (.scr xs) = some (.scr xs) := rfl
@[simp] theorem ctD_box (k : Nat) : ctD bx (.box k) = (bx[k]?).map .own := rfl
end
@[simp] theorem opB_addI (i j : Int) : opB .add (.int i) (.int j) = some (.int (i + j)) := rfl
@[simp] theorem opB_subI (i j : Int) : opB .sub (.int i) (.int j) = some (.int (i - j)) := rfl
@[simp] theorem opB_mulI (i j : Int) : opB .mul (.int i) (.int j) = if mulOk i j then some (.int (i * j)) else none := rfl
@[simp] theorem opB_divI (i j : Int) : opB .fdiv (.int i) (.int j) = if divOk j then some (.int (i.fdiv j)) else none := rfl
@[simp] theorem opB_modI (i j : Int) : opB .mod (.int i) (.int j) = if j ≠ 0 then some (.int (i.fmod j)) else none := rfl
@[simp] theorem opB_powI (i j : Int) : opB .pow (.int i) (.int j) = if powOk i j then some (.int (i ^ j.toNat)) else none := rfl
@[simp] theorem opB_addT (i j : List D) : opB .add (.tup i) (.tup j) = if i.length + j.length ≤ LINE then some (.tup (i ++ j)) else none := rfl
@[simp] theorem opB_addL (i j : List D) : opB .add (.lst i) (.lst j) = if i.length + j.length ≤ LINE then some (.own (i ++ j)) else none := rfl
@[simp] theorem opB_mulT (i : List D) (j : Int) : opB .mul (.tup i) (.int j) = if repTOk i.length j then some (.tup (rep i j)) else none := rfl
@[simp] theorem opC_lt (i j : Int) : opC .lt (.int i) (.int j) = some (decide (i < j)) := rfl
@[simp] theorem opC_le (i j : Int) : opC .le (.int i) (.int j) = some (decide (i ≤ j)) := rfl
@[simp] theorem opC_gt (i j : Int) : opC .gt (.int i) (.int j) = some (decide (j < i)) := rfl
@[simp] theorem opC_ge (i j : Int) : opC .ge (.int i) (.int j) = some (decide (j ≤ i)) := rfl
@[simp] theorem opC_eq (x y : D) : opC .eq x y = if shN 60 x && shN 60 y then some (eqD x y) else none := by cases x <;> cases y <;> rfl
@[simp] theorem opC_ne (x y : D) : opC .ne x y = if shN 60 x && shN 60 y then some (!eqD x y) else none := by cases x <;> cases y <;> rfl
@[simp] theorem blt_len (d : D) : bltD .len [d] = (lenD d).map fun (n : Nat) => D.int (n : Int) := rfl
@[simp] theorem blt_abs (i : Int) : bltD .abs [.int i] = some (.int (if i < 0 then -i else i)) := rfl
@[simp] theorem blt_int (i : Int) : bltD .int [.int i] = some (.int i) := rfl
@[simp] theorem blt_intb (i : Bool) : bltD .int [.bl i] = some (.int (if i then 1 else 0)) := rfl
@[simp] theorem blt_all (xs : List D) : bltD .all [.lst xs] = (allB xs).map fun bs => .bl (bs.all id) := rfl
@[simp] theorem blt_any (xs : List D) : bltD .any [.lst xs] = (allB xs).map fun bs => .bl (bs.any id) := rfl
@[simp] theorem blt_tupL (xs : List D) : bltD .tuple [.lst xs] = some (.tup xs) := rfl
@[simp] theorem blt_tupT (xs : List D) : bltD .tuple [.tup xs] = some (.tup xs) := rfl
@[simp] theorem blt_lstL (xs : List D) : bltD .list [.lst xs] = some (.own xs) := rfl
@[simp] theorem blt_lstT (xs : List D) : bltD .list [.tup xs] = some (.own xs) := rfl
@[simp] theorem lenD_tup (xs : List D) : lenD (.tup xs) = some xs.length := rfl
@[simp] theorem lenD_lst (xs : List D) : lenD (.lst xs) = some xs.length := rfl
@[simp] theorem lenD_own (xs : List D) : lenD (.own xs) = some xs.length := rfl
@[simp] theorem lenD_scr (xs : List Int) : lenD (.scr xs) = some xs.length := rfl
@[simp] theorem ixD_tup (xs : List D) (i : Int) : ixD (.tup xs) (.int i) = atI xs i := rfl
@[simp] theorem ixD_lst (xs : List D) (i : Int) : ixD (.lst xs) (.int i) = atI xs i := rfl
@[simp] theorem ixD_own (xs : List D) (i : Int) : ixD (.own xs) (.int i) = atI xs i := rfl
@[simp] theorem truD_bl (k : Bool) : truD (.bl k) = some k := rfl
@[simp] theorem truD_int (k : Int) : truD (.int k) = some (k != 0) := rfl
@[simp] theorem eqD_int (i j : Int) : eqD (.int i) (.int j) = (i == j) := rfl
@[simp] theorem eqD_bl (i j : Bool) : eqD (.bl i) (.bl j) = (i == j) := rfl
@[simp] theorem shN_int (n : Nat) (i : Int) : shN n (.int i) = true := by cases n <;> rfl
@[simp] theorem shN_bl (n : Nat) (i : Bool) : shN n (.bl i) = true := by cases n <;> rfl
@[simp] theorem shN_non (n : Nat) : shN n .non = true := by cases n <;> rfl
@[simp] theorem shN_tup (n : Nat) (xs : List D) : shN (n + 1) (.tup xs) = xs.all (shN n) := rfl
@[simp] theorem shN_lst (n : Nat) (xs : List D) : shN (n + 1) (.lst xs) = xs.all (shN n) := rfl
@[simp] theorem bnd_bnd {α β γ : Type} (r : Res α) (f : α → S → Res β) (g : β → S → Res γ) : (r.bnd f).bnd g = r.bnd fun a s => (f a s).bnd g := by cases r <;> rfl
@[simp] theorem line_lit : LINE = 16777216 := rfl
theorem callN_eq {tb : Nat → Option Fn} {gb : Nat → Option D} {L n k : Nat} {f : Fn} (h : tb k = some f) (xs : List D) (b : List (List D)) : callN tb gb L (n + 1) k xs b = runF ⟨callN tb gb L n, gb⟩ L f xs b := by
  show (match tb k with | some f => runF ⟨callN tb gb L n, gb⟩ L f xs b | none => .bad) = _
  rw [h]
theorem callR_ok {c : Env} {k : Nat} {xs : List D} {l : List (Option D)} {b b' : List (List D)} {d : D} (h : c.call k xs b = .ok d b') : callR c k xs ⟨l, b⟩ = .ok d ⟨l, b'⟩ := by
  unfold callR; rw [show (S.mk l b).box = b from rfl, h]
theorem runF_rt {c : Env} {L : Nat} {f : Fn} {xs : List D} {b : List (List D)} {d : D} {s : S} (hn : xs.length = f.np) (h : evS c L f.body ⟨startL f xs, b⟩ = .ok (.rt d) s) : runF c L f xs b = .ok d s.box := by
  unfold runF; rw [if_pos hn, h]
theorem runF_nx {c : Env} {L : Nat} {f : Fn} {xs : List D} {b : List (List D)} {s : S} (hn : xs.length = f.np) (h : evS c L f.body ⟨startL f xs, b⟩ = .ok .nx s) : runF c L f xs b = .ok .non s.box := by
  unfold runF; rw [if_pos hn, h]
end Q
end

section
set_option maxRecDepth 100000
set_option maxHeartbeats 4000000
/-! QLc: loops and comprehensions by their turns. -/
namespace Q
open PySem L2

theorem back_wipe {l l2 : List (Option D)} {own : List Nat} (h : wipeL l2 own = wipeL l own) : backL l2 l own = l := by
  have hl : l2.length = l.length := by rw [← wipeL_len l2 own, h, wipeL_len]
  refine List.ext_getElem? fun i => ?_
  by_cases hi : i ∈ own
  · by_cases hlt : i < l2.length
    · rw [backL_in hi hlt]
      have : i < l.length := by omega
      rw [List.getElem?_eq_getElem this]; rfl
    · rw [List.getElem?_eq_none (by rw [backL_len]; omega), List.getElem?_eq_none (by omega)]
  · rw [backL_out hi, ← wipeL_out (l := l2) hi, h, wipeL_out hi]
/-- a comprehension's turns, the boxes going along -/
theorem lcL_st {f : D → S → Res (Option D)} {ds : List D} {own : List Nat} {w : List (Option D)} (Pr : Nat → List (List D) → List D → Prop)
    (h : ∀ i d bx acc l, ds[i]? = some d → Pr i bx acc → wipeL l own = w → ∃ l' bx' y, f d ⟨l, bx⟩ = .ok y ⟨l', bx'⟩ ∧ wipeL l' own = w ∧ Pr (i + 1) bx' (acc ++ y.toList)) :
    ∀ (r : Nat) (i : Nat) (bx : List (List D)) (acc : List D) (l : List (Option D)), ds.length - i = r → i ≤ ds.length → Pr i bx acc → wipeL l own = w → ∃ l' bx' ys, lcL f (ds.drop i) ⟨l, bx⟩ = .ok ys ⟨l', bx'⟩ ∧ wipeL l' own = w ∧ Pr ds.length bx' (acc ++ ys)
  | 0, i, bx, acc, l, hr, hi, hp, hw => by
    have e : i = ds.length := by omega
    subst e
    rw [List.drop_length]
    exact ⟨l, bx, [], rfl, hw, by rw [List.append_nil]; exact hp⟩
  | r + 1, i, bx, acc, l, hr, hi, hp, hw => by
    have hlt : i < ds.length := by omega
    obtain ⟨l1, bx1, y, e1, w1, p1⟩ := h i ds[i] bx acc l (by simp [hlt]) hp hw
    obtain ⟨l2, bx2, ys, e2, w2, p2⟩ := lcL_st Pr h r (i + 1) bx1 (acc ++ y.toList) l1 (by omega) hlt p1 w1
    refine ⟨l2, bx2, y.toList ++ ys, ?_, w2, by rw [← List.append_assoc]; exact p2⟩
    rw [List.drop_eq_getElem_cons hlt]
    unfold lcL
    rw [e1, Res.bnd_ok, e2, Res.bnd_ok]
    cases y <;> rfl
theorem lcT_eq {c : Env} {elt tg cond : E} {own : List Nat} {d y : D} {b : Bool} {l l2 l3 l4 : List (Option D)} {bx bx2 bx3 : List (List D)} (h1 : asgT tg d ⟨wipeL l own, bx⟩ = some ⟨l2, bx⟩) (h2 : evT c cond ⟨l2, bx⟩ = .ok b ⟨l3, bx2⟩) (h3 : b = true → evE c elt ⟨l3, bx2⟩ = .ok y ⟨l4, bx3⟩) :
    lcT c elt tg cond own d ⟨l, bx⟩ = if b then .ok (some y.frz) ⟨l4, bx3⟩ else .ok none ⟨l3, bx2⟩ := by
  unfold lcT
  rw [h1, Res.opt_some, Res.bnd_ok, h2]
  cases b with
  | false => rfl
  | true =>
    show ((evE c elt ⟨l3, bx2⟩).nox.bnd fun y s5 => Res.ok (some y.frz) s5) = _
    rw [h3 rfl]; rfl
/-- a comprehension that leaves the boxes, every item taken -/
theorem lc_map {c : Env} {elt tg it : E} {own : List Nat} {ds : List D} {g : D → D} {l l1 : List (Option D)} {bx : List (List D)} (hi : evI c it ⟨l, bx⟩ = .ok ds ⟨l1, bx⟩) (hl : ds.length ≤ LINE) (hf : S.frzs ⟨l1, bx⟩ own = ⟨l1, bx⟩)
    (h : ∀ d, d ∈ ds → ∃ l2 l3 y, asgT tg d ⟨wipeL l1 own, bx⟩ = some ⟨l2, bx⟩ ∧ evE c elt ⟨l2, bx⟩ = .ok y ⟨l3, bx⟩ ∧ y.frz = g d ∧ wipeL l3 own = wipeL l1 own) :
    evE c (.lc elt tg it .nil own) ⟨l, bx⟩ = .ok (.own (ds.map g)) ⟨l1, bx⟩ := by
  rw [ev_lc, hi, Res.bnd_ok, if_pos hl, hf]
  obtain ⟨l2, bx2, ys, e1, w1, e2, e3⟩ := lcL_st (f := lcT c elt tg .nil own) (ds := ds) (own := own) (w := wipeL l1 own) (fun i b acc => b = bx ∧ acc = (ds.take i).map g) (fun i d b acc l' hd hp hw => by
    obtain ⟨rfl, rfl⟩ := hp
    obtain ⟨l2, l3, y, a1, a2, a3, a4⟩ := h d (List.mem_of_getElem? hd)
    refine ⟨l3, b, some y.frz, (lcT_eq (cond := .nil) (b := true) (by rw [hw]; exact a1) rfl (fun _ => a2)).trans rfl, a4, rfl, ?_⟩
    obtain ⟨q1, q2⟩ := List.getElem?_eq_some_iff.mp hd
    rw [List.take_succ_eq_append_getElem q1, List.map_append, q2, a3]; rfl) _ 0 bx [] l1 rfl (Nat.zero_le _) ⟨rfl, by simp⟩ rfl
  rw [List.drop_zero] at e1
  rw [e1, Res.bnd_ok]
  subst e2
  rw [List.nil_append, List.take_length] at e3
  subst e3
  rw [back_wipe w1]
theorem lc_mapA {α : Type} (xs : List α) (f g : α → D) {c : Env} {elt tg it : E} {own : List Nat} {l l1 : List (Option D)} {bx : List (List D)} (hi : evI c it ⟨l, bx⟩ = .ok (xs.map f) ⟨l1, bx⟩) (hl : xs.length ≤ LINE) (hf : S.frzs ⟨l1, bx⟩ own = ⟨l1, bx⟩)
    (h : ∀ x, x ∈ xs → ∃ l2 l3 y, asgT tg (f x) ⟨wipeL l1 own, bx⟩ = some ⟨l2, bx⟩ ∧ evE c elt ⟨l2, bx⟩ = .ok y ⟨l3, bx⟩ ∧ y.frz = g x ∧ wipeL l3 own = wipeL l1 own) :
    evE c (.lc elt tg it .nil own) ⟨l, bx⟩ = .ok (.own (xs.map g)) ⟨l1, bx⟩ := by
  rw [ev_lc, hi, Res.bnd_ok, if_pos (by simpa using hl), hf]
  obtain ⟨l2, bx2, ys, e1, w1, e2, e3⟩ := lcL_st (f := lcT c elt tg .nil own) (ds := xs.map f) (own := own) (w := wipeL l1 own) (fun i b acc => b = bx ∧ acc = (xs.take i).map g) (fun i d b acc l' hd hp hw => by
    obtain ⟨rfl, rfl⟩ := hp
    rw [List.getElem?_map] at hd
    obtain ⟨x, hx, rfl⟩ := map_inv hd
    obtain ⟨l2, l3, y, a1, a2, a3, a4⟩ := h x (List.mem_of_getElem? hx)
    refine ⟨l3, b, some y.frz, (lcT_eq (cond := .nil) (b := true) (by rw [hw]; exact a1) rfl (fun _ => a2)).trans rfl, a4, rfl, ?_⟩
    obtain ⟨q1, q2⟩ := List.getElem?_eq_some_iff.mp hx
    rw [List.take_succ_eq_append_getElem q1, List.map_append, q2, a3]; rfl) _ 0 bx [] l1 rfl (Nat.zero_le _) ⟨rfl, by simp⟩ rfl
  rw [List.drop_zero] at e1
  rw [e1, Res.bnd_ok]
  subst e2
  rw [List.nil_append, List.length_map, List.take_length] at e3
  subst e3
  rw [back_wipe w1]
theorem zipD_map {α β : Type} (f : α → D) (g : β → D) : ∀ (xs : List α) (ys : List β), zipD (xs.map f) (ys.map g) = (xs.zip ys).map fun p => .tup [f p.1, g p.2]
  | [], ys => by cases ys <;> rfl
  | x :: xs, [] => rfl
  | x :: xs, y :: ys => by
    show D.tup [f x, g y] :: zipD (xs.map f) (ys.map g) = _
    rw [zipD_map f g xs ys]; rfl
/-- .. some items taken -/
theorem lc_filter {c : Env} {elt tg it cond : E} {own : List Nat} {ds : List D} {p : D → Bool} {g : D → D} {l l1 : List (Option D)} {bx : List (List D)} (hi : evI c it ⟨l, bx⟩ = .ok ds ⟨l1, bx⟩) (hl : ds.length ≤ LINE) (hf : S.frzs ⟨l1, bx⟩ own = ⟨l1, bx⟩)
    (h : ∀ d, d ∈ ds → ∃ l2 l3 l4 y, asgT tg d ⟨wipeL l1 own, bx⟩ = some ⟨l2, bx⟩ ∧ evT c cond ⟨l2, bx⟩ = .ok (p d) ⟨l3, bx⟩ ∧ wipeL l3 own = wipeL l1 own ∧ (p d = true → evE c elt ⟨l3, bx⟩ = .ok y ⟨l4, bx⟩ ∧ y.frz = g d ∧ wipeL l4 own = wipeL l1 own)) :
    evE c (.lc elt tg it cond own) ⟨l, bx⟩ = .ok (.own ((ds.filter p).map g)) ⟨l1, bx⟩ := by
  rw [ev_lc, hi, Res.bnd_ok, if_pos hl, hf]
  obtain ⟨l2, bx2, ys, e1, w1, e2, e3⟩ := lcL_st (f := lcT c elt tg cond own) (ds := ds) (own := own) (w := wipeL l1 own) (fun i b acc => b = bx ∧ acc = ((ds.take i).filter p).map g) (fun i d b acc l' hd hp hw => by
    obtain ⟨rfl, rfl⟩ := hp
    obtain ⟨l2, l3, l4, y, a1, a2, a3, a4⟩ := h d (List.mem_of_getElem? hd)
    obtain ⟨q1, q2⟩ := List.getElem?_eq_some_iff.mp hd
    have e := lcT_eq (elt := elt) (y := y) (l4 := l4) (bx3 := b) (by rw [hw]; exact a1) a2 (fun z => (a4 z).1)
    rw [List.take_succ_eq_append_getElem q1, List.filter_append, List.map_append, q2]
    cases hp : p d with
    | false =>
      rw [hp] at e
      exact ⟨l3, b, none, e, a3, rfl, by simp [hp]⟩
    | true =>
      rw [hp] at e
      obtain ⟨_, a5, a6⟩ := a4 hp
      exact ⟨l4, b, some y.frz, e, a6, rfl, by simp [hp, a5]⟩) _ 0 bx [] l1 rfl (Nat.zero_le _) ⟨rfl, by simp⟩ rfl
  rw [List.drop_zero] at e1
  rw [e1, Res.bnd_ok]
  subst e2
  rw [List.nil_append, List.take_length] at e3
  subst e3
  rw [back_wipe w1]
theorem lc_filterA {α : Type} {c : Env} {elt tg it cond : E} {own : List Nat} {l l1 : List (Option D)} {bx : List (List D)} (xs : List α) (e : α → D) (p : α → Bool) (g : α → D) (hi : evI c it ⟨l, bx⟩ = .ok (xs.map e) ⟨l1, bx⟩) (hl : xs.length ≤ LINE) (hf : S.frzs ⟨l1, bx⟩ own = ⟨l1, bx⟩)
    (h : ∀ x, x ∈ xs → ∃ l2 l3 l4 y, asgT tg (e x) ⟨wipeL l1 own, bx⟩ = some ⟨l2, bx⟩ ∧ evT c cond ⟨l2, bx⟩ = .ok (p x) ⟨l3, bx⟩ ∧ wipeL l3 own = wipeL l1 own ∧ (p x = true → evE c elt ⟨l3, bx⟩ = .ok y ⟨l4, bx⟩ ∧ y.frz = g x ∧ wipeL l4 own = wipeL l1 own)) :
    evE c (.lc elt tg it cond own) ⟨l, bx⟩ = .ok (.own ((xs.filter p).map g)) ⟨l1, bx⟩ := by
  rw [ev_lc, hi, Res.bnd_ok, if_pos (by simpa using hl), hf]
  obtain ⟨l2, bx2, ys, e1, w1, e2, e3⟩ := lcL_st (f := lcT c elt tg cond own) (ds := xs.map e) (own := own) (w := wipeL l1 own) (fun i b acc => b = bx ∧ acc = ((xs.take i).filter p).map g) (fun i d b acc l' hd hp hw => by
    obtain ⟨rfl, rfl⟩ := hp
    rw [List.getElem?_map] at hd
    obtain ⟨x, hx, rfl⟩ := map_inv hd
    obtain ⟨l2, l3, l4, y, a1, a2, a3, a4⟩ := h x (List.mem_of_getElem? hx)
    obtain ⟨q1, q2⟩ := List.getElem?_eq_some_iff.mp hx
    have e := lcT_eq (elt := elt) (y := y) (l4 := l4) (bx3 := b) (by rw [hw]; exact a1) a2 (fun z => (a4 z).1)
    rw [List.take_succ_eq_append_getElem q1, List.filter_append, List.map_append, q2]
    cases hp : p x with
    | false =>
      rw [hp] at e
      exact ⟨l3, b, none, e, a3, rfl, by simp [hp]⟩
    | true =>
      rw [hp] at e
      obtain ⟨_, a5, a6⟩ := a4 hp
      exact ⟨l4, b, some y.frz, e, a6, rfl, by simp [hp, a5]⟩) _ 0 bx [] l1 rfl (Nat.zero_le _) ⟨rfl, by simp⟩ rfl
  rw [List.drop_zero] at e1
  rw [e1, Res.bnd_ok]
  subst e2
  rw [List.nil_append, List.length_map, List.take_length] at e3
  subst e3
  rw [back_wipe w1]
/-- .. every item taken, the boxes going along -/
theorem lc_st {c : Env} {elt tg it : E} {own : List Nat} {ds : List D} {l l1 : List (Option D)} {bx bx1 : List (List D)} (Pr : Nat → List (List D) → List D → Prop) (hi : evI c it ⟨l, bx⟩ = .ok ds ⟨l1, bx1⟩) (hl : ds.length ≤ LINE) (hf : S.frzs ⟨l1, bx1⟩ own = ⟨l1, bx1⟩) (h0 : Pr 0 bx1 [])
    (h : ∀ i d b acc, ds[i]? = some d → Pr i b acc → ∃ l2 l3 b' y, asgT tg d ⟨wipeL l1 own, b⟩ = some ⟨l2, b⟩ ∧ evE c elt ⟨l2, b⟩ = .ok y ⟨l3, b'⟩ ∧ wipeL l3 own = wipeL l1 own ∧ Pr (i + 1) b' (acc ++ [y.frz])) :
    ∃ b' ys, evE c (.lc elt tg it .nil own) ⟨l, bx⟩ = .ok (.own ys) ⟨l1, b'⟩ ∧ Pr ds.length b' ys := by
  obtain ⟨l2, bx2, ys, e1, w1, e2⟩ := lcL_st (f := lcT c elt tg .nil own) (ds := ds) (own := own) (w := wipeL l1 own) Pr (fun i d b acc l' hd hp hw => by
    obtain ⟨l2, l3, b', y, a1, a2, a3, a4⟩ := h i d b acc hd hp
    exact ⟨l3, b', some y.frz, (lcT_eq (cond := .nil) (b := true) (by rw [hw]; exact a1) rfl (fun _ => a2)).trans rfl, a3, a4⟩) _ 0 bx1 [] l1 rfl (Nat.zero_le _) h0 rfl
  refine ⟨bx2, ys, ?_, by simpa using e2⟩
  rw [ev_lc, hi, Res.bnd_ok, if_pos hl, hf]
  rw [List.drop_zero] at e1
  rw [e1, Res.bnd_ok, back_wipe w1]
/-- a comprehension in general, by the wiped slots -/
theorem lcL_gen {f : D → S → Res (Option D)} {ds : List D} {own : List Nat} (Pr : Nat → List (Option D) → List (List D) → List D → Prop)
    (h : ∀ i d bx acc l, ds[i]? = some d → Pr i (wipeL l own) bx acc → ∃ l' bx' y, f d ⟨l, bx⟩ = .ok y ⟨l', bx'⟩ ∧ Pr (i + 1) (wipeL l' own) bx' (acc ++ y.toList)) :
    ∀ (r : Nat) (i : Nat) (bx : List (List D)) (acc : List D) (l : List (Option D)), ds.length - i = r → i ≤ ds.length → Pr i (wipeL l own) bx acc → ∃ l' bx' ys, lcL f (ds.drop i) ⟨l, bx⟩ = .ok ys ⟨l', bx'⟩ ∧ Pr ds.length (wipeL l' own) bx' (acc ++ ys)
  | 0, i, bx, acc, l, hr, hi, hp => by
    have e : i = ds.length := by omega
    subst e
    rw [List.drop_length]
    exact ⟨l, bx, [], rfl, by rw [List.append_nil]; exact hp⟩
  | r + 1, i, bx, acc, l, hr, hi, hp => by
    have hlt : i < ds.length := by omega
    obtain ⟨l1, bx1, y, e1, p1⟩ := h i ds[i] bx acc l (by simp [hlt]) hp
    obtain ⟨l2, bx2, ys, e2, p2⟩ := lcL_gen Pr h r (i + 1) bx1 (acc ++ y.toList) l1 (by omega) hlt p1
    refine ⟨l2, bx2, y.toList ++ ys, ?_, by rw [← List.append_assoc]; exact p2⟩
    rw [List.drop_eq_getElem_cons hlt]
    unfold lcL
    rw [e1, Res.bnd_ok, e2, Res.bnd_ok]
    cases y <;> rfl
theorem lc_gen {c : Env} {elt tg it : E} {own : List Nat} {ds : List D} {l l1 : List (Option D)} {bx bx1 : List (List D)} (Pr : Nat → List (Option D) → List (List D) → List D → Prop) (hi : evI c it ⟨l, bx⟩ = .ok ds ⟨l1, bx1⟩) (hl : ds.length ≤ LINE) (hf : S.frzs ⟨l1, bx1⟩ own = ⟨l1, bx1⟩) (h0 : Pr 0 (wipeL l1 own) bx1 [])
    (h : ∀ i d w b acc, ds[i]? = some d → Pr i w b acc → ∃ l2 l3 b' y, asgT tg d ⟨w, b⟩ = some ⟨l2, b⟩ ∧ evE c elt ⟨l2, b⟩ = .ok y ⟨l3, b'⟩ ∧ Pr (i + 1) (wipeL l3 own) b' (acc ++ [y.frz])) :
    ∃ l' b' ys, evE c (.lc elt tg it .nil own) ⟨l, bx⟩ = .ok (.own ys) ⟨backL l' l1 own, b'⟩ ∧ Pr ds.length (wipeL l' own) b' ys := by
  obtain ⟨l2, bx2, ys, e1, e2⟩ := lcL_gen (f := lcT c elt tg .nil own) (ds := ds) (own := own) Pr (fun i d b acc l' hd hp => by
    obtain ⟨l2, l3, b', y, a1, a2, a3⟩ := h i d _ b acc hd hp
    exact ⟨l3, b', some y.frz, (lcT_eq (cond := .nil) (b := true) a1 rfl (fun _ => a2)).trans rfl, a3⟩) _ 0 bx1 [] l1 rfl (Nat.zero_le _) h0
  refine ⟨l2, bx2, ys, ?_, by simpa using e2⟩
  rw [ev_lc, hi, Res.bnd_ok, if_pos hl, hf]
  rw [List.drop_zero] at e1
  rw [e1, Res.bnd_ok]
theorem back_wipe' {l l2 ln : List (Option D)} {own : List Nat} (h : wipeL l2 own = wipeL ln own) (ho : ∀ i, i ∈ own → ln[i]? = l[i]?) (hl : ln.length = l.length) : backL l2 l own = ln := by
  have hl2 : l2.length = ln.length := by rw [← wipeL_len l2 own, h, wipeL_len]
  refine List.ext_getElem? fun i => ?_
  by_cases hi : i ∈ own
  · by_cases hlt : i < l2.length
    · rw [backL_in hi hlt, ho i hi]
      have : i < l.length := by omega
      rw [List.getElem?_eq_getElem this]; rfl
    · rw [List.getElem?_eq_none (by rw [backL_len]; omega), List.getElem?_eq_none (by omega)]
  · rw [backL_out hi, ← wipeL_out (l := l2) hi, h, wipeL_out hi]
@[simp] theorem allB_nil : allB [] = some [] := rfl
@[simp] theorem allB_cons (b : Bool) (r : List D) : allB (.bl b :: r) = (allB r).map (b :: ·) := rfl
theorem allB_map {α : Type} (f : α → Bool) : ∀ ds : List α, allB (ds.map fun d => D.bl (f d)) = some (ds.map f)
  | [] => rfl
  | d :: ds => by
    show (allB (ds.map fun d => D.bl (f d))).map (f d :: ·) = _
    rw [allB_map f ds]; rfl
/-- a for, turn by turn -/
theorem forL_st {f : D → S → Res Flow} {ds : List D} (Pr : Nat → S → Prop) (h : ∀ i d s, ds[i]? = some d → Pr i s → ∃ s', (f d s = .ok .nx s' ∨ f d s = .ok .ct s') ∧ Pr (i + 1) s') :
    ∀ (r i : Nat) (s : S), ds.length - i = r → i ≤ ds.length → Pr i s → ∃ s', forL f (ds.drop i) s = .ok .nx s' ∧ Pr ds.length s'
  | 0, i, s, hr, hi, hp => by
    have e : i = ds.length := by omega
    subst e
    rw [List.drop_length]
    exact ⟨s, rfl, hp⟩
  | r + 1, i, s, hr, hi, hp => by
    have hlt : i < ds.length := by omega
    obtain ⟨s1, e1, p1⟩ := h i ds[i] s (by simp [hlt]) hp
    obtain ⟨s2, e2, p2⟩ := forL_st Pr h r (i + 1) s1 (by omega) hlt p1
    refine ⟨s2, ?_, p2⟩
    rw [List.drop_eq_getElem_cons hlt]
    unfold forL
    rcases e1 with e1 | e1 <;> (rw [e1, Res.bnd_ok]; exact e2)
theorem for_st {f : D → S → Res Flow} {ds : List D} {s : S} (Pr : Nat → S → Prop) (h0 : Pr 0 s) (h : ∀ i d s, ds[i]? = some d → Pr i s → ∃ s', (f d s = .ok .nx s' ∨ f d s = .ok .ct s') ∧ Pr (i + 1) s') : ∃ s', forL f ds s = .ok .nx s' ∧ Pr ds.length s' := by
  have := forL_st Pr h _ 0 s rfl (Nat.zero_le _) h0
  rwa [List.drop_zero] at this
end Q
end

section
set_option maxRecDepth 100000
set_option maxHeartbeats 4000000
/-! QMath: what the small defs of shares do. -/
namespace Q
open PySem L2

/-- the gcd by Euclid, as the loop goes -/
def cmC : E := (.tru (.cmp .ne (.var 1) (.cst (.int 0))))
def cmB : St := (.seq (.par 0 1 (.var 1) (.bin .mod (.var 0) (.var 1))) .nil)
def irCommon : St := (.seq (.whl cmC cmB) (.seq (.ret (.blt .abs (.cons (.var 0) .nil))) .nil))
theorem common_loop (c : Env) (L : Nat) (bx : List (List D)) : ∀ (m : Nat) (a b : Int), 0 ≤ b → b.toNat < m → ∃ g : Int, whlL (evT c cmC) (evS c L cmB) m ⟨[some (.int a), some (.int b)], bx⟩ = .ok .nx ⟨[some (.int g), some (.int 0)], bx⟩ ∧ g.natAbs = Int.gcd a b
  | 0, a, b, h0, h => by omega
  | m + 1, a, b, h0, h => by
    by_cases hb : b = 0
    · subst hb
      exact ⟨a, whl_f (by simp [cmC]), by simp⟩
    · have hm : (Int.fmod a b).toNat < m := by
        have h1 := Int.fmod_lt_of_pos a (show 0 < b by omega)
        have h2 := Int.fmod_nonneg_of_pos a (show 0 < b by omega)
        omega
      obtain ⟨g, h1, h2⟩ := common_loop c L bx m b (Int.fmod a b) (Int.fmod_nonneg_of_pos a (by omega)) hm
      refine ⟨g, whl_t (s1 := ⟨[some (.int a), some (.int b)], bx⟩) (by simp [cmC, hb]) (by simp [cmB, hb]) h1, ?_⟩
      rw [h2, Int.fmod_eq_emod_of_nonneg _ h0, Int.gcd_comm b]
      have e : Int.gcd (a % b + b * (a / b)) b = Int.gcd (a % b) b := Int.gcd_add_mul_left_left _ _ _
      rw [Int.emod_add_mul_ediv] at e
      exact e.symm
theorem common_run (c : Env) (L : Nat) (a b : Int) (bx : List (List D)) (h0 : 0 ≤ b) (h : b.toNat < L) : runF c L ⟨2, 2, irCommon⟩ [.int a, .int b] bx = .ok (.int (Int.gcd a b)) bx := by
  obtain ⟨g, h1, h2⟩ := common_loop c L bx L a b h0 h
  have h3 : (if g < 0 then -g else g) = ((Int.gcd a b : Nat) : Int) := by
    rw [← h2]; split <;> omega
  refine runF_rt (s := ⟨[some (.int g), some (.int 0)], bx⟩) rfl ?_
  simp [irCommon, startL, h1, h3]
/-- a share by its worth -/
def sh (q : Rat) : D := .tup [.int q.num, .int q.den]
theorem sh_norm (t : Int) (b : Nat) (h : b ≠ 0) : D.tup [.int (t / ((Int.gcd t b : Nat) : Int)), .int ((b : Int) / ((Int.gcd t b : Nat) : Int))] = sh (Rat.normalize t b h) := by
  unfold sh
  rw [Rat.normalize_eq]
  simp [Int.gcd]
theorem divOk_of {j : Int} (h0 : j ≠ 0) (h : j.natAbs < 2 ^ 9000) : divOk j = true := decide_eq_true ⟨h0, (Nat.log2_lt (by omega)).mpr h⟩
def irShare (k : Nat) : St := (.seq (.asv 2 (.call k (.cons (.var 0) (.cons (.var 1) .nil)))) (.seq (.asv 2 (.ite (.tru (.cmp .gt (.var 1) (.cst (.int 0)))) (.var 2) (.bin .sub (.cst (.int 0)) (.var 2)))) (.seq (.ret (.tup (.cons (.bin .fdiv (.var 0) (.var 2)) (.cons (.bin .fdiv (.var 1) (.var 2)) .nil)))) .nil)))
theorem share_run (c : Env) (L k : Nat) (t : Int) (b : Nat) (bx : List (List D)) (h0 : b ≠ 0) (hb : b < 2 ^ 9000) (hc : c.call k [.int t, .int b] bx = .ok (.int (Int.gcd t b)) bx) :
    runF c L ⟨2, 3, irShare k⟩ [.int t, .int b] bx = .ok (sh (Rat.normalize t b h0)) bx := by
  have g0 : 0 < Int.gcd t b := Int.gcd_pos_iff.mpr (.inr (by omega))
  have gb : Int.gcd t b ≤ b := Nat.le_of_dvd (by omega) (by have := Int.gcd_dvd_natAbs_right t b; simpa using this)
  have hd : divOk ((Int.gcd t b : Nat) : Int) = true := divOk_of (by omega) (by omega)
  have hp : 0 < b := by omega
  refine runF_rt (s := ⟨[some (.int t), some (.int b), some (.int (Int.gcd t b))], bx⟩) rfl ?_
  rw [← sh_norm]
  simp [irShare, startL, callR_ok hc, hp, hd]
  rw [Int.fdiv_eq_ediv_of_nonneg _ (by omega), Int.fdiv_eq_ediv_of_nonneg _ (by omega)]
  exact ⟨rfl, rfl⟩
end Q
end

section
set_option maxRecDepth 100000
set_option maxHeartbeats 4000000
/-! M46a: the package's defs on shares. -/
namespace Q.K46
open PySem L2 Q

section
variable {L : Nat}
/-- a call that leaves the boxes -/
def Pu (L n k : Nat) (xs : List D) (d : D) : Prop := ∀ bx, callN prg.tb prg.gb L n k xs bx = .ok d bx
abbrev cc (L n : Nat) : Env := ⟨callN prg.tb prg.gb L n, prg.gb⟩
theorem Pu.r {L n k : Nat} {xs : List D} {d : D} (h : Pu L n k xs d) (l : List (Option D)) (bx : List (List D)) : callR (cc L n) k xs ⟨l, bx⟩ = .ok d ⟨l, bx⟩ := callR_ok (h bx)
theorem Pu.run {L n k : Nat} {f : Fn} {xs : List D} {d : D} (hn : 0 < n) (ht : prg.tb k = some f) (h : ∀ m, n = m + 1 → ∀ bx, runF (cc L m) L f xs bx = .ok d bx) : Pu L n k xs d := fun bx => by
  obtain ⟨m, rfl⟩ : ∃ m, n = m + 1 := ⟨n - 1, by omega⟩
  rw [callN_eq ht]
  exact h m rfl bx
theorem Pu.mk {L n k : Nat} {f : Fn} {xs : List D} {d : D} (hn : 0 < n) (ht : prg.tb k = some f) (hl : xs.length = f.np) (h : ∀ m, n = m + 1 → ∀ bx, ∃ l, evS (cc L m) L f.body ⟨startL f xs, bx⟩ = .ok (.rt d) ⟨l, bx⟩) : Pu L n k xs d := Pu.run hn ht fun m e bx => by
  obtain ⟨l, q⟩ := h m e bx
  exact runF_rt hl q
/-- whole size of a share -/
def Sz (k : Nat) (q : Rat) : Prop := q.num.natAbs < 2 ^ k ∧ q.den < 2 ^ k
theorem Sz.mono {j k : Nat} {q : Rat} (h : Sz j q) (hk : j ≤ k) : Sz k q := ⟨Nat.lt_of_lt_of_le h.1 (Nat.pow_le_pow_right (by omega) hk), Nat.lt_of_lt_of_le h.2 (Nat.pow_le_pow_right (by omega) hk)⟩
theorem log2_le {a k : Nat} (h : a < 2 ^ k) : a.log2 ≤ k := by
  by_cases h0 : a = 0
  · subst h0; simp
  · exact Nat.le_of_lt ((Nat.log2_lt h0).mpr h)
theorem mulOk_of {i j : Int} {k m : Nat} (hi : i.natAbs < 2 ^ k) (hj : j.natAbs < 2 ^ m) (h : k + m < 1000000) : mulOk i j = true := decide_eq_true (by have := log2_le hi; have := log2_le hj; omega)
theorem norm_sz {t : Int} {b k : Nat} (h : b ≠ 0) (ht : t.natAbs < 2 ^ k) (hb : b < 2 ^ k) : Sz k (Rat.normalize t b h) := by
  rw [Rat.normalize_eq]
  refine ⟨?_, ?_⟩
  · show (t / ((t.natAbs.gcd b : Nat) : Int)).natAbs < 2 ^ k
    refine Nat.lt_of_le_of_lt (Int.natAbs_ediv_le_natAbs _ _) ht
  · exact Nat.lt_of_le_of_lt (Nat.div_le_self _ _) hb
theorem sz_mul {k m : Nat} {p q : Rat} (hp : Sz k p) (hq : Sz m q) : Sz (k + m) (p * q) := by
  rw [Rat.mul_def]
  refine norm_sz _ ?_ ?_
  · rw [Int.natAbs_mul, Nat.pow_add]; exact Nat.mul_lt_mul'' hp.1 hq.1
  · rw [Nat.pow_add]; exact Nat.mul_lt_mul'' hp.2 hq.2
theorem sz_num {k m : Nat} {a b : Int} {c d : Nat} (h1 : a.natAbs < 2 ^ k) (h2 : d < 2 ^ m) (h3 : b.natAbs < 2 ^ m) (h4 : c < 2 ^ k) : (a * d + b * c).natAbs < 2 ^ (k + m + 1) := by
  have e1 : (a * (d : Int)).natAbs < 2 ^ (k + m) := by rw [Int.natAbs_mul, Nat.pow_add]; exact Nat.mul_lt_mul'' h1 (by simpa using h2)
  have e2 : (b * (c : Int)).natAbs < 2 ^ (k + m) := by rw [Int.natAbs_mul, Nat.pow_add, Nat.mul_comm (2 ^ k)]; exact Nat.mul_lt_mul'' h3 (by simpa using h4)
  have := Int.natAbs_add_le (a * d) (b * c)
  rw [Nat.pow_succ]; omega
theorem sz_add {k m : Nat} {p q : Rat} (hp : Sz k p) (hq : Sz m q) : Sz (k + m + 1) (p + q) := by
  rw [Rat.add_def]
  refine norm_sz _ (sz_num hp.1 hq.2 hq.1 hp.2) ?_
  have : p.den * q.den < 2 ^ (k + m) := by rw [Nat.pow_add]; exact Nat.mul_lt_mul'' hp.2 hq.2
  rw [Nat.pow_succ]; omega
theorem sz_neg {k : Nat} {p : Rat} (hp : Sz k p) : Sz k (-p) := ⟨by rw [Rat.neg_num, Int.natAbs_neg]; exact hp.1, by rw [Rat.neg_den]; exact hp.2⟩
theorem sz_sub {k m : Nat} {p q : Rat} (hp : Sz k p) (hq : Sz m q) : Sz (k + m + 1) (p - q) := by
  rw [Rat.sub_eq_add_neg]; exact sz_add hp (sz_neg hq)
theorem sz_one : Sz 1 1 := by constructor <;> decide
theorem sz_zero : Sz 1 0 := by constructor <;> decide
section
variable (hL : 2 ^ 9000 ≤ L)
include hL
theorem common_ok {n : Nat} (hn : 1 ≤ n) (a : Int) (b : Nat) (hb : b < 2 ^ 9000) : Pu L n 3 [.int a, .int b] (.int (Int.gcd a b)) :=
  Pu.run (f := ⟨2, 2, i3⟩) hn rfl fun m e bx => common_run _ _ _ _ _ (by omega) (by simpa using Nat.lt_of_lt_of_le hb hL)
theorem share_ok {n : Nat} (hn : 2 ≤ n) (t : Int) (b : Nat) (h0 : b ≠ 0) (hb : b < 2 ^ 9000) : Pu L n 4 [.int t, .int b] (sh (Rat.normalize t b h0)) :=
  Pu.run (f := ⟨2, 3, i4⟩) (by omega) rfl fun m e bx => share_run _ _ _ _ _ _ h0 hb (common_ok hL (by omega) t b hb bx)
theorem times_ok {n k m : Nat} (hn : 3 ≤ n) {p q : Rat} (hp : Sz k p) (hq : Sz m q) (h : k + m ≤ 9000) : Pu L n 8 [sh p, sh q] (sh (p * q)) :=
  Pu.mk (f := ⟨2, 2, i8⟩) (by omega) rfl rfl fun j e bx => by
    have hb : p.den * q.den < 2 ^ 9000 := Nat.lt_of_lt_of_le (by rw [Nat.pow_add]; exact Nat.mul_lt_mul'' hp.2 hq.2 : p.den * q.den < 2 ^ (k + m)) (Nat.pow_le_pow_right (by omega) h)
    have h0 : p.den * q.den ≠ 0 := Nat.mul_ne_zero p.den_nz q.den_nz
    have m1 := mulOk_of (i := p.num) (j := q.num) hp.1 hq.1 (by omega)
    have m2 := mulOk_of (i := (p.den : Int)) (j := (q.den : Int)) (k := k) (m := m) (by simpa using hp.2) (by simpa using hq.2) (by omega)
    refine ⟨[some (sh p), some (sh q)], ?_⟩
    have hc := (share_ok hL (n := j) (by omega) (p.num * q.num) (p.den * q.den) h0 hb).r [some (sh p), some (sh q)] bx
    rw [Rat.mul_def]
    rw [Int.natCast_mul] at hc
    simp [i8, startL, sh, atI, ixN, m1, m2] at hc ⊢
    rw [hc]; rfl
theorem plus_ok {n k m : Nat} (hn : 3 ≤ n) {p q : Rat} (hp : Sz k p) (hq : Sz m q) (h : k + m ≤ 8000) : Pu L n 6 [sh p, sh q] (sh (p + q)) :=
  Pu.mk (f := ⟨2, 2, i6⟩) (by omega) rfl rfl fun j e bx => by
    have hb : p.den * q.den < 2 ^ 9000 := Nat.lt_of_lt_of_le (by rw [Nat.pow_add]; exact Nat.mul_lt_mul'' hp.2 hq.2 : p.den * q.den < 2 ^ (k + m)) (Nat.pow_le_pow_right (by omega) (by omega))
    have h0 : p.den * q.den ≠ 0 := Nat.mul_ne_zero p.den_nz q.den_nz
    have m1 := mulOk_of (i := p.num) (j := (q.den : Int)) hp.1 (m := m) (by simpa using hq.2) (by omega)
    have m3 := mulOk_of (i := q.num) (j := (p.den : Int)) hq.1 (m := k) (by simpa using hp.2) (by omega)
    have m2 := mulOk_of (i := (p.den : Int)) (j := (q.den : Int)) (k := k) (m := m) (by simpa using hp.2) (by simpa using hq.2) (by omega)
    refine ⟨[some (sh p), some (sh q)], ?_⟩
    have hc := (share_ok hL (n := j) (by omega) (p.num * q.den + q.num * p.den) (p.den * q.den) h0 hb).r [some (sh p), some (sh q)] bx
    rw [Rat.add_def]
    rw [Int.natCast_mul] at hc
    simp [i6, startL, sh, atI, ixN, m1, m2, m3] at hc ⊢
    rw [hc]; rfl
theorem minus_ok {n k m : Nat} (hn : 3 ≤ n) {p q : Rat} (hp : Sz k p) (hq : Sz m q) (h : k + m ≤ 8000) : Pu L n 7 [sh p, sh q] (sh (p - q)) :=
  Pu.mk (f := ⟨2, 2, i7⟩) (by omega) rfl rfl fun j e bx => by
    have hb : p.den * q.den < 2 ^ 9000 := Nat.lt_of_lt_of_le (by rw [Nat.pow_add]; exact Nat.mul_lt_mul'' hp.2 hq.2 : p.den * q.den < 2 ^ (k + m)) (Nat.pow_le_pow_right (by omega) (by omega))
    have h0 : p.den * q.den ≠ 0 := Nat.mul_ne_zero p.den_nz q.den_nz
    have m1 := mulOk_of (i := p.num) (j := (q.den : Int)) hp.1 (m := m) (by simpa using hq.2) (by omega)
    have m3 := mulOk_of (i := q.num) (j := (p.den : Int)) hq.1 (m := k) (by simpa using hp.2) (by omega)
    have m2 := mulOk_of (i := (p.den : Int)) (j := (q.den : Int)) (k := k) (m := m) (by simpa using hp.2) (by simpa using hq.2) (by omega)
    refine ⟨[some (sh p), some (sh q)], ?_⟩
    have hc := (share_ok hL (n := j) (by omega) (p.num * q.den - q.num * p.den) (p.den * q.den) h0 hb).r [some (sh p), some (sh q)] bx
    rw [Rat.sub_def]
    rw [Int.natCast_mul] at hc
    simp [i7, startL, sh, atI, ixN, m1, m2, m3] at hc ⊢
    rw [hc]; rfl
omit hL in
theorem less_ok {n k m : Nat} (hn : 1 ≤ n) {p q : Rat} (hp : Sz k p) (hq : Sz m q) (h : k + m ≤ 8000) : Pu L n 9 [sh p, sh q] (.bl (decide (p < q))) :=
  Pu.mk (f := ⟨2, 2, i9⟩) (by omega) rfl rfl fun j e bx => by
    have m1 := mulOk_of (i := p.num) (j := (q.den : Int)) hp.1 (m := m) (by simpa using hq.2) (by omega)
    have m3 := mulOk_of (i := q.num) (j := (p.den : Int)) hq.1 (m := k) (by simpa using hp.2) (by omega)
    refine ⟨[some (sh p), some (sh q)], ?_⟩
    simp [i9, startL, sh, atI, ixN, m1, m3, Rat.lt_iff]
/-! ### looks at values -/
omit hL
def isIntD : D → Bool
  | .int _ => true
  | _ => false
def isSzD (lo hi : Int) : D → Bool
  | .tup xs => decide (lo ≤ xs.length) && decide ((xs.length : Int) ≤ hi)
  | _ => false
/-- a value as one meets it -/
def okD (d : D) : Bool := !d.isOwn && isTyOk d
theorem isInt_ok {n : Nat} (hn : 1 ≤ n) {d : D} (h : okD d = true) : Pu L n 0 [d] (.bl (isIntD d)) :=
  Pu.mk (f := ⟨1, 1, i0⟩) (by omega) rfl rfl fun j e bx => by
    refine ⟨[some d], ?_⟩
    cases d <;> first | (cases h; done) | simp [i0, startL, isTyOk, isTy, isIntD]
theorem isWithin_ok {n : Nat} (hn : 2 ≤ n) {d : D} (h : okD d = true) (lo hi : Int) : Pu L n 1 [d, .int lo, .int hi] (.bl (match d with | .int i => decide (lo ≤ i) && decide (i ≤ hi) | _ => false)) :=
  Pu.mk (f := ⟨3, 3, i1⟩) (by omega) rfl rfl fun j e bx => by
    refine ⟨[some d, some (.int lo), some (.int hi)], ?_⟩
    have hc := (isInt_ok (L := L) (n := j) (by omega) h).r [some d, some (.int lo), some (.int hi)] bx
    cases d <;> first | (cases h; done) | skip
    all_goals simp [i1, startL, hc, isIntD]
    rename_i i
    by_cases c : lo ≤ i <;> simp [c]
theorem isSized_ok {n : Nat} (hn : 1 ≤ n) {d : D} (h : okD d = true) (lo hi : Int) : Pu L n 2 [d, .int lo, .int hi] (.bl (isSzD lo hi d)) :=
  Pu.mk (f := ⟨3, 3, i2⟩) (by omega) rfl rfl fun j e bx => by
    refine ⟨[some d, some (.int lo), some (.int hi)], ?_⟩
    cases d <;> first | (cases h; done) | skip
    all_goals simp [i2, startL, isTyOk, isTy, isSzD]
    rename_i i
    by_cases c : lo ≤ i.length <;> simp [c]
end
end
end Q.K46
end

section
set_option maxRecDepth 100000
set_option maxHeartbeats 4000000
set_option exponentiation.threshold 10
/-! M46b: looks at values; layers and sheets. -/
namespace Q.K46
open PySem L2 Q

mutual
/-- any value as one meets it, its numbers of some thousand figures at most -/
def Gd : D → Prop
  | .int i => i.natAbs < 2 ^ 9000
  | .tup xs => Gds xs
  | .lst xs => Gds xs
  | .own _ => False
  | .odc _ => False
  | .fn _ => False
  | _ => True
def Gds : List D → Prop
  | [] => True
  | x :: xs => Gd x ∧ Gds xs
end
theorem Gd.ok {d : D} (h : Gd d) : okD d = true := by
  cases d <;> first | rfl | (unfold Gd at h; exact h.elim)
theorem Gds.mem : ∀ {xs : List D} {d : D}, Gds xs → d ∈ xs → Gd d
  | x :: xs, d, h, hd => by
    unfold Gds at h
    rcases List.mem_cons.mp hd with rfl | hd
    · exact h.1
    · exact Gds.mem h.2 hd
theorem Gds.of : ∀ {xs : List D}, (∀ d, d ∈ xs → Gd d) → Gds xs
  | [], _ => by unfold Gds; trivial
  | x :: xs, h => by
    unfold Gds
    exact ⟨h x List.mem_cons_self, Gds.of fun d hd => h d (List.mem_cons_of_mem _ hd)⟩
def isShareD : D → Bool
  | .tup [.int a, .int b] => decide (0 < b) && decide (Int.gcd a b = 1)
  | _ => false
section
variable {L : Nat} (hL : 2 ^ 9000 ≤ L)
theorem allInt_lc (j : Nat) (hj : 1 ≤ j) (xs : List D) (h : Gds xs) (hl : xs.length ≤ LINE) (bx : List (List D)) :
    evE (cc L j) (.lc (.call 0 (.cons (.var 1) .nil)) (.var 1) (.its (.var 0)) .nil [1]) ⟨[some (.tup xs), none], bx⟩ = .ok (.own (xs.map fun d => .bl (isIntD d))) ⟨[some (.tup xs), none], bx⟩ :=
  lc_map (ds := xs) (by simp) hl (by simp [S.frzs, S.frz]) fun d hd => by
    have hc := (isInt_ok (L := L) (n := j) hj (Gd.ok (h.mem hd)))
    have ho : d.isOwn = false := by have := Gd.ok (h.mem hd); unfold okD at this; simp at this; exact this.1
    have hf : d.frz = d := frz_of ho
    refine ⟨[some (.tup xs), some d], [some (.tup xs), some d], .bl (isIntD d), ?_, ?_, rfl, ?_⟩
    · simp [asgT, wipeL]
    · simp [gv_d _ _ _ ho, hf, hc.r]
    · simp [wipeL]
include hL
theorem isShare_ok {n : Nat} (hn : 2 ≤ n) {d : D} (h : Gd d) : Pu L n 5 [d] (.bl (isShareD d)) :=
  Pu.mk (f := ⟨1, 2, i5⟩) (by omega) rfl rfl fun j e bx => by
    have hs := (isSized_ok (L := L) (n := j) (by omega) h.ok 2 2)
    refine ⟨[some d, none], ?_⟩
    have ho : d.isOwn = false := by have := Gd.ok h; unfold okD at this; simp at this; exact this.1
    have hf : d.frz = d := frz_of ho
    by_cases hz : isSzD 2 2 d = true
    · obtain ⟨x, y, rfl⟩ : ∃ x y, d = .tup [x, y] := by
        cases d <;> first | (cases hz; done) | skip
        rename_i xs
        simp [isSzD] at hz
        match xs, hz with
        | [x, y], _ => exact ⟨x, y, rfl⟩
        | [], hz => simp at hz
        | [x], hz => simp at hz
        | _ :: _ :: _ :: _, hz => simp at hz; omega
      have hg : Gds [x, y] := by unfold Gd at h; exact h
      have hlc := allInt_lc (L := L) j (by omega) [x, y] hg (by show 2 ≤ LINE; decide) bx
      simp only [List.map_cons, List.map_nil] at hlc
      cases hx : isIntD x with
      | false =>
        have e2 : isShareD (.tup [x, y]) = false := by cases x <;> first | (cases hx; done) | rfl
        simp [i5, startL, hs.r, hz, hlc, hx, e2]
      | true =>
        cases hy : isIntD y with
        | false =>
          have e2 : isShareD (.tup [x, y]) = false := by cases x <;> cases y <;> first | (cases hy; done) | rfl
          simp [i5, startL, hs.r, hz, hlc, hx, hy, e2]
        | true =>
          cases x <;> first | (cases hx; done) | skip
          cases y <;> first | (cases hy; done) | skip
          rename_i a b
          unfold Gds Gds Gd at hg
          by_cases hb0 : 0 < b
          · obtain ⟨b', rfl⟩ : ∃ b' : Nat, b = b' := ⟨b.toNat, by omega⟩
            have hcm := common_ok hL (n := j) (by omega) a b' (by have := hg.2.1; simpa using this)
            have hb1 : 0 < b' := by omega
            simp [i5, startL, hs.r, hz, hlc, hx, hy, atI, ixN, hb1, hcm.r, isShareD]
            by_cases c1 : a.gcd b' = 1
            · simp [c1]
            · have c2 : ¬ ((a.gcd b' : Nat) : Int) = 1 := by omega
              simp [c1, c2]
          · simp [i5, startL, hs.r, hz, hlc, hx, hy, atI, ixN, hb0, isShareD]
    · have hz' : isSzD 2 2 d = false := by simpa using hz
      have e2 : isShareD d = false := by
        cases hd : isShareD d with
        | false => rfl
        | true =>
          exfalso
          unfold isShareD at hd
          split at hd
          · exact hz rfl
          · cases hd
      simp [i5, startL, gv_d _ _ _ ho, hf, hs.r, hz', e2]
def isIn1D : D → Bool
  | .tup [.int a, .int b] => isShareD (.tup [.int a, .int b]) && (decide (0 ≤ a) && decide (a ≤ b))
  | _ => false
omit hL in
theorem shareD_inv {d : D} (h : isShareD d = true) : ∃ a b, d = .tup [.int a, .int b] ∧ 0 < b ∧ Int.gcd a b = 1 := by
  unfold isShareD at h
  split at h
  · rename_i a b
    simp at h
    exact ⟨a, b, rfl, h.1, h.2⟩
  · cases h
theorem isIn1_ok {n : Nat} (hn : 3 ≤ n) {d : D} (h : Gd d) : Pu L n 10 [d] (.bl (isIn1D d)) :=
  Pu.mk (f := ⟨1, 1, i10⟩) (by omega) rfl rfl fun j e bx => by
    have hs := (isShare_ok hL (n := j) (by omega) h)
    refine ⟨[some d], ?_⟩
    have ho : d.isOwn = false := by have := Gd.ok h; unfold okD at this; simp at this; exact this.1
    have hf : d.frz = d := frz_of ho
    cases hd : isShareD d with
    | true =>
      obtain ⟨a, b, rfl, h1, h2⟩ := shareD_inv hd
      by_cases c1 : 0 ≤ a
      · simp [i10, startL, hs.r, hd, isIn1D, atI, ixN, c1]
      · simp [i10, startL, hs.r, hd, isIn1D, atI, ixN, c1]
    | false =>
      have e2 : isIn1D d = false := by
        unfold isIn1D
        split
        · rw [hd]; rfl
        · rfl
      simp [i10, startL, gv_d _ _ _ ho, hf, hs.r, hd, e2]
omit hL
/-- a colour: shares in a row -/
def shs (cs : List Rat) : D := .tup (cs.map sh)
def addR (w : Rat) (cs ds : List Rat) : List Rat := (cs.zip ds).map fun p => p.1 + w * p.2
def Szs (k : Nat) (cs : List Rat) : Prop := ∀ q, q ∈ cs → Sz k q
theorem szs_add {k m j : Nat} {w : Rat} {cs ds : List Rat} (hc : Szs k cs) (hd : Szs m ds) (hw : Sz j w) : Szs (k + (j + m) + 1) (addR w cs ds) := fun q hq => by
  unfold addR at hq
  obtain ⟨p, hp, rfl⟩ := List.mem_map.mp hq
  exact sz_add (hc _ (List.of_mem_zip hp).1) (sz_mul hw (hd _ (List.of_mem_zip hp).2))
@[simp] theorem sh_frz (q : Rat) : (sh q).frz = sh q := rfl
@[simp] theorem sh_own (q : Rat) : (sh q).isOwn = false := rfl
@[simp] theorem gv_sh (l : List (Option D)) (b : List (List D)) (i : Nat) (q : Rat) : gv (some (some (sh q))) l b i = .ok (sh q) ⟨l, b⟩ := rfl
@[simp] theorem shs_frz (q : List Rat) : (shs q).frz = shs q := rfl
@[simp] theorem shs_own (q : List Rat) : (shs q).isOwn = false := rfl
@[simp] theorem gv_shs (l : List (Option D)) (b : List (List D)) (i : Nat) (q : List Rat) : gv (some (some (shs q))) l b i = .ok (shs q) ⟨l, b⟩ := rfl
include hL
theorem added_ok {n k m j : Nat} (hn : 4 ≤ n) {cs ds : List Rat} {w : Rat} (hc : Szs k cs) (hd : Szs m ds) (hw : Sz j w) (hk : k + (j + m) ≤ 8000) (hl : cs.length ≤ LINE) : Pu L n 19 [shs cs, shs ds, sh w] (shs (addR w cs ds)) :=
  Pu.mk (f := ⟨3, 5, i19⟩) (by omega) rfl rfl fun jj e bx => by
    refine ⟨[some (shs cs), some (shs ds), some (sh w), none, none], ?_⟩
    have hlc : evE (cc L jj) (.lc (.call 6 (.cons (.var 3) (.cons (.call 8 (.cons (.var 2) (.cons (.var 4) .nil))) .nil))) (.tup (.cons (.var 3) (.cons (.var 4) .nil))) (.zip (.var 0) (.var 1)) .nil [3, 4]) ⟨[some (shs cs), some (shs ds), some (sh w), none, none], bx⟩ =
        .ok (.own ((cs.zip ds).map fun p => sh (p.1 + w * p.2))) ⟨[some (shs cs), some (shs ds), some (sh w), none, none], bx⟩ :=
      lc_mapA (cs.zip ds) (fun p => .tup [sh p.1, sh p.2]) (fun p => sh (p.1 + w * p.2)) (by simp; unfold shs; simp [zipD_map]) (by rw [List.length_zip]; omega) (by simp [S.frzs, S.frz]) fun p hp => by
        have ht := times_ok hL (n := jj) (by omega) hw (hd _ (List.of_mem_zip hp).2) (by omega)
        have hq := plus_ok hL (n := jj) (by omega) (hc _ (List.of_mem_zip hp).1) (sz_mul hw (hd _ (List.of_mem_zip hp).2)) (by omega)
        refine ⟨[some (shs cs), some (shs ds), some (sh w), some (sh p.1), some (sh p.2)], [some (shs cs), some (shs ds), some (sh w), some (sh p.1), some (sh p.2)], sh (p.1 + w * p.2), ?_, ?_, rfl, ?_⟩
        · simp [asgT, asgT.asgTs, wipeL]
        · simp [ht.r, hq.r]
        · simp [wipeL]
    simp [i19, startL, hlc]
    simp [shs, addR, Function.comp_def]
end
end Q.K46
end

section
set_option maxRecDepth 100000
set_option maxHeartbeats 4000000
set_option exponentiation.threshold 10
/-! M46c: fragments, layers. -/
namespace Q.K46
open PySem L2 Q

structure Frg where
  dep : Rat
  num : Int
  r : Rat
  g : Rat
  b : Rat
  op : Rat
def Frg.col (f : Frg) : List Rat := [f.r, f.g, f.b]
def fr (f : Frg) : D := .tup [sh f.dep, .int f.num, .tup [sh f.r, sh f.g, sh f.b, sh f.op]]
def frs (fs : List Frg) : D := .tup (fs.map fr)
/-- from 0 to 1 -/
def In1 (q : Rat) : Prop := 0 ≤ q ∧ q ≤ 1
structure Fv (f : Frg) : Prop where
  dep : 0 < f.dep
  n0 : 0 ≤ f.num
  n7 : f.num ≤ 7
  r : In1 f.r
  g : In1 f.g
  b : In1 f.b
  op : In1 f.op
  sd : Sz 10 f.dep
  sr : Sz 10 f.r
  sg : Sz 10 f.g
  sb : Sz 10 f.b
  so : Sz 10 f.op
theorem Fv.scol {f : Frg} (h : Fv f) : Szs 10 f.col := fun q hq => by
  unfold Frg.col at hq
  simp at hq
  rcases hq with rfl | rfl | rfl
  · exact h.sr
  · exact h.sg
  · exact h.sb
def stepR (s : List Rat × Rat) (f : Frg) : List Rat × Rat := (addR (s.2 * f.op) s.1 f.col, s.2 * (1 - f.op))
def rawR (fs : List Frg) : List Rat × Rat := fs.foldl stepR ([0, 0, 0], 1)
theorem rawR_snoc (fs : List Frg) (f : Frg) : rawR (fs ++ [f]) = stepR (rawR fs) f := by unfold rawR; rw [List.foldl_append]; rfl
theorem rawR_len (fs : List Frg) : (rawR fs).1.length = 3 := by
  unfold rawR
  have : ∀ (fs : List Frg) (s : List Rat × Rat), s.1.length = 3 → (fs.foldl stepR s).1.length = 3 := fun fs => by
    induction fs with
    | nil => exact fun s h => h
    | cons f fs ih =>
      intro s h
      refine ih _ ?_
      simp [stepR, addR, Frg.col, h]
  exact this fs _ rfl
theorem rawR_sz : ∀ (n : Nat) (fs : List Frg), fs.length = n → n ≤ 5 → (∀ f, f ∈ fs → Fv f) → Szs (1 + 82 * n) (rawR fs).1 ∧ Sz (1 + 12 * n) (rawR fs).2
  | 0, fs, hn, _, _ => by
    have : fs = [] := List.length_eq_zero_iff.mp hn
    subst this
    refine ⟨fun q hq => ?_, sz_one⟩
    simp [rawR] at hq
    subst hq
    exact sz_zero
  | n + 1, fs, hn, h5, hv => by
    have hne : fs ≠ [] := fun e => by subst e; simp at hn
    have e := (List.dropLast_concat_getLast hne).symm
    have hl : fs.dropLast.length = n := by rw [List.length_dropLast]; omega
    obtain ⟨h1, h2⟩ := rawR_sz n fs.dropLast hl (by omega) fun f hf => hv f ((List.dropLast_sublist fs).subset hf)
    have fv := hv _ (List.getLast_mem hne)
    rw [e, rawR_snoc]
    refine ⟨fun q hq => ?_, ?_⟩
    · exact (szs_add h1 fv.scol (sz_mul h2 fv.so) q hq).mono (by omega)
    · exact (sz_mul h2 (sz_sub sz_one fv.so)).mono (by omega)
@[simp] theorem gb_dark : prg.gb 3 = some (shs [0, 0, 0]) := rfl
@[simp] theorem gb_one : prg.gb 1 = some (sh 1) := rfl
@[simp] theorem gb_most : prg.gb 2 = some (.int 7) := rfl
def pr (s : List Rat × Rat) : D := .tup [shs s.1, sh s.2]
section
variable {L : Nat} (hL : 2 ^ 9000 ≤ L)
include hL
theorem rawSheet_ok {n : Nat} (hn : 5 ≤ n) {fs : List Frg} (h5 : fs.length ≤ 5) (hv : ∀ f, f ∈ fs → Fv f) : Pu L n 20 [frs fs] (pr (rawR fs)) :=
  Pu.mk (f := ⟨1, 6, i20⟩) (by omega) rfl rfl fun j e bx => by
    let Pr : Nat → S → Prop := fun i s => ∃ x3 x4 x5, s = ⟨[some (frs fs), some (shs (rawR (fs.take i)).1), some (sh (rawR (fs.take i)).2), x3, x4, x5], bx⟩
    obtain ⟨s', e1, x3, x4, x5, rfl⟩ := for_st (f := forT (cc L j) L (.tup (.cons (.var 3) (.cons (.var 4) (.cons (.var 5) .nil)))) (.seq (.asv 1 (.call 19 (.cons (.var 1) (.cons (.slv 5 .nil (.prt (.cst (.int 3)))) (.cons (.call 8 (.cons (.var 2) (.cons (.ixv 5 (.cst (.int 3))) .nil))) .nil))))) (.seq (.asv 2 (.call 8 (.cons (.var 2) (.cons (.call 7 (.cons (.glb 1) (.cons (.ixv 5 (.cst (.int 3))) .nil))) .nil)))) .nil)))
      (ds := fs.map fr) (s := ⟨[some (frs fs), some (shs [0, 0, 0]), some (sh 1), none, none, none], bx⟩) Pr ⟨none, none, none, by simp [rawR]⟩ fun i d s hd hp => by
        obtain ⟨x3, x4, x5, rfl⟩ := hp
        rw [List.getElem?_map] at hd
        obtain ⟨f, hf, rfl⟩ := map_inv hd
        have fv := hv f (List.mem_of_getElem? hf)
        obtain ⟨q1, q2⟩ := List.getElem?_eq_some_iff.mp hf
        have hr : rawR (fs.take (i + 1)) = stepR (rawR (fs.take i)) f := by
          rw [List.take_succ_eq_append_getElem q1, q2, rawR_snoc]
        have hlen : (fs.take i).length = i := by rw [List.length_take]; omega
        obtain ⟨s1, s2⟩ := rawR_sz i (fs.take i) hlen (by omega) fun f hf => hv f (List.mem_of_mem_take hf)
        have t1 := times_ok hL (n := j) (by omega) s2 fv.so (by omega)
        have t2 := added_ok hL (n := j) (by omega) s1 fv.scol (sz_mul s2 fv.so) (by omega) (by rw [rawR_len]; decide)
        have t3 := minus_ok hL (n := j) (by omega) sz_one fv.so (by omega)
        have t4 := times_ok hL (n := j) (by omega) s2 (sz_sub sz_one fv.so) (by omega)
        refine ⟨⟨[some (frs fs), some (shs (rawR (fs.take (i + 1))).1), some (sh (rawR (fs.take (i + 1))).2), some (sh f.dep), some (.int f.num), some (.tup [sh f.r, sh f.g, sh f.b, sh f.op])], bx⟩, .inl ?_, _, _, _, rfl⟩
        rw [hr]
        have hcut : slD (.tup [sh f.r, sh f.g, sh f.b, sh f.op]) none (some 3) = some (shs f.col) := rfl
        simp [forT, fr, asgT, asgT.asgTs, hcut, atI, ixN, t1.r, t2.r, t3.r, t4.r, stepR]
    refine ⟨[some (frs fs), some (shs (rawR fs).1), some (sh (rawR fs).2), x3, x4, x5], ?_⟩
    rw [List.length_map, List.take_length] at e1
    have hf : (frs fs).items = some (fs.map fr) := rfl
    simp [i20, startL, frs, pr] at e1 ⊢
    simp [e1]
omit hL
theorem sh_share (q : Rat) : isShareD (sh q) = true := by
  have h1 : (0 : Int) < q.den := by have := q.den_pos; omega
  have h2 : Int.gcd q.num q.den = 1 := by
    have := q.reduced
    unfold Nat.Coprime at this
    simpa [Int.gcd] using this
  show (decide (0 < (q.den : Int)) && decide (Int.gcd q.num q.den = 1)) = true
  simp [h2]
  exact q.den_pos
theorem sh_in1 {q : Rat} (h : In1 q) : isIn1D (sh q) = true := by
  have h1 : 0 ≤ q.num := Rat.num_nonneg.mpr h.1
  have h2 : q.num ≤ q.den := by
    have := (Rat.le_iff q 1).mp h.2
    simpa using this
  show (isShareD (sh q) && (decide (0 ≤ q.num) && decide (q.num ≤ (q.den : Int)))) = true
  rw [sh_share]
  simp [h1, h2]
theorem sh_gd {k : Nat} {q : Rat} (h : Sz k q) (hk : k ≤ 9000) : Gd (sh q) := by
  have := h.mono hk
  unfold sh
  unfold Gd Gds Gds Gd Gds
  exact ⟨this.1, by simpa using this.2, trivial⟩
def nnD : D → Bool
  | .tup [.int a, .int b] => isShareD (.tup [.int a, .int b]) && decide (0 ≤ a)
  | _ => false
def allNn : D → Bool
  | .tup xs => xs.all nnD
  | _ => false
def isSheetD : D → Bool
  | .tup [c, w] => isIn1D w && (isSzD 3 3 c && allNn c)
  | _ => false
theorem sized2 {d : D} (hz : isSzD 2 2 d = true) : ∃ x y, d = .tup [x, y] := by
  cases d <;> first | (cases hz; done) | skip
  rename_i xs
  simp [isSzD] at hz
  match xs, hz with
  | [x, y], _ => exact ⟨x, y, rfl⟩
  | [], hz => simp at hz
  | [x], hz => simp at hz
  | _ :: _ :: _ :: _, hz => simp at hz; omega
theorem gd_own {d : D} (h : Gd d) : d.isOwn = false := by have := h.ok; unfold okD at this; simp at this; exact this.1
theorem gd_tup {xs : List D} (h : Gd (.tup xs)) : Gds xs := by unfold Gd at h; exact h
include hL
theorem isSheet_ok {n : Nat} (hn : 4 ≤ n) {d : D} (h : Gd d) : Pu L n 22 [d] (.bl (isSheetD d)) :=
  Pu.mk (f := ⟨1, 2, i22⟩) (by omega) rfl rfl fun j e bx => by
    have hs := (isSized_ok (L := L) (n := j) (by omega) h.ok 2 2)
    refine ⟨[some d, none], ?_⟩
    have hf : d.frz = d := frz_of (gd_own h)
    cases hz : isSzD 2 2 d with
    | false =>
      have e2 : isSheetD d = false := by
        cases hd : isSheetD d with
        | false => rfl
        | true =>
          unfold isSheetD at hd
          split at hd
          · cases hz
          · cases hd
      simp [i22, startL, gv_d _ _ _ (gd_own h), hf, hs.r, hz, e2]
    | true =>
      obtain ⟨x, y, rfl⟩ := sized2 hz
      have hg := gd_tup h
      have hx : Gd x := hg.mem (by simp)
      have hy : Gd y := hg.mem (by simp)
      have h1 := isIn1_ok hL (n := j) (by omega) hy
      have h2 := isSized_ok (L := L) (n := j) (by omega) hx.ok 3 3
      have fx : x.frz = x := frz_of (gd_own hx)
      have fy : y.frz = y := frz_of (gd_own hy)
      cases hy1 : isIn1D y with
      | false => simp [i22, startL, hs.r, hz, atI, ixN, fx, fy, h1.r, hy1, isSheetD]
      | true =>
        cases hx1 : isSzD 3 3 x with
        | false => simp [i22, startL, hs.r, hz, atI, ixN, fx, fy, h1.r, h2.r, hy1, hx1, isSheetD]
        | true =>
          obtain ⟨xs, rfl⟩ : ∃ xs, x = .tup xs := by cases x <;> first | (cases hx1; done) | exact ⟨_, rfl⟩
          have hl : xs.length ≤ LINE := by simp [isSzD] at hx1; show xs.length ≤ 16777216; omega
          have hgx := gd_tup hx
          have hlc : evE (cc L j) (.lc (.and (.call 5 (.cons (.var 1) .nil)) (.cmp .ge (.ixv 1 (.cst (.int 0))) (.cst (.int 0)))) (.var 1) (.its (.ixv 0 (.cst (.int 0)))) .nil [1]) ⟨[some (.tup [.tup xs, y]), none], bx⟩ = .ok (.own (xs.map fun d => .bl (nnD d))) ⟨[some (.tup [.tup xs, y]), none], bx⟩ :=
            lc_map (ds := xs) (by simp [atI, ixN]) hl (by simp [S.frzs, S.frz]) fun d hd => by
              have gd := hgx.mem hd
              have h3 := isShare_ok hL (n := j) (by omega) gd
              have fd : d.frz = d := frz_of (gd_own gd)
              refine ⟨[some (.tup [.tup xs, y]), some d], [some (.tup [.tup xs, y]), some d], .bl (nnD d), by simp [asgT, wipeL], ?_, rfl, by simp [wipeL]⟩
              cases hsd : isShareD d with
              | true =>
                obtain ⟨a, b, rfl, h1, h2⟩ := shareD_inv hsd
                simp [h3.r, hsd, atI, ixN, nnD]
              | false =>
                have e2 : nnD d = false := by
                  unfold nnD
                  split
                  · rw [hsd]; rfl
                  · rfl
                simp [gv_d _ _ _ (gd_own gd), fd, h3.r, hsd, e2]
          simp [i22, startL, hs.r, hz, atI, ixN, fx, fy, h1.r, h2.r, hy1, hx1, hlc, allB_map, isSheetD, allNn]
theorem checkSheet_ok {n : Nat} (hn : 5 ≤ n) {d : D} (h : Gd d) (hs : isSheetD d = true) : Pu L n 23 [d] .non := fun bx => by
  obtain ⟨j, rfl⟩ : ∃ j, n = j + 1 := ⟨n - 1, by omega⟩
  rw [callN_eq (f := ⟨1, 1, i23⟩) rfl]
  have h1 := isSheet_ok hL (n := j) (by omega) h
  have hf : d.frz = d := frz_of (gd_own h)
  refine runF_nx (s := ⟨[some d], bx⟩) rfl ?_
  simp [i23, startL, gv_d _ _ _ (gd_own h), hf, h1.r, hs]
omit hL
/-- a sheet -/
structure Sv (s : List Rat × Rat) : Prop where
  l3 : s.1.length = 3
  nn : ∀ q, q ∈ s.1 → 0 ≤ q
  w : In1 s.2
  sc : Szs 1000 s.1
  sw : Sz 1000 s.2
theorem shs_gd {k : Nat} {cs : List Rat} (h : Szs k cs) (hk : k ≤ 9000) : Gd (shs cs) := by
  unfold shs
  unfold Gd
  refine Gds.of fun d hd => ?_
  obtain ⟨q, hq, rfl⟩ := List.mem_map.mp hd
  exact sh_gd (h q hq) hk
theorem Sv.gd {s : List Rat × Rat} (h : Sv s) : Gd (pr s) := by
  unfold pr
  unfold Gd Gds Gds Gds
  exact ⟨shs_gd h.sc (by omega), sh_gd h.sw (by omega), trivial⟩
theorem sh_nn {q : Rat} (h : 0 ≤ q) : nnD (sh q) = true := by
  have h1 : 0 ≤ q.num := Rat.num_nonneg.mpr h
  show (isShareD (sh q) && decide (0 ≤ q.num)) = true
  rw [sh_share]; simp [h1]
theorem Sv.is {s : List Rat × Rat} (h : Sv s) : isSheetD (pr s) = true := by
  have h2 : isSzD 3 3 (shs s.1) = true := by
    show (decide ((3 : Int) ≤ ((s.1.map sh).length : Nat)) && decide (((s.1.map sh).length : Int) ≤ 3)) = true
    rw [List.length_map, h.l3]; rfl
  have h3 : allNn (shs s.1) = true := by
    show (s.1.map sh).all nnD = true
    rw [List.all_eq_true]
    intro d hd
    obtain ⟨q, hq, rfl⟩ := List.mem_map.mp hd
    exact sh_nn (h.nn q hq)
  show (isIn1D (sh s.2) && (isSzD 3 3 (shs s.1) && allNn (shs s.1))) = true
  rw [sh_in1 h.w, h2, h3]; rfl
def layR (s t : List Rat × Rat) : List Rat × Rat := (addR s.2 s.1 t.1, s.2 * t.2)
@[simp] theorem gv_pr (l : List (Option D)) (b : List (List D)) (i : Nat) (q : List Rat × Rat) : gv (some (some (pr q))) l b i = .ok (pr q) ⟨l, b⟩ := rfl
@[simp] theorem pr_frz (q : List Rat × Rat) : (pr q).frz = pr q := rfl
@[simp] theorem ctD_pr (bx : List (List D)) (q : List Rat × Rat) : ctD bx (pr q) = some (pr q) := rfl
@[simp] theorem ix_pr0 (q : List Rat × Rat) : ixD (pr q) (.int 0) = some (shs q.1) := rfl
@[simp] theorem ix_pr1 (q : List Rat × Rat) : ixD (pr q) (.int 1) = some (sh q.2) := rfl
include hL
theorem laidOver_ok {n : Nat} (hn : 6 ≤ n) {s t : List Rat × Rat} (hs : Sv s) (ht : Sv t) : Pu L n 25 [pr s, pr t] (pr (layR s t)) :=
  Pu.mk (f := ⟨2, 2, i25⟩) (by omega) rfl rfl fun j e bx => by
    have c1 := checkSheet_ok hL (n := j) (by omega) hs.gd hs.is
    have c2 := checkSheet_ok hL (n := j) (by omega) ht.gd ht.is
    have t1 := added_ok hL (n := j) (by omega) hs.sc ht.sc hs.sw (by omega) (by rw [hs.l3]; decide)
    have t2 := times_ok hL (n := j) (by omega) hs.sw ht.sw (by omega)
    refine ⟨[some (pr s), some (pr t)], ?_⟩
    simp [i25, startL, c1.r, c2.r, t1.r, t2.r]
    rfl
/-- a ground -/
structure Gv (g : List Rat) : Prop where
  l3 : g.length = 3
  i1 : ∀ q, q ∈ g → In1 q
  sz : Szs 20 g
theorem isGround_ok {n : Nat} (hn : 4 ≤ n) {g : List Rat} (h : Gv g) : Pu L n 17 [shs g] (.bl true) :=
  Pu.mk (f := ⟨1, 2, i17⟩) (by omega) rfl rfl fun j e bx => by
    have gg := shs_gd h.sz (by omega)
    have h1 := isSized_ok (L := L) (n := j) (by omega) gg.ok 3 3
    have h2 : isSzD 3 3 (shs g) = true := by
      show (decide ((3 : Int) ≤ ((g.map sh).length : Nat)) && decide (((g.map sh).length : Int) ≤ 3)) = true
      rw [List.length_map, h.l3]; rfl
    have hlc : evE (cc L j) (.lc (.call 10 (.cons (.var 1) .nil)) (.var 1) (.its (.var 0)) .nil [1]) ⟨[some (shs g), none], bx⟩ = .ok (.own (g.map fun _ => .bl true)) ⟨[some (shs g), none], bx⟩ :=
      lc_mapA g sh (fun _ => .bl true) (by simp; rfl) (by rw [h.l3]; decide) (by simp [S.frzs, S.frz]) fun q hq => by
        have h3 := isIn1_ok hL (n := j) (by omega) (sh_gd (h.sz q hq) (by omega))
        rw [sh_in1 (h.i1 q hq)] at h3
        exact ⟨[some (shs g), some (sh q)], [some (shs g), some (sh q)], .bl true, by simp [asgT, wipeL], by simp [h3.r], rfl, by simp [wipeL]⟩
    have hb : allB (g.map fun _ => D.bl true) = some (g.map fun _ => true) := allB_map (fun _ => true) g
    refine ⟨[some (shs g), none], ?_⟩
    simp [i17, startL, h1.r, h2, hlc, hb]
theorem checkGround_ok {n : Nat} (hn : 5 ≤ n) {g : List Rat} (h : Gv g) : Pu L n 18 [shs g] .non := fun bx => by
  obtain ⟨j, rfl⟩ : ∃ j, n = j + 1 := ⟨n - 1, by omega⟩
  rw [callN_eq (f := ⟨1, 1, i18⟩) rfl]
  have h1 := isGround_ok hL (n := j) (by omega) h
  refine runF_nx (s := ⟨[some (shs g)], bx⟩) rfl ?_
  simp [i18, startL, h1.r]
theorem sheetOn_ok {n : Nat} (hn : 6 ≤ n) {s : List Rat × Rat} {g : List Rat} (hs : Sv s) (hg : Gv g) : Pu L n 26 [pr s, shs g] (shs (addR s.2 s.1 g)) :=
  Pu.mk (f := ⟨2, 2, i26⟩) (by omega) rfl rfl fun j e bx => by
    have c1 := checkSheet_ok hL (n := j) (by omega) hs.gd hs.is
    have c2 := checkGround_ok hL (n := j) (by omega) hg
    have t1 := added_ok hL (n := j) (by omega) hs.sc hg.sz hs.sw (by omega) (by rw [hs.l3]; decide)
    refine ⟨[some (pr s), some (shs g)], ?_⟩
    simp [i26, startL, c1.r, c2.r, t1.r]
end
end Q.K46
end

section
set_option maxRecDepth 100000
set_option maxHeartbeats 4000000
set_option exponentiation.threshold 10
/-! M46d: layers judged. -/
namespace Q.K46
open PySem L2 Q

theorem cut_dl (xs : List D) : cutD xs none (some (-1)) = xs.dropLast := by
  unfold cutD
  have h1 : HT.sIx xs.length 0 none = 0 := rfl
  have h2 : HT.sIx xs.length xs.length (some (-1)) = xs.length - 1 := by
    simp [HT.sIx]; omega
  rw [h1, h2, List.drop_zero, Nat.sub_zero, List.dropLast_eq_take]
theorem cut_d1 (xs : List D) : cutD xs (some 1) none = xs.drop 1 := by
  unfold cutD
  have h1 : HT.sIx xs.length 0 (some 1) = min 1 xs.length := by
    simp [HT.sIx]
  have h2 : HT.sIx xs.length xs.length none = xs.length := rfl
  rw [h1, h2]
  cases xs with
  | nil => rfl
  | cons x xs => simp
theorem eqD_sh (p q : Rat) : eqD (sh p) (sh q) = decide (p = q) := by
  show (p.num == q.num && ((p.den : Int) == (q.den : Int) && true)) = _
  by_cases h : p = q
  · subst h; simp
  · have : ¬ (p.num = q.num ∧ p.den = q.den) := fun e => h (Rat.ext e.1 e.2)
    simp [h]
    intro e1 e2
    exact this ⟨e1, by omega⟩
@[simp] theorem shN_sh (q : Rat) : shN 60 (sh q) = true := rfl
@[simp] theorem gv_fr (l : List (Option D)) (b : List (List D)) (i : Nat) (q : Frg) : gv (some (some (fr q))) l b i = .ok (fr q) ⟨l, b⟩ := rfl
@[simp] theorem fr_frz (q : Frg) : (fr q).frz = fr q := rfl
@[simp] theorem fr_own (q : Frg) : (fr q).isOwn = false := rfl
@[simp] theorem ctD_fr (bx : List (List D)) (q : Frg) : ctD bx (fr q) = some (fr q) := rfl
@[simp] theorem ix_fr0 (q : Frg) : ixD (fr q) (.int 0) = some (sh q.dep) := rfl
@[simp] theorem ix_fr1 (q : Frg) : ixD (fr q) (.int 1) = some (.int q.num) := rfl
def col4 (f : Frg) : D := .tup [sh f.r, sh f.g, sh f.b, sh f.op]
@[simp] theorem ix_fr2 (q : Frg) : ixD (fr q) (.int 2) = some (col4 q) := rfl
@[simp] theorem ix_c3 (q : Frg) : ixD (col4 q) (.int 3) = some (sh q.op) := rfl
@[simp] theorem c4_frz (q : Frg) : (col4 q).frz = col4 q := rfl
@[simp] theorem c4_items (q : Frg) : (col4 q).items = some ([q.r, q.g, q.b, q.op].map sh) := rfl
@[simp] theorem frs_frz (q : List Frg) : (frs q).frz = frs q := rfl
@[simp] theorem frs_items (q : List Frg) : (frs q).items = some (q.map fr) := rfl
@[simp] theorem gv_frs (l : List (Option D)) (b : List (List D)) (i : Nat) (q : List Frg) : gv (some (some (frs q))) l b i = .ok (frs q) ⟨l, b⟩ := rfl
@[simp] theorem ctD_frs (bx : List (List D)) (q : List Frg) : ctD bx (frs q) = some (frs q) := rfl
@[simp] theorem sl_frs_dl (q : List Frg) : slD (frs q) none (some (-1)) = some (frs q.dropLast) := by
  show some (D.tup (cutD (q.map fr) none (some (-1)))) = _
  rw [cut_dl, ← List.map_dropLast]; rfl
@[simp] theorem sl_frs_d1 (q : List Frg) : slD (frs q) (some 1) none = some (frs q.tail) := by
  show some (D.tup (cutD (q.map fr) (some 1) none)) = _
  rw [cut_d1, ← List.map_drop, List.drop_one]; rfl
@[simp] theorem ty_frs (q : List Frg) : isTy (frs q) .tuple = true := rfl
@[simp] theorem tyok_frs (q : List Frg) : isTyOk (frs q) = true := rfl
theorem fr_gd {f : Frg} (h : Fv f) : Gd (fr f) := by
  unfold fr
  unfold Gd Gds Gds Gds Gds
  refine ⟨sh_gd h.sd (by omega), ?_, ?_, trivial⟩
  · unfold Gd
    have : f.num.natAbs < 2 ^ 10 := by have := h.n0; have := h.n7; omega
    exact Nat.lt_of_lt_of_le this (Nat.pow_le_pow_right (by omega) (by omega))
  · show Gd (col4 f)
    unfold col4
    unfold Gd Gds Gds Gds Gds Gds
    exact ⟨sh_gd h.sr (by omega), sh_gd h.sg (by omega), sh_gd h.sb (by omega), sh_gd h.so (by omega), trivial⟩
def isAhd (f g : Frg) : Bool := decide (f.dep < g.dep) || (decide (f.dep = g.dep) && decide (f.num < g.num))
structure Lay (fs : List Frg) : Prop where
  l5 : fs.length ≤ 5
  v : ∀ f, f ∈ fs → Fv f
  nf : ∀ f, f ∈ fs.dropLast → f.op ≠ 1
  ah : ∀ p, p ∈ fs.zip fs.tail → isAhd p.1 p.2 = true
section
variable {L : Nat} (hL : 2 ^ 9000 ≤ L)
theorem isFull_ok {n : Nat} (hn : 1 ≤ n) (f : Frg) : Pu L n 14 [fr f] (.bl (decide (f.op = 1))) :=
  Pu.mk (f := ⟨1, 1, i14⟩) (by omega) rfl rfl fun j e bx => by
    refine ⟨[some (fr f)], ?_⟩
    simp [i14, startL, eqD_sh]
theorem isAhead_ok {n : Nat} (hn : 2 ≤ n) {f g : Frg} (hf : Fv f) (hg : Fv g) : Pu L n 13 [fr f, fr g] (.bl (isAhd f g)) :=
  Pu.mk (f := ⟨2, 2, i13⟩) (by omega) rfl rfl fun j e bx => by
    have h1 := less_ok (L := L) (n := j) (by omega) hf.sd hg.sd (by omega)
    refine ⟨[some (fr f), some (fr g)], ?_⟩
    by_cases c1 : f.dep < g.dep
    · simp [i13, startL, h1.r, c1, isAhd]
    · by_cases c2 : f.dep = g.dep
      · rw [c2] at h1 c1
        simp [i13, startL, c2, h1.r, c1, isAhd, eqD_sh]
      · simp [i13, startL, h1.r, c1, c2, isAhd, eqD_sh]
include hL
theorem isDepth_ok {n : Nat} (hn : 3 ≤ n) {q : Rat} (h0 : 0 < q) (hs : Sz 10 q) : Pu L n 11 [sh q] (.bl true) :=
  Pu.mk (f := ⟨1, 1, i11⟩) (by omega) rfl rfl fun j e bx => by
    have h1 := isShare_ok hL (n := j) (by omega) (sh_gd hs (by omega))
    have h2 : 0 < q.num := by have := (Rat.lt_iff 0 q).mp h0; simpa using this
    refine ⟨[some (sh q)], ?_⟩
    have h3 : ixD (sh q) (.int 0) = some (.int q.num) := rfl
    have h4 : ctD bx (sh q) = some (sh q) := rfl
    simp [i11, startL, h1.r, sh_share, h3, h4, h2]
theorem isFrag_ok {n : Nat} (hn : 4 ≤ n) {f : Frg} (hv : Fv f) : Pu L n 12 [fr f] (.bl true) :=
  Pu.mk (f := ⟨1, 2, i12⟩) (by omega) rfl rfl fun j e bx => by
    have g := fr_gd hv
    have h1 := isSized_ok (L := L) (n := j) (by omega) g.ok 3 3
    have h1' : isSzD 3 3 (fr f) = true := rfl
    have h2 := isDepth_ok hL (n := j) (by omega) hv.dep hv.sd
    have h3 := isWithin_ok (L := L) (n := j) (by omega) (d := .int f.num) rfl 0 7
    have g4 : Gd (col4 f) := (gd_tup g).mem (by simp [col4])
    have h4 := isSized_ok (L := L) (n := j) (by omega) g4.ok 4 4
    have h4' : isSzD 4 4 (col4 f) = true := rfl
    have hlc : evE (cc L j) (.lc (.call 10 (.cons (.var 1) .nil)) (.var 1) (.its (.ixv 0 (.cst (.int 2)))) .nil [1]) ⟨[some (fr f), none], bx⟩ = .ok (.own ([f.r, f.g, f.b, f.op].map fun _ => .bl true)) ⟨[some (fr f), none], bx⟩ :=
      lc_mapA [f.r, f.g, f.b, f.op] sh (fun _ => .bl true) (by simp) (by show 4 ≤ 16777216; omega) (by simp [S.frzs, S.frz, fr]) fun q hq => by
        have hq1 : In1 q ∧ Sz 10 q := by
          simp at hq
          rcases hq with rfl | rfl | rfl | rfl
          · exact ⟨hv.r, hv.sr⟩
          · exact ⟨hv.g, hv.sg⟩
          · exact ⟨hv.b, hv.sb⟩
          · exact ⟨hv.op, hv.so⟩
        have h3 := isIn1_ok hL (n := j) (by omega) (sh_gd hq1.2 (by omega))
        rw [sh_in1 hq1.1] at h3
        exact ⟨[some (fr f), some (sh q)], [some (fr f), some (sh q)], .bl true, by simp [asgT, wipeL], by simp [h3.r], rfl, by simp [wipeL]⟩
    refine ⟨[some (fr f), none], ?_⟩
    have a := hv.n0
    have b := hv.n7
    simp [a, b] at h3
    simp [i12, startL, h1.r, h1', h2.r, h3.r, h4.r, h4', hlc]
theorem areLayers_ok {n : Nat} (hn : 5 ≤ n) {fs : List Frg} (h : Lay fs) : Pu L n 15 [frs fs] (.bl true) :=
  Pu.mk (f := ⟨1, 3, i15⟩) (by omega) rfl rfl fun j e bx => by
    have h5 := h.l5
    obtain ⟨ds, hds⟩ : ∃ ds, fs.dropLast = ds := ⟨_, rfl⟩
    obtain ⟨zs, hzs⟩ : ∃ zs, fs.zip fs.tail = zs := ⟨_, rfl⟩
    have l1 : evE (cc L j) (.lc (.call 12 (.cons (.var 1) .nil)) (.var 1) (.its (.var 0)) .nil [1]) ⟨[some (frs fs), none, none], bx⟩ = .ok (.own (fs.map fun _ => .bl true)) ⟨[some (frs fs), none, none], bx⟩ :=
      lc_mapA fs fr (fun _ => .bl true) (by simp) (by show fs.length ≤ 16777216; omega) (by simp [S.frzs, S.frz, frs]) fun f hf => by
        have := isFrag_ok hL (n := j) (by omega) (h.v f hf)
        exact ⟨[some (frs fs), some (fr f), none], [some (frs fs), some (fr f), none], .bl true, by simp [asgT, wipeL], by simp [this.r], rfl, by simp [wipeL]⟩
    have l2 : evE (cc L j) (.lc (.call 14 (.cons (.var 1) .nil)) (.var 1) (.its (.slv 0 .nil (.prt (.neg (.cst (.int 1)))))) .nil [1]) ⟨[some (frs fs), none, none], bx⟩ = .ok (.own (ds.map fun _ => .bl false)) ⟨[some (frs fs), none, none], bx⟩ :=
      lc_mapA ds fr (fun _ => .bl false) (by simp only [ei_its, ev_slv, List.getElem?_cons_zero, Option.bind_some, id, Option.isSome_some, if_true, eo_nil, Res.bnd_ok, eo_prt, ev_neg, ev_cst, negK_i, prtK_i, cont_mk, ctD_frs, sl_frs_dl, Res.opt_some, frs_frz, frs_items, hds]) (by rw [← hds, List.length_dropLast]; show fs.length - 1 ≤ 16777216; omega) (by simp [S.frzs, S.frz, frs]) fun f hf => by
        have := isFull_ok (L := L) (n := j) (by omega) f
        have c : ¬ f.op = 1 := h.nf f (by rw [hds]; exact hf)
        exact ⟨[some (frs fs), some (fr f), none], [some (frs fs), some (fr f), none], .bl false, by simp [asgT, wipeL], by simp [this.r, c], rfl, by simp [wipeL]⟩
    have l3 : evE (cc L j) (.lc (.call 13 (.cons (.var 1) (.cons (.var 2) .nil))) (.tup (.cons (.var 1) (.cons (.var 2) .nil))) (.zip (.var 0) (.slv 0 (.prt (.cst (.int 1))) .nil)) .nil [1, 2]) ⟨[some (frs fs), none, none], bx⟩ = .ok (.own (zs.map fun _ => .bl true)) ⟨[some (frs fs), none, none], bx⟩ :=
      lc_mapA zs (fun p => .tup [fr p.1, fr p.2]) (fun _ => .bl true) (by simp; rw [← List.map_tail, zipD_map, hzs]) (by rw [← hzs, List.length_zip]; show min _ _ ≤ 16777216; omega) (by simp [S.frzs, S.frz, frs]) fun p hp => by
        rw [← hzs] at hp
        have m1 := (List.of_mem_zip hp).1
        have m2 := List.mem_of_mem_tail (List.of_mem_zip hp).2
        have := isAhead_ok (L := L) (n := j) (by omega) (h.v _ m1) (h.v _ m2)
        rw [h.ah p hp] at this
        exact ⟨[some (frs fs), some (fr p.1), some (fr p.2)], [some (frs fs), some (fr p.1), some (fr p.2)], .bl true, by simp [asgT, asgT.asgTs, wipeL], by simp [this.r], rfl, by simp [wipeL]⟩
    have b1 : allB (fs.map fun _ => D.bl true) = some (fs.map fun _ => true) := allB_map (fun _ => true) fs
    have b2 : allB (ds.map fun _ => D.bl false) = some (ds.map fun _ => false) := allB_map (fun _ => false) _
    have b3 : allB (zs.map fun _ => D.bl true) = some (zs.map fun _ => true) := allB_map (fun _ => true) _
    refine ⟨[some (frs fs), none, none], ?_⟩
    simp [i15, startL, l1, l2, l3, b1, b2, b3]
theorem checkLayers_ok {n : Nat} (hn : 6 ≤ n) {fs : List Frg} (h : Lay fs) : Pu L n 16 [frs fs] .non := fun bx => by
  obtain ⟨j, rfl⟩ : ∃ j, n = j + 1 := ⟨n - 1, by omega⟩
  rw [callN_eq (f := ⟨1, 1, i16⟩) rfl]
  have h1 := areLayers_ok hL (n := j) (by omega) h
  refine runF_nx (s := ⟨[some (frs fs)], bx⟩) rfl ?_
  simp [i16, startL, h1.r]
theorem sheetOf_ok {n : Nat} (hn : 7 ≤ n) {fs : List Frg} (h : Lay fs) : Pu L n 24 [frs fs] (pr (rawR fs)) :=
  Pu.mk (f := ⟨1, 1, i24⟩) (by omega) rfl rfl fun j e bx => by
    have h1 := checkLayers_ok hL (n := j) (by omega) h
    have h2 := rawSheet_ok hL (n := j) (by omega) h.l5 h.v
    refine ⟨[some (frs fs)], ?_⟩
    simp [i24, startL, h1.r, h2.r]
theorem seenThrough_ok {n : Nat} (hn : 7 ≤ n) {fs : List Frg} (h : Lay fs) {g : List Rat} (hg : Gv g) : Pu L n 21 [frs fs, shs g] (shs (addR (rawR fs).2 (rawR fs).1 g)) :=
  Pu.mk (f := ⟨2, 4, i21⟩) (by omega) rfl rfl fun j e bx => by
    have h1 := checkLayers_ok hL (n := j) (by omega) h
    have h2 := rawSheet_ok hL (n := j) (by omega) h.l5 h.v
    have h3 := checkGround_ok hL (n := j) (by omega) hg
    obtain ⟨s1, s2⟩ := rawR_sz fs.length fs rfl h.l5 h.v
    have h5 := h.l5
    have h4 := added_ok hL (n := j) (by omega) s1 hg.sz s2 (by omega) (by rw [rawR_len]; decide)
    refine ⟨[some (frs fs), some (shs g), some (shs (rawR fs).1), some (sh (rawR fs).2)], ?_⟩
    have h6 : asgT (.tup (.cons (.var 2) (.cons (.var 3) .nil))) (pr (rawR fs)) ⟨[some (frs fs), some (shs g), none, none], bx⟩ = some ⟨[some (frs fs), some (shs g), some (shs (rawR fs).1), some (sh (rawR fs).2)], bx⟩ := by
      simp [pr, asgT, asgT.asgTs]
    simp [i21, startL, h1.r, h2.r, h3.r, h6, h4.r]
end
end Q.K46
end

section
set_option maxRecDepth 100000
set_option maxHeartbeats 4000000
set_option exponentiation.threshold 70
/-! M46e: the hand. -/
namespace Q.K46
open PySem L2 Q

def hb (cs : List D) (a h2 h3 h4 : Int) : List (List D) := [[.lst cs, .int a, .int h2, .int h3, .int h4]]
/-- the hand, after at most m draws by its count -/
def Hd (m : Nat) (bx : List (List D)) : Prop := ∃ (cells : List Int) (a h2 h3 h4 : Int), bx = hb (cells.map .int) a h2 h3 h4 ∧ (∀ c, c ∈ cells → 0 ≤ c) ∧ 0 ≤ a ∧ a ≤ cells.length ∧ 0 ≤ h2 ∧ 0 ≤ h3 ∧ h3 < 2 ^ 31 ∧ 0 ≤ h4 ∧ h4 ≤ m
theorem fm {a b : Int} (h : 0 < b) : 0 ≤ a.fmod b ∧ a.fmod b < b := ⟨Int.fmod_nonneg_of_pos a h, Int.fmod_lt_of_pos a h⟩
theorem ok_mul {i j : Int} (hi : i.natAbs < 2 ^ 64) (hj : j.natAbs < 2 ^ 64) : mulOk i j = true := mulOk_of hi hj (by omega)
theorem ok_div {j : Int} (h0 : 0 < j) (h : j < 2 ^ 64) : divOk j = true := divOk_of (by omega) (Nat.lt_of_lt_of_le (show j.natAbs < 2 ^ 64 by omega) (Nat.pow_le_pow_right (by omega) (by omega)))
def d1 : St := (.ite (.and (.tru (.cmp .eq (.ixv 0 (.cst (.int 2))) (.cst (.int 0)))) (.tru (.cmp .lt (.ixv 0 (.cst (.int 1))) (.blt .len (.cons (.ixv 0 (.cst (.int 0))) .nil))))) (.seq (.asv 3 (.idx (.ixv 0 (.cst (.int 0))) (.ixv 0 (.cst (.int 1))))) (.seq (.set 0 (.cst (.int 1)) (.bin .add (.ixv 0 (.cst (.int 1))) (.cst (.int 1)))) (.seq (.set 0 (.cst (.int 3)) (.bin .mod (.blt .int (.cons (.bin .add (.bin .add (.bin .mul (.ixv 0 (.cst (.int 3))) (.cst (.int 48271))) (.var 3)) (.cst (.int 31))) .nil)) (.cst (.int 2147483647)))) (.seq (.ite (.tru (.cmp .ge (.var 3) (.bin .pow (.cst (.int 10)) (.cst (.int 18))))) (.seq (.set 0 (.cst (.int 2)) (.var 3)) .nil) .nil) .nil)))) .nil)
def d2 : St := (.seq (.ite (.tru (.cmp .gt (.ixv 0 (.cst (.int 2))) (.cst (.int 0)))) (.seq (.asv 4 (.bin .mod (.blt .int (.cons (.ixv 0 (.cst (.int 2))) .nil)) (.var 1))) (.seq (.set 0 (.cst (.int 2)) (.bin .fdiv (.ixv 0 (.cst (.int 2))) (.var 1))) (.seq (.ret (.var 4)) .nil))) .nil) (.seq (.set 0 (.cst (.int 4)) (.bin .add (.ixv 0 (.cst (.int 4))) (.cst (.int 1)))) (.seq (.asv 2 (.bin .mod (.blt .int (.cons (.bin .mul (.blt .int (.cons (.bin .add (.ixv 0 (.cst (.int 3))) (.bin .mul (.cst (.int 6151)) (.ixv 0 (.cst (.int 4))))) .nil)) (.cst (.int 40692))) .nil)) (.cst (.int 2147483399)))) (.seq (.asv 2 (.bin .mod (.blt .int (.cons (.bin .mul (.var 2) (.bin .add (.bin .fdiv (.var 2) (.cst (.int 1223))) (.cst (.int 52027)))) .nil)) (.cst (.int 2147483629)))) (.seq (.asv 2 (.bin .mod (.blt .int (.cons (.bin .mul (.var 2) (.bin .add (.bin .fdiv (.var 2) (.cst (.int 2671))) (.cst (.int 69621)))) .nil)) (.cst (.int 2147483647)))) (.seq (.ret (.bin .mod (.blt .int (.cons (.bin .fdiv (.var 2) (.cst (.int 32))) .nil)) (.var 1))) .nil))))))
theorem i28_eq : i28 = .seq d1 d2 := rfl
@[simp] theorem set_hb (l : List (Option D)) (cs : List D) (a h2 h3 h4 : Int) (x : D) (r : List (Option D)) : S.setItem ⟨some (.box 0) :: r, hb cs a h2 h3 h4⟩ 0 (.int 1) x = some ⟨some (.box 0) :: r, [[.lst cs, x, .int h2, .int h3, .int h4]]⟩ := rfl
@[simp] theorem set_hb2 (cs : List D) (a h2 h3 h4 : Int) (x : D) (r : List (Option D)) : S.setItem ⟨some (.box 0) :: r, hb cs a h2 h3 h4⟩ 0 (.int 2) x = some ⟨some (.box 0) :: r, [[.lst cs, .int a, x, .int h3, .int h4]]⟩ := rfl
@[simp] theorem set_hb3 (cs : List D) (a h2 h3 h4 : Int) (x : D) (r : List (Option D)) : S.setItem ⟨some (.box 0) :: r, hb cs a h2 h3 h4⟩ 0 (.int 3) x = some ⟨some (.box 0) :: r, [[.lst cs, .int a, .int h2, x, .int h4]]⟩ := rfl
@[simp] theorem set_hb4 (cs : List D) (a h2 h3 h4 : Int) (x : D) (r : List (Option D)) : S.setItem ⟨some (.box 0) :: r, hb cs a h2 h3 h4⟩ 0 (.int 4) x = some ⟨some (.box 0) :: r, [[.lst cs, .int a, .int h2, .int h3, x]]⟩ := rfl
@[simp] theorem hb_fold (cs : List D) (a h2 h3 h4 : Int) : [[D.lst cs, .int a, .int h2, .int h3, .int h4]] = hb cs a h2 h3 h4 := rfl
@[simp] theorem hb_get (cs : List D) (a h2 h3 h4 : Int) : (hb cs a h2 h3 h4)[0]? = some [.lst cs, .int a, .int h2, .int h3, .int h4] := rfl
theorem at_nat {xs : List D} {j : Nat} (h : j < xs.length) : atI xs (j : Int) = xs[j]? := by
  have h' : (j : Int) < (xs.length : Int) := by omega
  simp [atI, ixN, h]
@[simp] theorem at0 (x : D) (r : List D) : atI (x :: r) 0 = some x := by simp [atI, ixN]
@[simp] theorem at1 (x y : D) (r : List D) : atI (x :: y :: r) 1 = some y := at_nat (j := 1) (by simp)
@[simp] theorem at2 (x y z : D) (r : List D) : atI (x :: y :: z :: r) 2 = some z := at_nat (j := 2) (by simp)
@[simp] theorem at3 (x y z w : D) (r : List D) : atI (x :: y :: z :: w :: r) 3 = some w := at_nat (j := 3) (by simp)
@[simp] theorem at4 (x y z w v : D) (r : List D) : atI (x :: y :: z :: w :: v :: r) 4 = some v := at_nat (j := 4) (by simp)
theorem at_cells {cells : List Int} {a : Int} (h0 : 0 ≤ a) (h : a < cells.length) : ∃ c, c ∈ cells ∧ atI (cells.map D.int) a = some (.int c) := by
  have hl : a.toNat < cells.length := by omega
  refine ⟨cells[a.toNat], List.getElem_mem hl, ?_⟩
  unfold atI ixN
  simp [h0, h, hl]
section
variable {c : Env} {L : Nat}
theorem draw1 {m : Nat} {bx : List (List D)} (many : Int) (h : Hd m bx) : ∃ x3 bx', evS c L d1 ⟨[some (.box 0), some (.int many), none, none, none], bx⟩ = .ok .nx ⟨[some (.box 0), some (.int many), none, x3, none], bx'⟩ ∧ Hd m bx' := by
  obtain ⟨cells, a, h2, h3, h4, rfl, hc, a0, a1, b0, g0, g1, f0, f1⟩ := h
  by_cases e1 : h2 = 0
  · subst e1
    by_cases e2 : a < cells.length
    · obtain ⟨x, hx, hat⟩ := at_cells a0 e2
      have m1 : mulOk h3 48271 = true := ok_mul (by omega) (by omega)
      have p1 : powOk 10 18 = true := by decide
      have q := fm (a := h3 * 48271 + x + 31) (b := 2147483647) (by omega)
      by_cases e3 : (1000000000000000000 : Int) ≤ x
      · refine ⟨some (.int x), hb (cells.map .int) (a + 1) x ((h3 * 48271 + x + 31).fmod 2147483647) h4, ?_, cells, a + 1, x, _, h4, rfl, hc, by omega, by omega, hc x hx, q.1, by omega, f0, f1⟩
        simp [d1, e2, hat, m1, p1, e3]
      · refine ⟨some (.int x), hb (cells.map .int) (a + 1) 0 ((h3 * 48271 + x + 31).fmod 2147483647) h4, ?_, cells, a + 1, 0, _, h4, rfl, hc, by omega, by omega, by omega, q.1, by omega, f0, f1⟩
        simp [d1, e2, hat, m1, p1, e3]
    · refine ⟨none, _, ?_, cells, a, 0, h3, h4, rfl, hc, a0, a1, b0, g0, g1, f0, f1⟩
      simp [d1, e2]
  · refine ⟨none, _, ?_, cells, a, h2, h3, h4, rfl, hc, a0, a1, b0, g0, g1, f0, f1⟩
    simp [d1, e1]
theorem draw2 {m : Nat} {bx : List (List D)} {many : Int} (hm : m < 2 ^ 40) (m0 : 0 < many) (m1 : many < 2 ^ 60) (x3 : Option D) (h : Hd m bx) : ∃ l r bx', evS c L d2 ⟨[some (.box 0), some (.int many), none, x3, none], bx⟩ = .ok (.rt (.int r)) ⟨l, bx'⟩ ∧ 0 ≤ r ∧ r < many ∧ Hd (m + 1) bx' := by
  obtain ⟨cells, a, h2, h3, h4, rfl, hc, a0, a1, b0, g0, g1, f0, f1⟩ := h
  have n0 : many ≠ 0 := by omega
  by_cases e1 : 0 < h2
  · have q := fm (a := h2) m0
    have k1 := ok_div m0 (by omega)
    have k2 : 0 ≤ h2.fdiv many := by rw [Int.fdiv_eq_ediv_of_nonneg _ (by omega)]; exact Int.ediv_nonneg b0 (by omega)
    refine ⟨[some (.box 0), some (.int many), none, x3, some (.int (h2.fmod many))], h2.fmod many, hb (cells.map .int) a (h2.fdiv many) h3 h4, ?_, q.1, q.2, cells, a, _, h3, h4, rfl, hc, a0, a1, k2, g0, g1, f0, by omega⟩
    simp [d2, e1, n0, k1]
  · have k1 : mulOk 6151 (h4 + 1) = true := ok_mul (by omega) (by omega)
    obtain ⟨n1, hn1⟩ : ∃ n1, n1 = ((h3 + 6151 * (h4 + 1)) * 40692).fmod 2147483399 := ⟨_, rfl⟩
    have q1 := fm (a := (h3 + 6151 * (h4 + 1)) * 40692) (b := 2147483399) (by omega)
    rw [← hn1] at q1
    have k2 : mulOk (h3 + 6151 * (h4 + 1)) 40692 = true := ok_mul (by omega) (by omega)
    have k3 : divOk 1223 = true := ok_div (by omega) (by omega)
    have w1 : 0 ≤ n1.fdiv 1223 ∧ n1.fdiv 1223 ≤ n1 := by rw [Int.fdiv_eq_ediv_of_nonneg _ (by omega)]; omega
    have k4 : mulOk n1 (n1.fdiv 1223 + 52027) = true := ok_mul (by omega) (by omega)
    obtain ⟨n2, hn2⟩ : ∃ n2, n2 = (n1 * (n1.fdiv 1223 + 52027)).fmod 2147483629 := ⟨_, rfl⟩
    have q2 := fm (a := n1 * (n1.fdiv 1223 + 52027)) (b := 2147483629) (by omega)
    rw [← hn2] at q2
    have k5 : divOk 2671 = true := ok_div (by omega) (by omega)
    have w2 : 0 ≤ n2.fdiv 2671 ∧ n2.fdiv 2671 ≤ n2 := by rw [Int.fdiv_eq_ediv_of_nonneg _ (by omega)]; omega
    have k6 : mulOk n2 (n2.fdiv 2671 + 69621) = true := ok_mul (by omega) (by omega)
    obtain ⟨n3, hn3⟩ : ∃ n3, n3 = (n2 * (n2.fdiv 2671 + 69621)).fmod 2147483647 := ⟨_, rfl⟩
    have k7 : divOk 32 = true := ok_div (by omega) (by omega)
    have q4 := fm (a := n3.fdiv 32) m0
    refine ⟨[some (.box 0), some (.int many), some (.int n3), x3, none], (n3.fdiv 32).fmod many, hb (cells.map .int) a h2 h3 (h4 + 1), ?_, q4.1, q4.2, cells, a, h2, h3, _, rfl, hc, a0, a1, b0, g0, g1, by omega, by omega⟩
    simp [d2, e1, k1, k2, ← hn1, k3, k4, ← hn2, k5, k6, ← hn3, k7, n0]
end
end Q.K46
end

section
set_option maxRecDepth 100000
set_option maxHeartbeats 4000000
set_option exponentiation.threshold 70
/-! M46f: the law's own shares. -/
namespace Q.K46
open PySem L2 Q

section
variable {L : Nat}
/-- a draw: some number below many -/
theorem draw_ok {n m : Nat} (hn : 1 ≤ n) {bx : List (List D)} {many : Int} (hm : m < 2 ^ 40) (m0 : 0 < many) (m1 : many < 2 ^ 60) (h : Hd m bx) : ∃ r bx', callN prg.tb prg.gb L n 28 [.box 0, .int many] bx = .ok (.int r) bx' ∧ 0 ≤ r ∧ r < many ∧ Hd (m + 1) bx' := by
  obtain ⟨j, rfl⟩ : ∃ j, n = j + 1 := ⟨n - 1, by omega⟩
  obtain ⟨x3, b1, e1, h1⟩ := draw1 (c := cc L j) (L := L) many h
  obtain ⟨l, r, b2, e2, r0, r1, h2⟩ := draw2 (c := cc L j) (L := L) hm m0 m1 x3 h1
  refine ⟨r, b2, ?_, r0, r1, h2⟩
  rw [callN_eq (f := ⟨2, 5, i28⟩) rfl]
  refine runF_rt (s := ⟨l, b2⟩) rfl ?_
  rw [show (Fn.mk 2 5 i28).body = .seq d1 d2 from rfl]
  show evS (cc L j) L (.seq d1 d2) ⟨[some (.box 0), some (.int many), none, none, none], bx⟩ = _
  rw [es_seq, e1, Res.bnd_ok, seqK_nx, e2]
theorem draw_r {n m : Nat} (hn : 1 ≤ n) {bx : List (List D)} {many : Int} (hm : m < 2 ^ 40) (m0 : 0 < many) (m1 : many < 2 ^ 60) (h : Hd m bx) : ∃ r bx', (∀ l, callR (cc L n) 28 [.box 0, .int many] ⟨l, bx⟩ = .ok (.int r) ⟨l, bx'⟩) ∧ 0 ≤ r ∧ r < many ∧ Hd (m + 1) bx' := by
  obtain ⟨r, b, h1, h2, h3, h4⟩ := draw_ok (L := L) hn hm m0 m1 h
  exact ⟨r, b, fun l => callR_ok h1, h2, h3, h4⟩
theorem hand_ok {n : Nat} (hn : 1 ≤ n) (ns : List Int) (hl : ns.length ≤ 63) : ∃ bx, callN prg.tb prg.gb L n 27 [.scr ns] [] = .ok (.box 0) bx ∧ Hd 0 bx := by
  obtain ⟨j, rfl⟩ : ∃ j, n = j + 1 := ⟨n - 1, by omega⟩
  have hcut : slD (.scr ns) none (some 63) = some (.own (ns.map .int)) := by
    show some (D.own (cutD (ns.map .int) none (some 63))) = _
    unfold cutD
    have h1 : HT.sIx (ns.map D.int).length 0 none = 0 := rfl
    have h2 : HT.sIx (ns.map D.int).length (ns.map D.int).length (some 63) = ns.length := by
      simp [HT.sIx]; omega
    rw [h1, h2, List.drop_zero, Nat.sub_zero, List.take_of_length_le (by simp)]
  have hlc : evE (cc L j) (.lc (.blt .abs (.cons (.blt .int (.cons (.var 2) .nil)) .nil)) (.var 2) (.its (.slv 0 .nil (.prt (.cst (.int 63))))) .nil [2]) ⟨[some (.scr ns), none, none], []⟩ = .ok (.own ((ns.map fun i => if i < 0 then -i else i).map .int)) ⟨[some (.scr ns), none, none], []⟩ := by
    rw [List.map_map]
    exact lc_mapA ns .int _ (by simp [hcut]) (by show ns.length ≤ 16777216; omega) (by simp [S.frzs, S.frz]) fun i hi => ⟨[some (.scr ns), none, some (.int i)], [some (.scr ns), none, some (.int i)], .int (if i < 0 then -i else i), by simp [asgT, wipeL], by simp, rfl, by simp [wipeL]⟩
  generalize hc : (ns.map fun i => if i < 0 then -i else i) = cells at hlc
  have hlen : cells.length = ns.length := by rw [← hc]; simp
  refine ⟨hb (cells.map .int) 0 0 (97 + 5 * (cells.length : Int)) 0, ?_, cells, 0, 0, _, 0, rfl, ?_, by omega, by omega, by omega, by omega, by omega, by omega, by omega⟩
  · rw [callN_eq (f := ⟨1, 3, i27⟩) rfl]
    have mk : mulOk 5 (cells.length : Int) = true := ok_mul (by omega) (by omega)
    refine runF_rt (s := ⟨[some (.scr ns), some (.lst (cells.map .int)), none], hb (cells.map .int) 0 0 (97 + 5 * (cells.length : Int)) 0⟩) rfl ?_
    simp [i27, startL, hlc, mk]
  · intro x hx
    rw [← hc] at hx
    obtain ⟨i, _, rfl⟩ := List.mem_map.mp hx
    show 0 ≤ (if i < 0 then -i else i)
    split <;> omega
/-! ### lowest terms -/
def lwC : E := (.tru (.cmp .gt (.var 3) (.cst (.int 0))))
def lwB : St := (.seq (.par 3 2 (.bin .mod (.blt .int (.cons (.var 2) .nil)) (.var 3)) (.var 3)) .nil)
theorem low_loop (c : Env) (bx : List (List D)) (t b : D) : ∀ (m : Nat) (x y : Nat), x < m → whlL (evT c lwC) (evS c L lwB) m ⟨[some t, some b, some (.int y), some (.int x)], bx⟩ = .ok .nx ⟨[some t, some b, some (.int (Nat.gcd x y)), some (.int 0)], bx⟩
  | 0, x, y, h => by omega
  | m + 1, x, y, h => by
    by_cases hx : x = 0
    · subst hx
      rw [Nat.gcd_zero_left]
      exact whl_f (by simp [lwC])
    · have hm : y % x < m := by have := Nat.mod_lt y (show 0 < x by omega); omega
      have ih := low_loop c bx t b m (y % x) x hm
      rw [show Nat.gcd x y = Nat.gcd (y % x) x by rw [Nat.gcd_rec]]
      refine whl_t (s1 := ⟨[some t, some b, some (.int y), some (.int x)], bx⟩) (by simp [lwC]; omega) ?_ ih
      have e : (y : Int).fmod (x : Int) = ((y % x : Nat) : Int) := by
        rw [Int.fmod_eq_emod_of_nonneg _ (by omega)]; rfl
      simp [lwB, hx, e]
variable (hL : 2 ^ 9000 ≤ L)
include hL
theorem low_ok {n : Nat} (hn : 1 ≤ n) (t : Int) (b : Nat) (h0 : b ≠ 0) (ht : t.natAbs < 2 ^ 9000) (hb : b < 2 ^ 9000) : Pu L n 31 [.int t, .int b] (sh (Rat.normalize t b h0)) :=
  Pu.mk (f := ⟨2, 4, i31⟩) (by omega) rfl rfl fun j e bx => by
    have hw := low_loop (cc L j) (L := L) bx (.int t) (.int b) L t.natAbs b (Nat.lt_of_lt_of_le ht hL)
    have hg : Nat.gcd t.natAbs b = Int.gcd t b := by simp [Int.gcd]
    rw [hg] at hw
    have g0 : 0 < Int.gcd t b := Int.gcd_pos_iff.mpr (.inr (by omega))
    have gb : Int.gcd t b ≤ b := Nat.le_of_dvd (by omega) (by have := Int.gcd_dvd_natAbs_right t b; simpa using this)
    have hd : divOk ((Int.gcd t b : Nat) : Int) = true := divOk_of (by omega) (by omega)
    have hp : 0 < b := by omega
    have ea : (if t < 0 then -t else t) = (t.natAbs : Int) := by split <;> omega
    have eb : (if (b : Int) < 0 then -(b : Int) else (b : Int)) = (b : Int) := by split <;> omega
    rw [← sh_norm]
    refine ⟨[some (.int t), some (.int b), some (.int (Int.gcd t b)), some (.int 0)], ?_⟩
    have hi : i31 = (.seq (.par 3 2 (.blt .abs (.cons (.var 0) .nil)) (.blt .abs (.cons (.var 1) .nil))) (.seq (.whl lwC lwB) (.seq (.asv 2 (.ite (.tru (.cmp .gt (.var 1) (.cst (.int 0)))) (.var 2) (.bin .sub (.cst (.int 0)) (.var 2)))) (.seq (.ret (.tup (.cons (.bin .fdiv (.var 0) (.var 2)) (.cons (.bin .fdiv (.var 1) (.var 2)) .nil)))) .nil)))) := rfl
    simp [hi, startL, ea, eb, hw, hp, hd]
    rw [Int.fdiv_eq_ediv_of_nonneg _ (by omega), Int.fdiv_eq_ediv_of_nonneg _ (by omega)]
    exact ⟨rfl, rfl⟩
theorem lplus_ok {n k m : Nat} (hn : 2 ≤ n) {p q : Rat} (hp : Sz k p) (hq : Sz m q) (h : k + m ≤ 8000) : Pu L n 32 [sh p, sh q] (sh (p + q)) :=
  Pu.mk (f := ⟨2, 2, i32⟩) (by omega) rfl rfl fun j e bx => by
    have hb : p.den * q.den < 2 ^ 9000 := Nat.lt_of_lt_of_le (by rw [Nat.pow_add]; exact Nat.mul_lt_mul'' hp.2 hq.2 : p.den * q.den < 2 ^ (k + m)) (Nat.pow_le_pow_right (by omega) (by omega))
    have h0 : p.den * q.den ≠ 0 := Nat.mul_ne_zero p.den_nz q.den_nz
    have hn1 : (p.num * q.den + q.num * p.den).natAbs < 2 ^ 9000 := Nat.lt_of_lt_of_le (sz_num hp.1 hq.2 hq.1 hp.2) (Nat.pow_le_pow_right (by omega) (by omega))
    have m1 := mulOk_of (i := p.num) (j := (q.den : Int)) hp.1 (m := m) (by simpa using hq.2) (by omega)
    have m3 := mulOk_of (i := q.num) (j := (p.den : Int)) hq.1 (m := k) (by simpa using hp.2) (by omega)
    have m2 := mulOk_of (i := (p.den : Int)) (j := (q.den : Int)) (k := k) (m := m) (by simpa using hp.2) (by simpa using hq.2) (by omega)
    refine ⟨[some (sh p), some (sh q)], ?_⟩
    have hc := (low_ok hL (n := j) (by omega) (p.num * q.den + q.num * p.den) (p.den * q.den) h0 hn1 hb).r [some (sh p), some (sh q)] bx
    rw [Rat.add_def]
    rw [Int.natCast_mul] at hc
    simp [i32, startL, sh, m1, m2, m3] at hc ⊢
    rw [hc]; rfl
theorem lminus_ok {n k m : Nat} (hn : 3 ≤ n) {p q : Rat} (hp : Sz k p) (hq : Sz m q) (h : k + m ≤ 8000) : Pu L n 33 [sh p, sh q] (sh (p - q)) :=
  Pu.mk (f := ⟨2, 2, i33⟩) (by omega) rfl rfl fun j e bx => by
    have h1 := lplus_ok hL (n := j) (by omega) hp (sz_neg hq) (by omega)
    rw [← Rat.sub_eq_add_neg] at h1
    refine ⟨[some (sh p), some (sh q)], ?_⟩
    have h2 := h1.r [some (sh p), some (sh q)] bx
    have e1 : sh (-q) = .tup [.int (-q.num), .int q.den] := by unfold sh; rw [Rat.neg_num, Rat.neg_den]
    rw [e1] at h2
    have e3 : ixD (sh q) (.int 0) = some (.int q.num) := rfl
    have e4 : ixD (sh q) (.int 1) = some (.int q.den) := rfl
    have e5 : ctD bx (sh q) = some (sh q) := rfl
    simp [i33, startL, e3, e4, e5]
    rw [h2]; rfl
theorem ltimes_ok {n k m : Nat} (hn : 2 ≤ n) {p q : Rat} (hp : Sz k p) (hq : Sz m q) (h : k + m ≤ 9000) : Pu L n 34 [sh p, sh q] (sh (p * q)) :=
  Pu.mk (f := ⟨2, 2, i34⟩) (by omega) rfl rfl fun j e bx => by
    have hb : p.den * q.den < 2 ^ 9000 := Nat.lt_of_lt_of_le (by rw [Nat.pow_add]; exact Nat.mul_lt_mul'' hp.2 hq.2 : p.den * q.den < 2 ^ (k + m)) (Nat.pow_le_pow_right (by omega) h)
    have hn1 : (p.num * q.num).natAbs < 2 ^ 9000 := Nat.lt_of_lt_of_le (by rw [Int.natAbs_mul, Nat.pow_add]; exact Nat.mul_lt_mul'' hp.1 hq.1 : (p.num * q.num).natAbs < 2 ^ (k + m)) (Nat.pow_le_pow_right (by omega) h)
    have h0 : p.den * q.den ≠ 0 := Nat.mul_ne_zero p.den_nz q.den_nz
    have m1 := mulOk_of (i := p.num) (j := q.num) hp.1 hq.1 (by omega)
    have m2 := mulOk_of (i := (p.den : Int)) (j := (q.den : Int)) (k := k) (m := m) (by simpa using hp.2) (by simpa using hq.2) (by omega)
    refine ⟨[some (sh p), some (sh q)], ?_⟩
    have hc := (low_ok hL (n := j) (by omega) (p.num * q.num) (p.den * q.den) h0 hn1 hb).r [some (sh p), some (sh q)] bx
    rw [Rat.mul_def]
    rw [Int.natCast_mul] at hc
    simp [i34, startL, sh, m1, m2] at hc ⊢
    rw [hc]; rfl
omit hL
theorem lless_ok {n k m : Nat} (hn : 1 ≤ n) {p q : Rat} (hp : Sz k p) (hq : Sz m q) (h : k + m ≤ 8000) : Pu L n 35 [sh p, sh q] (.bl (decide (p < q))) :=
  Pu.mk (f := ⟨2, 2, i35⟩) (by omega) rfl rfl fun j e bx => by
    have m1 := mulOk_of (i := p.num) (j := (q.den : Int)) hp.1 (m := m) (by simpa using hq.2) (by omega)
    have m3 := mulOk_of (i := q.num) (j := (p.den : Int)) hq.1 (m := k) (by simpa using hp.2) (by omega)
    refine ⟨[some (sh p), some (sh q)], ?_⟩
    simp [i35, startL, sh, m1, m3, Rat.lt_iff]
/-! ### sums, sheets -/
def sumR (ps : List Rat) : Rat := ps.foldl (· + ·) 0
theorem sumR_snoc (ps : List Rat) (p : Rat) : sumR (ps ++ [p]) = sumR ps + p := by unfold sumR; rw [List.foldl_append]; rfl
theorem sumR_sz {k : Nat} : ∀ (n : Nat) (ps : List Rat), ps.length = n → Szs k ps → Sz (1 + n * (k + 1)) (sumR ps)
  | 0, ps, hn, _ => by
    have : ps = [] := List.length_eq_zero_iff.mp hn
    subst this
    exact sz_zero.mono (by omega)
  | n + 1, ps, hn, hv => by
    have hne : ps ≠ [] := fun e => by subst e; simp at hn
    have e := (List.dropLast_concat_getLast hne).symm
    have hl : ps.dropLast.length = n := by rw [List.length_dropLast]; omega
    have h1 := sumR_sz n ps.dropLast hl fun f hf => hv f ((List.dropLast_sublist ps).subset hf)
    rw [e, sumR_snoc]
    refine (sz_add h1 (hv _ (List.getLast_mem hne))).mono ?_
    rw [Nat.succ_mul]; omega
include hL
theorem lsum_ok {n k : Nat} (hn : 3 ≤ n) {ps : List Rat} (hs : Szs k ps) (h : 1 + ps.length * (k + 1) + k ≤ 8000) : Pu L n 36 [.lst (ps.map sh)] (sh (sumR ps)) :=
  Pu.mk (f := ⟨1, 3, i36⟩) (by omega) rfl rfl fun j e bx => by
    let Pr : Nat → S → Prop := fun i s => ∃ x2, s = ⟨[some (.lst (ps.map sh)), some (sh (sumR (ps.take i))), x2], bx⟩
    obtain ⟨s', e1, x2, rfl⟩ := for_st (f := forT (cc L j) L (.var 2) (.seq (.asv 1 (.call 32 (.cons (.var 1) (.cons (.var 2) .nil)))) .nil)) (ds := ps.map sh) (s := ⟨[some (.lst (ps.map sh)), some (sh 0), none], bx⟩) Pr ⟨none, rfl⟩ fun i d s hd hp => by
      obtain ⟨x2, rfl⟩ := hp
      rw [List.getElem?_map] at hd
      obtain ⟨q, hq, rfl⟩ := map_inv hd
      obtain ⟨q1, q2⟩ := List.getElem?_eq_some_iff.mp hq
      have hr : sumR (ps.take (i + 1)) = sumR (ps.take i) + q := by rw [List.take_succ_eq_append_getElem q1, q2, sumR_snoc]
      have hlen : (ps.take i).length = i := by rw [List.length_take]; omega
      have s1 := sumR_sz (k := k) i (ps.take i) hlen fun f hf => hs f (List.mem_of_mem_take hf)
      have hb : i * (k + 1) ≤ ps.length * (k + 1) := Nat.mul_le_mul_right _ (by omega)
      have t1 := lplus_ok hL (n := j) (by omega) s1 (hs q (List.mem_of_getElem? hq)) (by omega)
      refine ⟨⟨[some (.lst (ps.map sh)), some (sh (sumR (ps.take (i + 1)))), some (sh q)], bx⟩, .inl ?_, _, rfl⟩
      rw [hr]
      simp [forT, asgT, t1.r]
    refine ⟨[some (.lst (ps.map sh)), some (sh (sumR ps)), x2], ?_⟩
    rw [List.length_map, List.take_length] at e1
    have h0 : D.tup [.int 0, .int 1] = sh 0 := rfl
    simp [i36, startL, h0, e1]
/-- the weights, what is left behind them -/
def weiS (s : List Rat × Rat) (f : Frg) : List Rat × Rat := (s.1 ++ [s.2 * f.op], s.2 * (1 - f.op))
def weiR (fs : List Frg) : List Rat × Rat := fs.foldl weiS ([], 1)
omit hL in
theorem weiR_snoc (fs : List Frg) (f : Frg) : weiR (fs ++ [f]) = weiS (weiR fs) f := by unfold weiR; rw [List.foldl_append]; rfl
omit hL in
theorem weiR_sz : ∀ (n : Nat) (fs : List Frg), fs.length = n → n ≤ 5 → (∀ f, f ∈ fs → Fv f) → Szs 80 (weiR fs).1 ∧ Sz (1 + 12 * n) (weiR fs).2 ∧ (weiR fs).1.length = n
  | 0, fs, hn, _, _ => by
    have : fs = [] := List.length_eq_zero_iff.mp hn
    subst this
    exact ⟨fun q hq => by simp [weiR] at hq, sz_one, rfl⟩
  | n + 1, fs, hn, h5, hv => by
    have hne : fs ≠ [] := fun e => by subst e; simp at hn
    have e := (List.dropLast_concat_getLast hne).symm
    have hl : fs.dropLast.length = n := by rw [List.length_dropLast]; omega
    obtain ⟨h1, h2, h3⟩ := weiR_sz n fs.dropLast hl (by omega) fun f hf => hv f ((List.dropLast_sublist fs).subset hf)
    have fv := hv _ (List.getLast_mem hne)
    rw [e, weiR_snoc]
    refine ⟨fun q hq => ?_, (sz_mul h2 (sz_sub sz_one fv.so)).mono (by omega), by simp [weiS, h3]⟩
    simp [weiS] at hq
    rcases hq with hq | rfl
    · exact h1 q hq
    · exact (sz_mul h2 fv.so).mono (by omega)
theorem lweights_ok {n : Nat} (hn : 4 ≤ n) {fs : List Frg} (h5 : fs.length ≤ 5) (hv : ∀ f, f ∈ fs → Fv f) : ∀ bx, callN prg.tb prg.gb L n 41 [frs fs] bx = .ok (.own (((weiR fs).1 ++ [(weiR fs).2]).map sh)) bx := fun bx => by
    obtain ⟨j, rfl⟩ : ∃ j, n = j + 1 := ⟨n - 1, by omega⟩
    rw [callN_eq (f := ⟨1, 6, i41⟩) rfl]
    let Pr : Nat → S → Prop := fun i s => ∃ x3 x4 x5, s = ⟨[some (frs fs), some (.own ((weiR (fs.take i)).1.map sh)), some (sh (weiR (fs.take i)).2), x3, x4, x5], bx⟩
    obtain ⟨s', e1, x3, x4, x5, rfl⟩ := for_st (f := forT (cc L j) L (.tup (.cons (.var 3) (.cons (.var 4) (.cons (.var 5) .nil)))) (.seq (.ex (.mut .append 1 (.cons (.call 34 (.cons (.var 2) (.cons (.ixv 5 (.cst (.int 3))) .nil))) .nil))) (.seq (.asv 2 (.call 34 (.cons (.var 2) (.cons (.call 33 (.cons (.tup (.cons (.cst (.int 1)) (.cons (.cst (.int 1)) .nil))) (.cons (.ixv 5 (.cst (.int 3))) .nil))) .nil)))) .nil)))
      (ds := fs.map fr) (s := ⟨[some (frs fs), some (.own []), some (sh 1), none, none, none], bx⟩) Pr ⟨none, none, none, by simp [weiR]⟩ fun i d s hd hp => by
        obtain ⟨x3, x4, x5, rfl⟩ := hp
        rw [List.getElem?_map] at hd
        obtain ⟨f, hf, rfl⟩ := map_inv hd
        have fv := hv f (List.mem_of_getElem? hf)
        obtain ⟨q1, q2⟩ := List.getElem?_eq_some_iff.mp hf
        have hr : weiR (fs.take (i + 1)) = weiS (weiR (fs.take i)) f := by
          rw [List.take_succ_eq_append_getElem q1, q2, weiR_snoc]
        have hlen : (fs.take i).length = i := by rw [List.length_take]; omega
        obtain ⟨s1, s2, s3⟩ := weiR_sz i (fs.take i) hlen (by omega) fun f hf => hv f (List.mem_of_mem_take hf)
        have t1 := ltimes_ok hL (n := j) (by omega) s2 fv.so (by omega)
        have t3 := lminus_ok hL (n := j) (by omega) sz_one fv.so (by omega)
        have t4 := ltimes_ok hL (n := j) (by omega) s2 (sz_sub sz_one fv.so) (by omega)
        have h1 : D.tup [.int 1, .int 1] = sh 1 := rfl
        refine ⟨⟨[some (frs fs), some (.own ((weiR (fs.take (i + 1))).1.map sh)), some (sh (weiR (fs.take (i + 1))).2), some (sh f.dep), some (.int f.num), some (.tup [sh f.r, sh f.g, sh f.b, sh f.op])], bx⟩, .inl ?_, _, _, _, rfl⟩
        rw [hr]
        have hlt : (weiR (fs.take i)).1.length < 16777216 := by omega
        simp [forT, fr, asgT, asgT.asgTs, ownL, t1.r, t3.r, t4.r, h1, weiS, mutD, hlt]
    rw [List.length_map, List.take_length] at e1
    have h1 : D.tup [.int 1, .int 1] = sh 1 := rfl
    obtain ⟨s1, s2, s3⟩ := weiR_sz fs.length fs rfl h5 hv
    have hlt : (weiR fs).1.length + 1 ≤ 16777216 := by omega
    refine runF_rt (s := ⟨[some (frs fs), some (.lst ((weiR fs).1.map sh)), some (sh (weiR fs).2), x3, x4, x5], bx⟩) rfl ?_
    simp [i41, startL, h1, e1, hlt]
end
end Q.K46
end

section
set_option maxRecDepth 100000
set_option maxHeartbeats 4000000
set_option exponentiation.threshold 70
/-! M46g: the law's own sheets. -/
namespace Q.K46
open PySem L2 Q

def Frg.at (f : Frg) : Nat → Rat
  | 0 => f.r
  | 1 => f.g
  | _ => f.b
theorem Fv.sat {f : Frg} (h : Fv f) (a : Nat) : Sz 10 (f.at a) := by
  unfold Frg.at
  split
  · exact h.sr
  · exact h.sg
  · exact h.sb
theorem ix_at (f : Frg) {a : Nat} (h : a < 3) : ixD (col4 f) (.int (a : Int)) = some (sh (f.at a)) := by
  match a, h with
  | 0, _ => rfl
  | 1, _ => rfl
  | 2, _ => rfl
/-- the parts of one colour -/
def parts (fs : List Frg) (a : Nat) : List Rat := ((weiR fs).1.zip fs).map fun p => p.1 * p.2.at a
theorem parts_sz {fs : List Frg} (h5 : fs.length ≤ 5) (hv : ∀ f, f ∈ fs → Fv f) (a : Nat) : Szs 90 (parts fs a) := fun q hq => by
  unfold parts at hq
  obtain ⟨p, hp, rfl⟩ := List.mem_map.mp hq
  obtain ⟨s1, s2, s3⟩ := weiR_sz fs.length fs rfl h5 hv
  exact sz_mul (s1 _ (List.of_mem_zip hp).1) ((hv _ (List.of_mem_zip hp).2).sat a)
theorem parts_len {fs : List Frg} (h5 : fs.length ≤ 5) (hv : ∀ f, f ∈ fs → Fv f) (a : Nat) : (parts fs a).length = fs.length := by
  obtain ⟨s1, s2, s3⟩ := weiR_sz fs.length fs rfl h5 hv
  unfold parts; simp [s3]
theorem parts_snoc {fs : List Frg} {f : Frg} (h : (weiR fs).1.length = fs.length) (a : Nat) : parts (fs ++ [f]) a = parts fs a ++ [(weiR fs).2 * f.op * f.at a] := by
  unfold parts
  rw [weiR_snoc]
  simp [weiS, List.zip_append h]
/-- the law's own sheet of layers is that of the package -/
def shR (fs : List Frg) : List Rat × Rat := ([sumR (parts fs 0), sumR (parts fs 1), sumR (parts fs 2)], (weiR fs).2)
theorem shR_raw : ∀ (n : Nat) (fs : List Frg), fs.length = n → shR fs = rawR fs ∧ (weiR fs).1.length = fs.length
  | 0, fs, hn => by
    have : fs = [] := List.length_eq_zero_iff.mp hn
    subst this
    exact ⟨rfl, rfl⟩
  | n + 1, fs, hn => by
    have hne : fs ≠ [] := fun e => by subst e; simp at hn
    have e := (List.dropLast_concat_getLast hne).symm
    have hl : fs.dropLast.length = n := by rw [List.length_dropLast]; omega
    obtain ⟨h1, h2⟩ := shR_raw n fs.dropLast hl
    generalize fs.dropLast = gs at e h1 h2
    generalize fs.getLast hne = f at e
    subst e
    rw [rawR_snoc, ← h1]
    refine ⟨?_, by rw [weiR_snoc]; simp [weiS, h2]⟩
    unfold shR
    rw [parts_snoc h2, parts_snoc h2, parts_snoc h2, sumR_snoc, sumR_snoc, sumR_snoc, weiR_snoc]
    simp [stepR, addR, Frg.col, weiS, Frg.at]
def wD (fs : List Frg) : List D := ((weiR fs).1 ++ [(weiR fs).2]).map sh
theorem zip_w (fs : List Frg) (h : (weiR fs).1.length = fs.length) : zipD (wD fs) (fs.map fr) = ((weiR fs).1.zip fs).map fun p => .tup [sh p.1, fr p.2] := by
  unfold wD
  rw [zipD_map]
  congr 1
  rw [show fs = fs ++ [] by simp, List.zip_append (by simpa using h)]
  simp
def lcIn : E := (.lc (.call 34 (.cons (.var 4) (.cons (.idx (.ixv 5 (.cst (.int 2))) (.var 3)) .nil))) (.tup (.cons (.var 4) (.cons (.var 5) .nil))) (.zip (.var 1) (.var 0)) .nil [4, 5])
theorem sh_three (fs : List Frg) (a : Nat) : [sumR (parts fs 0), sumR (parts fs 1), sumR (parts fs 2)].map sh = [sh (sumR (parts fs 0)), sh (sumR (parts fs 1)), sh (sumR (parts fs 2))] := rfl
section
variable {L : Nat} (hL : 2 ^ 9000 ≤ L)
include hL
theorem lcIn_ok {n : Nat} (hn : 3 ≤ n) {fs : List Frg} (h5 : fs.length ≤ 5) (hv : ∀ f, f ∈ fs → Fv f) {a : Nat} (ha : a < 3) (bx : List (List D)) (W : D) (hW : W = .own (wD fs) ∨ W = .lst (wD fs)) (x2 : Option D) :
    evE (cc L n) lcIn ⟨[some (frs fs), some W, x2, some (.int (a : Int)), none, none], bx⟩ = .ok (.own ((parts fs a).map sh)) ⟨[some (frs fs), some (.lst (wD fs)), x2, some (.int (a : Int)), none, none], bx⟩ := by
  have hw := (shR_raw _ fs rfl).2
  have h1 : (parts fs a).map sh = ((weiR fs).1.zip fs).map fun p => sh (p.1 * p.2.at a) := by unfold parts; rw [List.map_map]; rfl
  rw [h1]
  refine lc_mapA ((weiR fs).1.zip fs) (fun p => .tup [sh p.1, fr p.2]) (fun p => sh (p.1 * p.2.at a)) ?_ (by rw [List.length_zip]; show min _ _ ≤ 16777216; omega) (by simp [S.frzs, S.frz]) fun p hp => ?_
  · rcases hW with rfl | rfl <;> simp [zip_w fs hw]
  · obtain ⟨s1, s2, s3⟩ := weiR_sz fs.length fs rfl h5 hv
    have t := ltimes_ok hL (n := n) (by omega) (s1 _ (List.of_mem_zip hp).1) ((hv _ (List.of_mem_zip hp).2).sat a) (by omega)
    refine ⟨[some (frs fs), some (.lst (wD fs)), x2, some (.int (a : Int)), some (sh p.1), some (fr p.2)], [some (frs fs), some (.lst (wD fs)), x2, some (.int (a : Int)), some (sh p.1), some (fr p.2)], sh (p.1 * p.2.at a), by simp [asgT, asgT.asgTs, wipeL], ?_, rfl, by simp [wipeL]⟩
    simp [ix_at _ ha, t.r]
theorem lsheet_ok {n : Nat} (hn : 5 ≤ n) {fs : List Frg} (h5 : fs.length ≤ 5) (hv : ∀ f, f ∈ fs → Fv f) : Pu L n 47 [frs fs] (pr (rawR fs)) :=
  Pu.mk (f := ⟨1, 6, i47⟩) (by omega) rfl rfl fun j e bx => by
    have hw := lweights_ok hL (n := j) (by omega) h5 hv bx
    obtain ⟨s1, s2, s3⟩ := weiR_sz fs.length fs rfl h5 hv
    have hr3 : rangeD 0 3 = [.int 0, .int 1, .int 2] := rfl
    obtain ⟨l', b', ys, e1, e2⟩ := lc_gen (c := cc L j) (elt := .call 36 (.cons lcIn .nil)) (tg := .var 3) (it := .rng1 (.cst (.int 3))) (own := [3]) (ds := rangeD 0 3) (l := [some (frs fs), some (.own (wD fs)), none, none, none, none]) (l1 := [some (frs fs), some (.own (wD fs)), none, none, none, none]) (bx := bx) (bx1 := bx)
      (fun i w b acc => b = bx ∧ acc = [sh (sumR (parts fs 0)), sh (sumR (parts fs 1)), sh (sumR (parts fs 2))].take i ∧ w = [some (frs fs), some (if i = 0 then .own (wD fs) else .lst (wD fs)), none, none, none, none])
      (by simp [rngOk, hr3]) (by decide) (by simp [S.frzs, S.frz]) ⟨rfl, rfl, by simp [wipeL]⟩ fun i d w b acc hd hp => by
        obtain ⟨rfl, rfl, rfl⟩ := hp
        have hi : i < 3 := by
          have := (List.getElem?_eq_some_iff.mp hd).1
          rw [hr3] at this; simpa using this
        have hd' : d = .int (i : Int) := by
          rw [hr3] at hd
          match i, hi, hd with
          | 0, _, hd => simpa using hd.symm
          | 1, _, hd => simpa using hd.symm
          | 2, _, hd => simpa using hd.symm
        subst hd'
        have h1 := lcIn_ok hL (n := j) (by omega) h5 hv hi b (if i = 0 then .own (wD fs) else .lst (wD fs)) (by split <;> simp) none
        have pl := parts_len h5 hv i
        have h2 := lsum_ok hL (n := j) (by omega) (parts_sz h5 hv i) (by rw [pl]; have := Nat.mul_le_mul_right 91 h5; omega)
        refine ⟨[some (frs fs), some (if i = 0 then .own (wD fs) else .lst (wD fs)), none, some (.int (i : Int)), none, none], [some (frs fs), some (.lst (wD fs)), none, some (.int (i : Int)), none, none], b, sh (sumR (parts fs i)), by simp [asgT], by simp [h1, h2.r], rfl, ?_, by simp [wipeL]⟩
        match i, hi with
        | 0, _ => rfl
        | 1, _ => rfl
        | 2, _ => rfl
    obtain ⟨rfl, rfl, e3⟩ := e2
    have e4 : backL l' [some (frs fs), some (.own (wD fs)), none, none, none, none] [3] = [some (frs fs), some (.lst (wD fs)), none, none, none, none] := by
      refine back_wipe' ?_ ?_ rfl
      · rw [e3, hr3]; simp [wipeL]
      · intro i hi; simp at hi; subst hi; rfl
    rw [e4] at e1
    have hi : i47 = (.seq (.asv 1 (.call 41 (.cons (.var 0) .nil))) (.seq (.asv 2 (.lc (.call 36 (.cons lcIn .nil)) (.var 3) (.rng1 (.cst (.int 3))) .nil [3])) (.seq (.ret (.tup (.cons (.blt .tuple (.cons (.var 2) .nil)) (.cons (.ixv 1 (.neg (.cst (.int 1)))) .nil)))) .nil))) := rfl
    have hc : ∀ l, callR (cc L j) 41 [frs fs] ⟨l, b'⟩ = .ok (.own (wD fs)) ⟨l, b'⟩ := fun l => callR_ok hw
    have hlast : atI (wD fs) (-1) = some (sh (weiR fs).2) := by
      unfold wD
      rw [List.map_append]
      exact atI_last _ _
    rw [← (shR_raw _ fs rfl).1]
    refine ⟨[some (frs fs), some (.lst (wD fs)), some (.lst [sh (sumR (parts fs 0)), sh (sumR (parts fs 1)), sh (sumR (parts fs 2))]), none, none, none], ?_⟩
    have ht : List.take (rangeD 0 3).length [sh (sumR (parts fs 0)), sh (sumR (parts fs 1)), sh (sumR (parts fs 2))] = [sh (sumR (parts fs 0)), sh (sumR (parts fs 1)), sh (sumR (parts fs 2))] := rfl
    rw [ht] at e1
    simp [hi, startL, hc, e1, hlast, pr, shR, shs]
end
end Q.K46
end

section
set_option maxRecDepth 100000
set_option maxHeartbeats 4000000
set_option exponentiation.threshold 70
/-! M46h: the law's own sheets laid over, layers seen, the look at likeness. -/
namespace Q.K46
open PySem L2 Q

/-- ints, flags, tuples of such, at most n deep -/
def Pl : Nat → D → Prop
  | _, .int _ => True
  | _, .bl _ => True
  | n + 1, .tup xs => xs.length ≤ 100 ∧ ∀ x, x ∈ xs → Pl n x
  | _, _ => False
theorem eqD_int_self (i : Int) : eqD (.int i) (.int i) = true := by simp
theorem shs_pl (cs : List Rat) (h : cs.length ≤ 100) : Pl 2 (shs cs) := by
  refine ⟨by simpa using h, fun x hx => ?_⟩
  obtain ⟨q, _, rfl⟩ := List.mem_map.mp hx
  refine ⟨by simp, fun y hy => ?_⟩
  simp at hy
  rcases hy with rfl | rfl <;> trivial
theorem pr_pl (s : List Rat × Rat) (h : s.1.length ≤ 100) : Pl 3 (pr s) := by
  refine ⟨by simp, fun x hx => ?_⟩
  simp at hx
  rcases hx with rfl | rfl
  · exact shs_pl _ h
  · refine ⟨by simp, fun y hy => ?_⟩
    simp at hy
    rcases hy with rfl | rfl <;> trivial
theorem ix_shs {cs : List Rat} {a : Nat} {q : Rat} (h : cs[a]? = some q) : ixD (shs cs) (.int (a : Int)) = some (sh q) := by
  show atI (cs.map sh) (a : Int) = _
  exact atI_nat (by simp [h])
section
variable {L : Nat}
theorem is_ok : ∀ (h : Nat) (d : D), Pl h d → ∀ n, h + 1 ≤ n → Pu L n 46 [d, d] (.bl true)
  | h, .int i, _, n, hn => Pu.mk (f := ⟨2, 5, i46⟩) (by omega) rfl rfl fun j e bx => ⟨[some (.int i), some (.int i), none, none, none], by
      have e2 : opC .isN (.int i) .non = some false := rfl
      simp [i46, startL, isTyOk, isTy, e2]⟩
  | h, .bl i, _, n, hn => Pu.mk (f := ⟨2, 5, i46⟩) (by omega) rfl rfl fun j e bx => ⟨[some (.bl i), some (.bl i), none, none, none], by
      have e2 : opC .isN (.bl i) .non = some false := rfl
      simp [i46, startL, isTyOk, isTy, e2]⟩
  | h + 1, .tup xs, hp, n, hn => Pu.mk (f := ⟨2, 5, i46⟩) (by omega) rfl rfl fun j e bx => ⟨[some (.tup xs), some (.tup xs), none, none, none], by
      have hz : zipD xs xs = xs.map fun d => .tup [d, d] := by
        have := zipD_map (fun d : D => d) (fun d : D => d) xs xs
        simp at this
        rw [this]
        clear this hp
        induction xs with
        | nil => rfl
        | cons x xs ih => simp [ih]
      have hlc : evE (cc L j) (.lc (.call 46 (.cons (.var 3) (.cons (.var 4) .nil))) (.tup (.cons (.var 3) (.cons (.var 4) .nil))) (.zip (.var 0) (.var 1)) .nil [3, 4]) ⟨[some (.tup xs), some (.tup xs), none, none, none], bx⟩ = .ok (.own (xs.map fun _ => .bl true)) ⟨[some (.tup xs), some (.tup xs), none, none, none], bx⟩ :=
        lc_mapA xs (fun d => .tup [d, d]) (fun _ => .bl true) (by simp [hz]) (by have := hp.1; show xs.length ≤ 16777216; omega) (by simp [S.frzs, S.frz]) fun d hd => by
          have ih := is_ok h d (hp.2 d hd) j (by omega)
          have ho : d.isOwn = false := by
            have := hp.2 d hd
            cases d <;> first | rfl | (cases h <;> exact this.elim)
          have hf : d.frz = d := frz_of ho
          exact ⟨[some (.tup xs), some (.tup xs), none, some d, some d], [some (.tup xs), some (.tup xs), none, some d, some d], .bl true, by simp [asgT, asgT.asgTs, wipeL], by simp [gv_d _ _ _ ho, hf, ih.r], rfl, by simp [wipeL]⟩
      have hb : allB (xs.map fun _ => D.bl true) = some (xs.map fun _ => true) := allB_map (fun _ => true) xs
      simp [i46, startL, isTyOk, isTy, hlc, hb]⟩
  | 0, .tup xs, hp, n, hn => hp.elim
  | 0, .non, hp, n, hn => hp.elim
  | _ + 1, .non, hp, n, hn => hp.elim
  | 0, .str _, hp, n, hn => hp.elim
  | _ + 1, .str _, hp, n, hn => hp.elim
  | 0, .lst _, hp, n, hn => hp.elim
  | _ + 1, .lst _, hp, n, hn => hp.elim
  | 0, .dic _, hp, n, hn => hp.elim
  | _ + 1, .dic _, hp, n, hn => hp.elim
  | 0, .own _, hp, n, hn => hp.elim
  | _ + 1, .own _, hp, n, hn => hp.elim
  | 0, .odc _, hp, n, hn => hp.elim
  | _ + 1, .odc _, hp, n, hn => hp.elim
  | 0, .scr _, hp, n, hn => hp.elim
  | _ + 1, .scr _, hp, n, hn => hp.elim
  | 0, .box _, hp, n, hn => hp.elim
  | _ + 1, .box _, hp, n, hn => hp.elim
  | 0, .fn _, hp, n, hn => hp.elim
  | _ + 1, .fn _, hp, n, hn => hp.elim
variable (hL : 2 ^ 9000 ≤ L)
include hL
theorem over_ok {n : Nat} (hn : 4 ≤ n) {s t : List Rat × Rat} (hs : Szs 1000 s.1) (ht : Szs 1000 t.1) (ws : Sz 1000 s.2) (wt : Sz 1000 t.2) (hl : s.1.length ≤ 3) : Pu L n 48 [pr s, pr t] (pr (layR s t)) :=
  Pu.mk (f := ⟨2, 5, i48⟩) (by omega) rfl rfl fun j e bx => by
    have hlc : evE (cc L j) (.lc (.call 32 (.cons (.var 3) (.cons (.call 34 (.cons (.ixv 0 (.cst (.int 1))) (.cons (.var 4) .nil))) .nil))) (.tup (.cons (.var 3) (.cons (.var 4) .nil))) (.zip (.ixv 0 (.cst (.int 0))) (.ixv 1 (.cst (.int 0)))) .nil [3, 4]) ⟨[some (pr s), some (pr t), none, none, none], bx⟩ = .ok (.own ((s.1.zip t.1).map fun p => sh (p.1 + s.2 * p.2))) ⟨[some (pr s), some (pr t), none, none, none], bx⟩ :=
      lc_mapA (s.1.zip t.1) (fun p => .tup [sh p.1, sh p.2]) (fun p => sh (p.1 + s.2 * p.2)) (by simp; unfold shs; simp [zipD_map]) (by rw [List.length_zip]; show min _ _ ≤ 16777216; omega) (by simp [S.frzs, S.frz]) fun p hp => by
        have t1 := ltimes_ok hL (n := j) (by omega) ws (ht _ (List.of_mem_zip hp).2) (by omega)
        have t2 := lplus_ok hL (n := j) (by omega) (hs _ (List.of_mem_zip hp).1) (sz_mul ws (ht _ (List.of_mem_zip hp).2)) (by omega)
        exact ⟨[some (pr s), some (pr t), none, some (sh p.1), some (sh p.2)], [some (pr s), some (pr t), none, some (sh p.1), some (sh p.2)], sh (p.1 + s.2 * p.2), by simp [asgT, asgT.asgTs, wipeL], by simp [t1.r, t2.r], rfl, by simp [wipeL]⟩
    have t3 := ltimes_ok hL (n := j) (by omega) ws wt (by omega)
    refine ⟨[some (pr s), some (pr t), some (.lst ((s.1.zip t.1).map fun p => sh (p.1 + s.2 * p.2))), none, none], ?_⟩
    simp [i48, startL, hlc, t3.r]
    simp [pr, layR, shs, addR, Function.comp_def]
def lcSe : E := (.lc (.call 34 (.cons (.var 6) (.cons (.idx (.ixv 7 (.cst (.int 2))) (.var 2)) .nil))) (.tup (.cons (.var 6) (.cons (.var 7) .nil))) (.zip (.var 3) (.var 0)) .nil [6, 7])
theorem lcSe_ok {n : Nat} (hn : 3 ≤ n) {fs : List Frg} (h5 : fs.length ≤ 5) (hv : ∀ f, f ∈ fs → Fv f) {a : Nat} (ha : a < 3) (bx : List (List D)) (W : D) (hW : W = .own (wD fs) ∨ W = .lst (wD fs)) (x1 x4 x5 : Option D) :
    evE (cc L n) lcSe ⟨[some (frs fs), x1, some (.int (a : Int)), some W, x4, x5, none, none], bx⟩ = .ok (.own ((parts fs a).map sh)) ⟨[some (frs fs), x1, some (.int (a : Int)), some (.lst (wD fs)), x4, x5, none, none], bx⟩ := by
  have hw := (shR_raw _ fs rfl).2
  have h1 : (parts fs a).map sh = ((weiR fs).1.zip fs).map fun p => sh (p.1 * p.2.at a) := by unfold parts; rw [List.map_map]; rfl
  rw [h1]
  refine lc_mapA ((weiR fs).1.zip fs) (fun p => .tup [sh p.1, fr p.2]) (fun p => sh (p.1 * p.2.at a)) ?_ (by rw [List.length_zip]; show min _ _ ≤ 16777216; omega) (by simp [S.frzs, S.frz]) fun p hp => ?_
  · rcases hW with rfl | rfl <;> simp [zip_w fs hw]
  · obtain ⟨s1, s2, s3⟩ := weiR_sz fs.length fs rfl h5 hv
    have t := ltimes_ok hL (n := n) (by omega) (s1 _ (List.of_mem_zip hp).1) ((hv _ (List.of_mem_zip hp).2).sat a) (by omega)
    refine ⟨[some (frs fs), x1, some (.int (a : Int)), some (.lst (wD fs)), x4, x5, some (sh p.1), some (fr p.2)], [some (frs fs), x1, some (.int (a : Int)), some (.lst (wD fs)), x4, x5, some (sh p.1), some (fr p.2)], sh (p.1 * p.2.at a), by simp [asgT, asgT.asgTs, wipeL], ?_, rfl, by simp [wipeL]⟩
    simp [ix_at _ ha, t.r]
theorem lseen_ok {n : Nat} (hn : 5 ≤ n) {fs : List Frg} (h5 : fs.length ≤ 5) (hv : ∀ f, f ∈ fs → Fv f) {g : List Rat} (hg : Gv g) : Pu L n 42 [frs fs, shs g] (shs (addR (rawR fs).2 (rawR fs).1 g)) :=
  Pu.mk (f := ⟨2, 8, i42⟩) (by omega) rfl rfl fun j e bx => by
    have hw := lweights_ok hL (n := j) (by omega) h5 hv bx
    obtain ⟨s1, s2, s3⟩ := weiR_sz fs.length fs rfl h5 hv
    obtain ⟨g0, g1, g2, rfl⟩ : ∃ g0 g1 g2, g = [g0, g1, g2] := by
      have := hg.l3
      match g, this with
      | [a, b, c], _ => exact ⟨a, b, c, rfl⟩
    have hr3 : rangeD 0 3 = [.int 0, .int 1, .int 2] := rfl
    have hres : addR (rawR fs).2 (rawR fs).1 [g0, g1, g2] = [sumR (parts fs 0 ++ [(weiR fs).2 * g0]), sumR (parts fs 1 ++ [(weiR fs).2 * g1]), sumR (parts fs 2 ++ [(weiR fs).2 * g2])] := by
      rw [← (shR_raw _ fs rfl).1]
      simp [shR, addR, sumR_snoc]
    have hlast : ixD (.lst (wD fs)) (.int (-1)) = some (sh (weiR fs).2) := by
      show atI (wD fs) (-1) = _
      unfold wD
      rw [List.map_append]
      exact atI_last _ _
    obtain ⟨rs, hrs⟩ : ∃ rs, rs = [sumR (parts fs 0 ++ [(weiR fs).2 * g0]), sumR (parts fs 1 ++ [(weiR fs).2 * g1]), sumR (parts fs 2 ++ [(weiR fs).2 * g2])] := ⟨_, rfl⟩
    let Pr : Nat → S → Prop := fun i s => ∃ x2 x5, s = ⟨[some (frs fs), some (shs [g0, g1, g2]), x2, some (if i = 0 then .own (wD fs) else .lst (wD fs)), some (.own ((rs.take i).map sh)), x5, none, none], bx⟩
    obtain ⟨s', e1, x2, x5, rfl⟩ := for_st (f := forT (cc L j) L (.var 2) (.seq (.asv 5 lcSe) (.seq (.ex (.mut .append 4 (.cons (.call 36 (.cons (.bin .add (.var 5) (.lst (.cons (.call 34 (.cons (.ixv 3 (.neg (.cst (.int 1)))) (.cons (.ixv 1 (.var 2)) .nil))) .nil))) .nil)) .nil))) .nil)))
      (ds := rangeD 0 3) (s := ⟨[some (frs fs), some (shs [g0, g1, g2]), none, some (.own (wD fs)), some (.own []), none, none, none], bx⟩) Pr ⟨none, none, by simp⟩ fun i d s hd hp => by
        obtain ⟨x2, x5, rfl⟩ := hp
        have hi : i < 3 := by
          have := (List.getElem?_eq_some_iff.mp hd).1
          rw [hr3] at this; simpa using this
        have hd' : d = .int (i : Int) := by
          rw [hr3] at hd
          match i, hi, hd with
          | 0, _, hd => simpa using hd.symm
          | 1, _, hd => simpa using hd.symm
          | 2, _, hd => simpa using hd.symm
        subst hd'
        obtain ⟨q, hq⟩ : ∃ q, [g0, g1, g2][i]? = some q := ⟨[g0, g1, g2][i]'(by simpa using hi), by simp [hi]⟩
        have sq : Sz 20 q := hg.sz q (List.mem_of_getElem? hq)
        have h1 := lcSe_ok hL (n := j) (by omega) h5 hv hi bx (if i = 0 then .own (wD fs) else .lst (wD fs)) (by split <;> simp) (some (shs [g0, g1, g2])) (some (.own ((rs.take i).map sh))) x5
        have t := ltimes_ok hL (n := j) (by omega) s2 sq (by omega)
        have pl := parts_len h5 hv i
        have sp : Szs 100 (parts fs i ++ [(weiR fs).2 * q]) := fun z hz => by
          rcases List.mem_append.mp hz with hz | hz
          · exact (parts_sz h5 hv i z hz).mono (by omega)
          · simp at hz; subst hz; exact (sz_mul s2 sq).mono (by omega)
        have h2 := lsum_ok hL (n := j) (by omega) sp (by simp [pl]; have := Nat.mul_le_mul_right 101 h5; omega)
        rw [List.map_append] at h2
        have hrq : rs[i]? = some (sumR (parts fs i ++ [(weiR fs).2 * q])) := by
          rw [hrs]
          match i, hi, hq with
          | 0, _, hq => cases hq; rfl
          | 1, _, hq => cases hq; rfl
          | 2, _, hq => cases hq; rfl
        obtain ⟨r1, r2⟩ := List.getElem?_eq_some_iff.mp hrq
        have hix := ix_shs hq
        have hlen3 : (parts fs i).length + 1 ≤ 16777216 := by omega
        have hlr : i < 16777216 := by omega
        have hlm : min i rs.length < 16777216 := by omega
        refine ⟨⟨[some (frs fs), some (shs [g0, g1, g2]), some (.int (i : Int)), some (.lst (wD fs)), some (.own ((rs.take (i + 1)).map sh)), some (.lst ((parts fs i).map sh)), none, none], bx⟩, .inl ?_, some (.int (i : Int)), some (.lst ((parts fs i).map sh)), by simp⟩
        rw [List.take_succ_eq_append_getElem r1, r2, List.map_append]
        have hAl : ((rs.take i).map sh).length < 16777216 := by rw [List.length_map, List.length_take]; omega
        generalize (rs.take i).map sh = A at h1 hAl ⊢
        have e9 : ctD bx (shs [g0, g1, g2]) = some (shs [g0, g1, g2]) := rfl
        simp only [List.map_cons, List.map_nil] at h2
        simp [forT, asgT, h1, hlast, e9, hix, t.r, hlen3, h2.r, ownL, mutD, hAl]
    have ht : rs.take (rangeD 0 3).length = rs := by rw [hrs]; rfl
    rw [ht, hr3] at e1
    have hi : i42 = (.seq (.par 3 4 (.call 41 (.cons (.var 0) .nil)) (.lst .nil)) (.seq (.for (.var 2) (.rng1 (.cst (.int 3))) (.seq (.asv 5 lcSe) (.seq (.ex (.mut .append 4 (.cons (.call 36 (.cons (.bin .add (.var 5) (.lst (.cons (.call 34 (.cons (.ixv 3 (.neg (.cst (.int 1)))) (.cons (.ixv 1 (.var 2)) .nil))) .nil))) .nil)) .nil))) .nil))) (.seq (.ret (.blt .tuple (.cons (.var 4) .nil))) .nil))) := rfl
    have hc : ∀ l, callR (cc L j) 41 [frs fs] ⟨l, bx⟩ = .ok (.own (wD fs)) ⟨l, bx⟩ := fun l => callR_ok hw
    have hrg : rngOk 0 3 = true := rfl
    rw [hres, ← hrs]
    refine ⟨[some (frs fs), some (shs [g0, g1, g2]), x2, some (if (3 : Nat) = 0 then .own (wD fs) else .lst (wD fs)), some (.lst (rs.map sh)), x5, none, none], ?_⟩
    simp at e1
    simp [hi, startL, hc, hrg, hr3, e1]
    rfl
end
end Q.K46
end

section
set_option maxRecDepth 100000
set_option maxHeartbeats 4000000
set_option exponentiation.threshold 70
/-! M46i: the law's own look at sheets. -/
namespace Q.K46
open PySem L2 Q

theorem forL_all {f : D → S → Res Flow} {p : D → Bool} {r : D} (Inv : S → Prop) : ∀ (ds : List D) (h1 : ∀ d, d ∈ ds → ∀ s, Inv s → p d = true → ∃ s', f d s = .ok .nx s' ∧ Inv s') (h2 : ∀ d, d ∈ ds → ∀ s, Inv s → p d = false → ∃ s', f d s = .ok (.rt r) s' ∧ Inv s') (s : S), Inv s →
    ∃ s', Inv s' ∧ forL f ds s = .ok (if ds.all p then .nx else .rt r) s'
  | [], h1, h2, s, hs => ⟨s, hs, rfl⟩
  | d :: ds, h1, h2, s, hs => by
    cases hp : p d with
    | true =>
      obtain ⟨s1, e1, i1⟩ := h1 d (by simp) s hs hp
      obtain ⟨s2, i2, e2⟩ := forL_all Inv ds (fun d hd => h1 d (by simp [hd])) (fun d hd => h2 d (by simp [hd])) s1 i1
      refine ⟨s2, i2, ?_⟩
      unfold forL
      rw [e1, Res.bnd_ok]
      simp only [List.all_cons, hp, Bool.true_and]
      exact e2
    | false =>
      obtain ⟨s1, e1, i1⟩ := h2 d (by simp) s hs hp
      refine ⟨s1, i1, ?_⟩
      unfold forL
      rw [e1, Res.bnd_ok]
      simp [hp]
theorem in1_nn {a b : D} : isIn1D (.tup [a, b]) = (nnD (.tup [a, b]) && (match a, b with | .int x, .int y => decide (x ≤ y) | _, _ => false)) := by
  cases a <;> cases b <;> first | rfl | simp [isIn1D, nnD, Bool.and_assoc]
theorem nnD_inv {d : D} (h : nnD d = true) : ∃ (a b : Nat), d = .tup [.int a, .int b] ∧ 0 < b ∧ Nat.gcd a b = 1 := by
  unfold nnD at h
  split at h
  · rename_i a b
    simp [isShareD] at h
    refine ⟨a.toNat, b.toNat, ?_, by omega, ?_⟩
    · rw [Int.toNat_of_nonneg h.2, Int.toNat_of_nonneg (by omega)]
    · have := h.1.2
      rw [Int.gcd] at this
      rw [show a.toNat = a.natAbs by omega, show b.toNat = b.natAbs by omega]; exact this
  · cases h
theorem low_eq {a b : Nat} (h0 : b ≠ 0) : eqD (sh (Rat.normalize a b h0)) (.tup [.int a, .int b]) = decide (Nat.gcd a b = 1) := by
  rw [← sh_norm]
  show ((a : Int) / ((Int.gcd a b : Nat) : Int) == (a : Int) && ((b : Int) / ((Int.gcd a b : Nat) : Int) == (b : Int) && true)) = _
  have hg : Int.gcd a b = Nat.gcd a b := by simp [Int.gcd]
  rw [hg]
  have g0 : 0 < Nat.gcd a b := Nat.gcd_pos_of_pos_right _ (by omega)
  by_cases h : Nat.gcd a b = 1
  · simp [h]
  · simp [h]
    intro _ hb
    have h2 : b / Nat.gcd a b = b := by
      have : ((b / Nat.gcd a b : Nat) : Int) = (b : Int) := by rw [Int.natCast_ediv]; exact hb
      omega
    have h3 : b / Nat.gcd a b < b := Nat.div_lt_self (by omega) (by omega)
    omega
section
variable {L : Nat}
theorem isNum_ok {n : Nat} (hn : 1 ≤ n) {d : D} (h : okD d = true) : Pu L n 30 [d] (.bl (isIntD d)) :=
  Pu.mk (f := ⟨1, 1, i30⟩) (by omega) rfl rfl fun j e bx => by
    refine ⟨[some d], ?_⟩
    cases d <;> first | (cases h; done) | simp [i30, startL, isTyOk, isTy, isIntD]
def lkB : St := (.seq (.ite (.or (.not (.tru (.isi (.var 1) [.tuple]))) (.or (.tru (.cmp .ne (.lenv 1) (.cst (.int 2)))) (.not (.tru (.blt .all (.cons (.lc (.call 30 (.cons (.var 2) .nil)) (.var 2) (.its (.var 1)) .nil [2]) .nil)))))) (.seq (.ret (.cst (.bl false))) .nil) .nil) (.seq (.ite (.or (.tru (.cmp .lt (.ixv 1 (.cst (.int 0))) (.cst (.int 0)))) (.or (.tru (.cmp .le (.ixv 1 (.cst (.int 1))) (.cst (.int 0)))) (.tru (.cmp .ne (.call 31 (.cons (.ixv 1 (.cst (.int 0))) (.cons (.ixv 1 (.cst (.int 1))) .nil))) (.var 1))))) (.seq (.ret (.cst (.bl false))) .nil) .nil) .nil))
variable (hL : 2 ^ 9000 ≤ L)
include hL
theorem lk_turn {n : Nat} (hn : 1 ≤ n) (t d : D) (h : Gd d) (x1 : Option D) (bx : List (List D)) : forT (cc L n) L (.var 1) lkB d ⟨[some t, x1, none], bx⟩ = .ok (if nnD d then .nx else .rt (.bl false)) ⟨[some t, some d, none], bx⟩ := by
  have hf : d.frz = d := frz_of (gd_own h)
  cases hz : isSzD 2 2 d with
  | false =>
    have e2 : nnD d = false := by
      cases hd : nnD d with
      | false => rfl
      | true =>
        obtain ⟨a, b, rfl, _⟩ := nnD_inv hd
        cases hz
    rw [e2]
    cases d <;> first | (unfold Gd at h; exact h.elim) | skip
    all_goals simp [forT, asgT, lkB, isTyOk, isTy]
    rename_i xs
    have : ¬ ((xs.length : Int) = 2) := fun e => by simp [isSzD, e] at hz
    simp [this]
  | true =>
    obtain ⟨x, y, rfl⟩ := sized2 hz
    have hg := gd_tup h
    have hlc : evE (cc L n) (.lc (.call 30 (.cons (.var 2) .nil)) (.var 2) (.its (.var 1)) .nil [2]) ⟨[some t, some (.tup [x, y]), none], bx⟩ = .ok (.own ([x, y].map fun d => .bl (isIntD d))) ⟨[some t, some (.tup [x, y]), none], bx⟩ :=
      lc_map (ds := [x, y]) (by simp) (by show 2 ≤ 16777216; omega) (by simp [S.frzs, S.frz]) fun d hd => by
        have gd := hg.mem hd
        have hc := (isNum_ok (L := L) (n := n) hn gd.ok)
        have fd : d.frz = d := frz_of (gd_own gd)
        exact ⟨[some t, some (.tup [x, y]), some d], [some t, some (.tup [x, y]), some d], .bl (isIntD d), by simp [asgT, wipeL], by simp [gv_d _ _ _ (gd_own gd), fd, hc.r], rfl, by simp [wipeL]⟩
    simp only [List.map_cons, List.map_nil] at hlc
    cases hx : isIntD x with
    | false =>
      have e2 : nnD (.tup [x, y]) = false := by cases x <;> first | (cases hx; done) | rfl
      simp [forT, asgT, lkB, isTyOk, isTy, hlc, hx, e2]
    | true =>
      cases hy : isIntD y with
      | false =>
        have e2 : nnD (.tup [x, y]) = false := by cases x <;> cases y <;> first | (cases hy; done) | rfl
        simp [forT, asgT, lkB, isTyOk, isTy, hlc, hx, hy, e2]
      | true =>
        cases x <;> first | (cases hx; done) | skip
        cases y <;> first | (cases hy; done) | skip
        rename_i a b
        unfold Gds Gds Gd at hg
        by_cases ha : a < 0
        · have e2 : nnD (.tup [.int a, .int b]) = false := by simp [nnD]; intro _; omega
          simp [forT, asgT, lkB, isTyOk, isTy, hlc, hx, hy, e2, ha]
        · by_cases hb : b ≤ 0
          · have e2 : nnD (.tup [.int a, .int b]) = false := by simp [nnD, isShareD]; omega
            simp [forT, asgT, lkB, isTyOk, isTy, hlc, hx, hy, e2, ha, hb]
          · obtain ⟨a', rfl⟩ : ∃ a' : Nat, a = a' := ⟨a.toNat, by omega⟩
            obtain ⟨b', rfl⟩ : ∃ b' : Nat, b = b' := ⟨b.toNat, by omega⟩
            have b0 : b' ≠ 0 := by omega
            have hlow := low_ok hL (n := n) hn a' b' b0 hg.1 (by have := hg.2.1; simpa using this)
            have e3 : nnD (.tup [.int a', .int b']) = decide (Nat.gcd a' b' = 1) := by
              have hg2 : Int.gcd a' b' = Nat.gcd a' b' := by simp [Int.gcd]
              simp [nnD, isShareD, hg2]; omega
            have e4 := low_eq (a := a') b0
            have hb' : ¬ b' = 0 := b0
            by_cases c : Nat.gcd a' b' = 1
            · simp [c] at e3 e4
              simp [forT, asgT, lkB, isTyOk, isTy, hlc, hx, hy, e3, hlow.r, e4, hb', ha]
            · simp [c] at e3 e4
              simp [forT, asgT, lkB, isTyOk, isTy, hlc, hx, hy, e3, hlow.r, e4, hb', ha]
theorem lookSheet_ok {n : Nat} (hn : 2 ≤ n) {d : D} (h : Gd d) : Pu L n 49 [d] (.bl (isSheetD d)) := fun bx => by
  obtain ⟨j, rfl⟩ : ∃ j, n = j + 1 := ⟨n - 1, by omega⟩
  rw [callN_eq (f := ⟨1, 3, i49⟩) rfl]
  have hf : d.frz = d := frz_of (gd_own h)
  have hi : i49 = (.seq (.ite (.or (.not (.tru (.isi (.var 0) [.tuple]))) (.or (.tru (.cmp .ne (.lenv 0) (.cst (.int 2)))) (.or (.not (.tru (.isi (.ixv 0 (.cst (.int 0))) [.tuple]))) (.tru (.cmp .ne (.blt .len (.cons (.ixv 0 (.cst (.int 0))) .nil)) (.cst (.int 3))))))) (.seq (.ret (.cst (.bl false))) .nil) .nil) (.seq (.for (.var 1) (.its (.bin .add (.ixv 0 (.cst (.int 0))) (.tup (.cons (.ixv 0 (.cst (.int 1))) .nil)))) lkB) (.seq (.ret (.cmp .le (.idx (.ixv 0 (.cst (.int 1))) (.cst (.int 0))) (.idx (.ixv 0 (.cst (.int 1))) (.cst (.int 1))))) .nil))) := rfl
  cases hz : isSzD 2 2 d with
  | false =>
    have e2 : isSheetD d = false := by
      cases hd : isSheetD d with
      | false => rfl
      | true =>
        unfold isSheetD at hd
        split at hd
        · cases hz
        · cases hd
    rw [e2]
    refine runF_rt (s := ⟨[some d, none, none], bx⟩) rfl ?_
    cases d <;> first | (unfold Gd at h; exact h.elim) | skip
    all_goals simp [hi, startL, isTyOk, isTy]
    rename_i xs
    have : ¬ ((xs.length : Int) = 2) := fun e => by simp [isSzD, e] at hz
    simp [this]
  | true =>
    obtain ⟨x, y, rfl⟩ := sized2 hz
    have hg := gd_tup h
    have gx : Gd x := hg.mem (by simp)
    have gy : Gd y := hg.mem (by simp)
    have fx : x.frz = x := frz_of (gd_own gx)
    have fy : y.frz = y := frz_of (gd_own gy)
    cases hx1 : isSzD 3 3 x with
    | false =>
      have e2 : isSheetD (.tup [x, y]) = false := by simp [isSheetD, hx1]
      rw [e2]
      refine runF_rt (s := ⟨[some (.tup [x, y]), none, none], bx⟩) rfl ?_
      cases x <;> first | (unfold Gd at gx; exact gx.elim) | skip
      all_goals simp [hi, startL, isTyOk, isTy]
      rename_i xs
      have : ¬ ((xs.length : Int) = 3) := fun e => by simp [isSzD, e] at hx1
      simp [this]
    | true =>
      obtain ⟨xs, rfl⟩ : ∃ xs, x = .tup xs := by cases x <;> first | (cases hx1; done) | exact ⟨_, rfl⟩
      have hl3 : xs.length = 3 := by simp [isSzD] at hx1; omega
      have hgx := gd_tup gx
      obtain ⟨s', ⟨x1, rfl⟩, e1⟩ := forL_all (f := forT (cc L j) L (.var 1) lkB) (p := nnD) (r := .bl false) (fun s => ∃ x1, s = ⟨[some (.tup [.tup xs, y]), x1, none], bx⟩) (xs ++ [y])
        (fun d hd s ⟨x1, e⟩ hp => by
          subst e
          have gd : Gd d := by
            rcases List.mem_append.mp hd with hd | hd
            · exact hgx.mem hd
            · simp at hd; subst hd; exact gy
          have e1 := lk_turn hL (n := j) (by omega) (.tup [.tup xs, y]) d gd x1 bx
          rw [hp] at e1
          exact ⟨_, e1, _, rfl⟩)
        (fun d hd s ⟨x1, e⟩ hp => by
          subst e
          have gd : Gd d := by
            rcases List.mem_append.mp hd with hd | hd
            · exact hgx.mem hd
            · simp at hd; subst hd; exact gy
          have e1 := lk_turn hL (n := j) (by omega) (.tup [.tup xs, y]) d gd x1 bx
          rw [hp] at e1
          exact ⟨_, e1, _, rfl⟩) ⟨[some (.tup [.tup xs, y]), none, none], bx⟩ ⟨none, rfl⟩
      have hl4 : (xs.length : Int) = 3 := by omega
      cases hall : (xs ++ [y]).all nnD with
      | false =>
        rw [hall] at e1
        have e2 : isSheetD (.tup [.tup xs, y]) = false := by
          cases hsd : isSheetD (.tup [.tup xs, y]) with
          | false => rfl
          | true =>
            simp [isSheetD, allNn] at hsd
            have hy : nnD y = true := by
              have := hsd.1
              unfold isIn1D at this
              split at this
              · simp at this
                simp [nnD]
                exact ⟨this.1, this.2.1⟩
              · cases this
            rw [List.all_append] at hall
            simp [hy] at hall
            obtain ⟨z, hz1, hz2⟩ := hall
            rw [hsd.2.2 z hz1] at hz2; cases hz2
        rw [e2]
        refine runF_rt (s := ⟨[some (.tup [.tup xs, y]), x1, none], bx⟩) rfl ?_
        simp at e1
        simp [hi, startL, isTyOk, isTy, hl3, fy, e1]
      | true =>
        rw [hall] at e1
        have hy : nnD y = true := List.all_eq_true.mp hall y (by simp)
        have hxs : xs.all nnD = true := by rw [List.all_eq_true] at hall ⊢; exact fun z hz => hall z (by simp [hz])
        obtain ⟨a, b, rfl, hb, hgc⟩ := nnD_inv hy
        have e2 : isSheetD (.tup [.tup xs, .tup [.int a, .int b]]) = decide (a ≤ b) := by
          have : isIn1D (.tup [.int a, .int b]) = decide (a ≤ b) := by
            rw [in1_nn, hy]; simp
          simp [isSheetD, this, hx1, allNn, hxs]
        rw [e2]
        refine runF_rt (s := ⟨[some (.tup [.tup xs, .tup [.int a, .int b]]), x1, none], bx⟩) rfl ?_
        simp at e1
        simp [hi, startL, isTyOk, isTy, hl3, e1]
end
end Q.K46
end

section
set_option maxRecDepth 100000
set_option maxHeartbeats 4000000
set_option exponentiation.threshold 70
/-! M46j: layers put together. -/
namespace Q.K46
open PySem L2 Q

def sameK (f g : Frg) : Bool := decide (f.dep = g.dep) && decide (f.num = g.num)
theorem ahd_trans {f g h : Frg} (a : isAhd f g = true) (b : isAhd g h = true) : isAhd f h = true := by
  unfold isAhd at *
  simp at *
  rcases a with a | ⟨a, a'⟩ <;> rcases b with b | ⟨b, b'⟩
  · left; grind
  · left; grind
  · left; grind
  · right; exact ⟨a.trans b, by omega⟩
theorem ahd_total {f g : Frg} (h : isAhd f g = false) (k : sameK f g = false) : isAhd g f = true := by
  unfold isAhd sameK at *
  simp at *
  by_cases e : f.dep = g.dep
  · right
    have h2 := h.2 e
    have k2 := k e
    exact ⟨e.symm, by omega⟩
  · left
    have h1 := h.1
    grind
def Srt (fs : List Frg) : Prop := fs.Pairwise fun f g => isAhd f g = true
/-- f's place among the others -/
def ins (f : Frg) : List Frg → List Frg
  | [] => [f]
  | x :: xs => if isAhd x f then x :: ins f xs else f :: x :: xs
theorem ins_eq (f : Frg) : ∀ {fs : List Frg}, Srt fs → fs.filter (fun x => isAhd x f) ++ [f] ++ fs.drop (fs.filter (fun x => isAhd x f)).length = ins f fs
  | [], _ => rfl
  | x :: xs, h => by
    have h' := List.pairwise_cons.mp h
    cases hx : isAhd x f with
    | true =>
      have ih := ins_eq f h'.2
      simp [ins, hx] at ih ⊢
      exact ih
    | false =>
      have hn : xs.filter (fun x => isAhd x f) = [] := by
        rw [List.filter_eq_nil_iff]
        intro y hy hyf
        have := ahd_trans (h'.1 y hy) hyf
        rw [hx] at this; cases this
      simp [ins, hx, hn]
theorem ins_mem {f y : Frg} : ∀ {fs : List Frg}, y ∈ ins f fs → y = f ∨ y ∈ fs
  | [], h => by simp [ins] at h; exact .inl h
  | x :: xs, h => by
    unfold ins at h
    split at h
    · rcases List.mem_cons.mp h with rfl | h
      · right; simp
      · rcases ins_mem h with h | h
        · exact .inl h
        · right; simp [h]
    · rcases List.mem_cons.mp h with rfl | h
      · exact .inl rfl
      · exact .inr h
theorem ins_srt {f : Frg} : ∀ {fs : List Frg}, Srt fs → (∀ x, x ∈ fs → sameK x f = false) → Srt (ins f fs)
  | [], _, _ => List.pairwise_singleton _ _
  | x :: xs, h, hk => by
    have h' := List.pairwise_cons.mp h
    unfold ins
    split
    · rename_i hx
      refine List.pairwise_cons.mpr ⟨fun y hy => ?_, ins_srt h'.2 fun z hz => hk z (by simp [hz])⟩
      rcases ins_mem hy with rfl | hy
      · exact hx
      · exact h'.1 y hy
    · rename_i hx
      have hx' : isAhd x f = false := by simpa using hx
      have hf := ahd_total hx' (hk x (by simp))
      refine List.pairwise_cons.mpr ⟨fun y hy => ?_, h⟩
      rcases List.mem_cons.mp hy with rfl | hy
      · exact hf
      · exact ahd_trans hf (h'.1 y hy)
theorem ins_len (f : Frg) : ∀ fs : List Frg, (ins f fs).length = fs.length + 1
  | [] => rfl
  | x :: xs => by
    unfold ins
    split
    · simp [ins_len f xs]
    · simp
/-- nothing behind a full one -/
def cutF : List Frg → List Frg
  | [] => []
  | x :: xs => if x.op = 1 then [x] else x :: cutF xs
theorem cutF_sub : ∀ fs : List Frg, (cutF fs).Sublist fs
  | [] => .slnil
  | x :: xs => by
    unfold cutF
    split
    · exact (List.nil_sublist xs).cons_cons x
    · exact (cutF_sub xs).cons_cons x
theorem cutF_nf : ∀ (fs : List Frg) (f : Frg), f ∈ (cutF fs).dropLast → f.op ≠ 1
  | [], f, h => by simp [cutF] at h
  | x :: xs, f, h => by
    unfold cutF at h
    split at h
    · simp at h
    · rename_i hx
      cases hc : cutF xs with
      | nil => rw [hc] at h; simp at h
      | cons y ys =>
        rw [hc] at h
        simp at h
        rcases h with rfl | h
        · exact hx
        · exact cutF_nf xs f (by rw [hc]; exact h)
def putR (fs : List Frg) (f : Frg) : List Frg := cutF (ins f (fs.filter fun x => !sameK x f))
theorem srt_zip : ∀ {fs : List Frg}, Srt fs → ∀ p, p ∈ fs.zip fs.tail → isAhd p.1 p.2 = true
  | [], _, p, h => by simp at h
  | [x], _, p, h => by simp at h
  | x :: y :: r, hs, p, h => by
    have h' := List.pairwise_cons.mp hs
    simp at h
    rcases h with rfl | h
    · exact h'.1 y (by simp)
    · exact srt_zip h'.2 p (by simpa using h)
structure Ly (n : Nat) (fs : List Frg) : Prop where
  l : fs.length ≤ n
  v : ∀ f, f ∈ fs → Fv f
  nf : ∀ f, f ∈ fs.dropLast → f.op ≠ 1
  s : Srt fs
theorem Ly.lay {n : Nat} {fs : List Frg} (h : Ly n fs) (hn : n ≤ 5) : Lay fs := ⟨Nat.le_trans h.l hn, h.v, h.nf, srt_zip h.s⟩
theorem ly_put {n : Nat} {fs : List Frg} {f : Frg} (h : Ly n fs) (hf : Fv f) : Ly (n + 1) (putR fs f) := by
  have hsub : (fs.filter fun x => !sameK x f).Sublist fs := List.filter_sublist
  have hs : Srt (fs.filter fun x => !sameK x f) := List.Pairwise.sublist hsub h.s
  have hk : ∀ x, x ∈ (fs.filter fun x => !sameK x f) → sameK x f = false := fun x hx => by simpa using (List.mem_filter.mp hx).2
  refine ⟨?_, fun g hg => ?_, cutF_nf _, List.Pairwise.sublist (cutF_sub _) (ins_srt hs hk)⟩
  · have := (cutF_sub (ins f (fs.filter fun x => !sameK x f))).length_le
    rw [ins_len] at this
    have := hsub.length_le
    have := h.l
    unfold putR; omega
  · rcases ins_mem ((cutF_sub _).subset hg) with rfl | hg
    · exact hf
    · exact h.v g (hsub.subset hg)
theorem ly_take {n : Nat} {fs : List Frg} (h : Ly n fs) (k : Nat) : Ly n (fs.take k) := by
  refine ⟨by rw [List.length_take]; have := h.l; omega, fun f hf => h.v f (List.mem_of_mem_take hf), fun f hf => ?_, List.Pairwise.sublist (List.take_sublist k fs) h.s⟩
  refine h.nf f ?_
  rw [List.dropLast_eq_take] at hf ⊢
  rw [List.take_take, List.length_take] at hf
  exact (List.take_subset_take_left fs (by omega)) hf
theorem ly_drop {n : Nat} {fs : List Frg} (h : Ly n fs) (k : Nat) : Ly n (fs.drop k) := by
  refine ⟨by rw [List.length_drop]; have := h.l; omega, fun f hf => h.v f (List.mem_of_mem_drop hf), fun f hf => ?_, List.Pairwise.sublist (List.drop_sublist k fs) h.s⟩
  refine h.nf f ?_
  rw [List.dropLast_eq_take] at hf ⊢
  rw [List.length_drop, List.take_drop] at hf
  refine List.take_subset_take_left fs (i := k + (fs.length - k - 1)) (j := fs.length - 1) ?_ (List.mem_of_mem_drop hf)
  by_cases c : k < fs.length
  · omega
  · exfalso
    rw [List.drop_eq_nil_of_le (by rw [List.length_take]; omega)] at hf
    cases hf
section
variable {L : Nat}
theorem lahead_ok {n : Nat} (hn : 2 ≤ n) {f g : Frg} (hf : Fv f) (hg : Fv g) : Pu L n 38 [fr f, fr g] (.bl (isAhd f g)) :=
  Pu.mk (f := ⟨2, 2, i38⟩) (by omega) rfl rfl fun j e bx => by
    have h1 := lless_ok (L := L) (n := j) (by omega) hf.sd hg.sd (by omega)
    refine ⟨[some (fr f), some (fr g)], ?_⟩
    by_cases c : f.dep = g.dep
    · have c1 : ¬ g.dep < g.dep := by grind
      simp [i38, startL, eqD_sh, c, isAhd, c1]
    · simp [i38, startL, eqD_sh, c, h1.r, isAhd]
theorem key_ne (f g : Frg) : opC .ne (.tup [sh f.dep, .int f.num]) (.tup [sh g.dep, .int g.num]) = some (!sameK f g) := by
  rw [opC_ne]
  have h : eqD (.tup [sh f.dep, .int f.num]) (.tup [sh g.dep, .int g.num]) = sameK f g := by
    show (eqD (sh f.dep) (sh g.dep) && ((f.num == g.num) && true)) = _
    rw [eqD_sh]
    unfold sameK
    rw [Bool.and_true]; rfl
  rw [h]; rfl
theorem sl_fr2 (f : Frg) : slD (fr f) none (some 2) = some (.tup [sh f.dep, .int f.num]) := rfl
theorem sl_from {xs : List D} (k : Nat) : slD (.lst xs) (some (k : Int)) none = some (.own (xs.drop k)) := by
  show some (D.own (cutD xs (some (k : Int)) none)) = _
  unfold cutD
  rw [show HT.sIx xs.length 0 (some (k : Int)) = min k xs.length from HT.sIx_nat _ _ _, show HT.sIx xs.length xs.length none = xs.length from rfl]
  congr 2
  by_cases c : k ≤ xs.length
  · rw [Nat.min_eq_left c, List.take_of_length_le (by rw [List.length_drop]; omega)]
  · rw [Nat.min_eq_right (by omega), List.drop_length, List.drop_eq_nil_of_le (by omega)]; simp
def ptB : St := (.seq (.ite (.or (.tru (.cmp .eq (.lenv 6) (.cst (.int 0)))) (.tru (.cmp .ne (.idx (.idx (.ixv 6 (.neg (.cst (.int 1)))) (.cst (.int 2))) (.cst (.int 3))) (.tup (.cons (.cst (.int 1)) (.cons (.cst (.int 1)) .nil)))))) (.seq (.ex (.mut .append 6 (.cons (.var 4) .nil))) .nil) .nil) .nil)
/-- what has been taken: all, or up to a full one -/
theorem pt_loop (c : Env) (l0 l1 l2 l3 l5 : Option D) (bx : List (List D)) : ∀ (rs ac : List Frg) (x4 : Option D), rs.length + ac.length ≤ 1000 → (∀ f, f ∈ ac → f.op ≠ 1) →
    ∃ x4', forL (forT c L (.var 4) ptB) (rs.map fr) ⟨[l0, l1, l2, l3, x4, l5, some (.own (ac.map fr))], bx⟩ = .ok .nx ⟨[l0, l1, l2, l3, x4', l5, some (.own ((ac ++ cutF rs).map fr))], bx⟩
  | [], ac, x4, hl, ha => ⟨x4, by simp [forL, cutF]⟩
  | f :: rs, ac, x4, hl, ha => by
    have h1 : D.tup [.int 1, .int 1] = sh 1 := rfl
    have hlen : ac.length < 16777216 := by simp at hl; omega
    have step : forT c L (.var 4) ptB (fr f) ⟨[l0, l1, l2, l3, x4, l5, some (.own (ac.map fr))], bx⟩ = .ok .nx ⟨[l0, l1, l2, l3, some (fr f), l5, some (.own ((ac ++ [f]).map fr))], bx⟩ := by
      cases hac : ac with
      | nil => simp [forT, asgT, ptB, ownL, mutD]
      | cons a r =>
        have hne : ac ≠ [] := by rw [hac]; simp
        have hla : atI (ac.map fr) (-1) = some (fr (ac.getLast hne)) := by
          conv => lhs; rw [← List.dropLast_concat_getLast hne, List.map_append]
          exact atI_last _ _
        have hop : ¬ (ac.getLast hne).op = 1 := ha _ (List.getLast_mem hne)
        rw [← hac]
        have hz : ¬ ((ac.length : Int) = 0) := by rw [hac]; simp; omega
        have hz' : ¬ ac = [] := hne
        simp [forT, asgT, ptB, ownL, mutD, hla, h1, eqD_sh, hop, hz, hz', hlen]
    by_cases hf : f.op = 1
    · -- nothing more is taken
      have rest : ∀ (rs : List Frg) (x4 : Option D), ∃ x4', forL (forT c L (.var 4) ptB) (rs.map fr) ⟨[l0, l1, l2, l3, x4, l5, some (.own ((ac ++ [f]).map fr))], bx⟩ = .ok .nx ⟨[l0, l1, l2, l3, x4', l5, some (.own ((ac ++ [f]).map fr))], bx⟩ := by
        intro rs
        induction rs with
        | nil => exact fun x4 => ⟨x4, rfl⟩
        | cons g rs ih =>
          intro x4
          obtain ⟨x4', e⟩ := ih (some (fr g))
          refine ⟨x4', ?_⟩
          have hla : atI ((ac ++ [f]).map fr) (-1) = some (fr f) := by
            rw [List.map_append]; exact atI_last _ _
          have hz : ¬ ((ac.length : Int) + 1 = 0) := by omega
          have s1 : forT c L (.var 4) ptB (fr g) ⟨[l0, l1, l2, l3, x4, l5, some (.own ((ac ++ [f]).map fr))], bx⟩ = .ok .nx ⟨[l0, l1, l2, l3, some (fr g), l5, some (.own ((ac ++ [f]).map fr))], bx⟩ := by
            generalize hA : (ac ++ [f]).map fr = A at hla ⊢
            have hlA : (A.length : Int) = ac.length + 1 := by rw [← hA]; simp
            simp [forT, asgT, ptB, hla, h1, eqD_sh, hf, hlA, hz]
          show forL _ (fr g :: rs.map fr) _ = _
          unfold forL
          rw [s1, Res.bnd_ok]
          exact e
      obtain ⟨x4', e⟩ := rest rs (some (fr f))
      refine ⟨x4', ?_⟩
      show forL _ (fr f :: rs.map fr) _ = _
      unfold forL
      rw [step, Res.bnd_ok]
      simp only [cutF, hf, if_true]
      exact e
    · obtain ⟨x4', e⟩ := pt_loop c l0 l1 l2 l3 l5 bx rs (ac ++ [f]) (some (fr f)) (by simp at hl ⊢; omega) (fun g hg => by
        rcases List.mem_append.mp hg with hg | hg
        · exact ha g hg
        · simp at hg; subst hg; exact hf)
      refine ⟨x4', ?_⟩
      show forL _ (fr f :: rs.map fr) _ = _
      unfold forL
      rw [step, Res.bnd_ok]
      simp only [cutF, hf, if_false]
      rw [List.append_assoc] at e
      exact e
theorem put_ok {n m : Nat} (hn : 3 ≤ n) {fs : List Frg} {f : Frg} (h : Ly m fs) (hm : m ≤ 100) (hf : Fv f) : Pu L n 39 [frs fs, fr f] (frs (putR fs f)) :=
  Pu.mk (f := ⟨2, 7, i39⟩) (by omega) rfl rfl fun j e bx => by
    have hl := h.l
    obtain ⟨rs, hrs⟩ : ∃ rs, fs.filter (fun x => !sameK x f) = rs := ⟨_, rfl⟩
    have hsub : rs.Sublist fs := by rw [← hrs]; exact List.filter_sublist
    have hrl := hsub.length_le
    have l1 : evE (cc L j) (.lc (.var 4) (.var 4) (.its (.var 0)) (.tru (.cmp .ne (.slv 4 .nil (.prt (.cst (.int 2)))) (.slv 1 .nil (.prt (.cst (.int 2)))))) [4]) ⟨[some (frs fs), some (fr f), none, none, none, none, none], bx⟩ = .ok (.own (rs.map fr)) ⟨[some (frs fs), some (fr f), none, none, none, none, none], bx⟩ := by
      have := lc_filterA (c := cc L j) (elt := .var 4) (tg := .var 4) (it := .its (.var 0)) (cond := .tru (.cmp .ne (.slv 4 .nil (.prt (.cst (.int 2)))) (.slv 1 .nil (.prt (.cst (.int 2)))))) (own := [4]) (l := [some (frs fs), some (fr f), none, none, none, none, none]) (l1 := [some (frs fs), some (fr f), none, none, none, none, none]) (bx := bx) fs fr (fun x => !sameK x f) fr (by simp) (by show fs.length ≤ 16777216; omega) (by simp [S.frzs, S.frz]) fun x hx =>
        ⟨[some (frs fs), some (fr f), none, none, some (fr x), none, none], [some (frs fs), some (fr f), none, none, some (fr x), none, none], [some (frs fs), some (fr f), none, none, some (fr x), none, none], fr x, by simp [asgT, wipeL], by
          simp only [et_tru, ev_cmp, ev_slv, List.getElem?_cons_zero, List.getElem?_cons_succ, Option.bind_some, id, Option.isSome_some, if_true, eo_nil, Res.bnd_ok, eo_prt, ev_cst, prtK_i, cont_mk, ctD_fr, sl_fr2, Res.opt_some, frz_tup, key_ne, Option.map_some, truD_bl], by simp [wipeL], fun _ => ⟨by simp, rfl, by simp [wipeL]⟩⟩
      rw [hrs] at this
      exact this
    obtain ⟨fs1, hfs1⟩ : ∃ fs1, rs.filter (fun x => isAhd x f) = fs1 := ⟨_, rfl⟩
    have hsub1 : fs1.Sublist rs := by rw [← hfs1]; exact List.filter_sublist
    have hfl := hsub1.length_le
    have l2 : evE (cc L j) (.lc (.var 4) (.var 4) (.its (.var 2)) (.tru (.call 38 (.cons (.var 4) (.cons (.var 1) .nil)))) [4]) ⟨[some (frs fs), some (fr f), some (.own (rs.map fr)), none, none, none, none], bx⟩ = .ok (.own (fs1.map fr)) ⟨[some (frs fs), some (fr f), some (.lst (rs.map fr)), none, none, none, none], bx⟩ := by
      have := lc_filterA (c := cc L j) (elt := .var 4) (tg := .var 4) (it := .its (.var 2)) (cond := .tru (.call 38 (.cons (.var 4) (.cons (.var 1) .nil)))) (own := [4]) (l := [some (frs fs), some (fr f), some (.own (rs.map fr)), none, none, none, none]) (l1 := [some (frs fs), some (fr f), some (.lst (rs.map fr)), none, none, none, none]) (bx := bx) rs fr (fun x => isAhd x f) fr (by simp) (by show rs.length ≤ 16777216; omega) (by simp [S.frzs, S.frz]) fun x hx =>
        have t := lahead_ok (L := L) (n := j) (by omega) (h.v x (hsub.subset hx)) hf
        ⟨[some (frs fs), some (fr f), some (.lst (rs.map fr)), none, some (fr x), none, none], [some (frs fs), some (fr f), some (.lst (rs.map fr)), none, some (fr x), none, none], [some (frs fs), some (fr f), some (.lst (rs.map fr)), none, some (fr x), none, none], fr x, by simp [asgT, wipeL], by simp [t.r], by simp [wipeL], fun _ => ⟨by simp, rfl, by simp [wipeL]⟩⟩
      rw [hfs1] at this
      exact this
    have hins : fs1.map fr ++ [fr f] ++ (rs.map fr).drop fs1.length = (ins f rs).map fr := by
      rw [← ins_eq f (fs := rs) (List.Pairwise.sublist hsub h.s), hfs1]
      simp
    have hslc := sl_from (xs := rs.map fr) fs1.length
    have hil := ins_len f rs
    obtain ⟨x4, hloop⟩ := pt_loop (L := L) (cc L j) (some (frs fs)) (some (fr f)) (some (.lst (rs.map fr))) (some (.lst (fs1.map fr))) (some (.lst ((ins f rs).map fr))) bx (ins f rs) [] none (by simp; omega) (fun _ h => by cases h)
    have hi : i39 = (.seq (.asv 2 (.lc (.var 4) (.var 4) (.its (.var 0)) (.tru (.cmp .ne (.slv 4 .nil (.prt (.cst (.int 2)))) (.slv 1 .nil (.prt (.cst (.int 2)))))) [4])) (.seq (.asv 3 (.lc (.var 4) (.var 4) (.its (.var 2)) (.tru (.call 38 (.cons (.var 4) (.cons (.var 1) .nil)))) [4])) (.seq (.par 5 6 (.bin .add (.bin .add (.var 3) (.lst (.cons (.var 1) .nil))) (.slv 2 (.prt (.lenv 3)) .nil)) (.lst .nil)) (.seq (.for (.var 4) (.its (.var 5)) ptB) (.seq (.ret (.blt .tuple (.cons (.var 6) .nil))) .nil))))) := rfl
    have e1 : fs1.length + 1 ≤ 16777216 := by omega
    have e2 : fs1.length + 1 + (rs.length - fs1.length) ≤ 16777216 := by omega
    have hp : putR fs f = cutF (ins f rs) := by unfold putR; rw [hrs]
    rw [hp]
    refine ⟨[some (frs fs), some (fr f), some (.lst (rs.map fr)), some (.lst (fs1.map fr)), x4, some (.lst ((ins f rs).map fr)), some (.lst ((cutF (ins f rs)).map fr))], ?_⟩
    simp only [List.append_assoc] at hins
    simp only [List.map_nil, List.nil_append] at hloop
    generalize hR : rs.map fr = R at *
    generalize hG : fs1.map fr = G at *
    have eR : R.length = rs.length := by rw [← hR]; simp
    have eG : G.length = fs1.length := by rw [← hG]; simp
    simp only [List.singleton_append] at hins
    simp [hi, startL, l1, l2, eG, hslc, e1, eR, e2, hins, hloop]
    rfl
end
end Q.K46
end

section
set_option maxRecDepth 100000
set_option maxHeartbeats 4000000
set_option exponentiation.threshold 70
/-! M46k: what is drawn. -/
namespace Q.K46
open PySem L2 Q

theorem Hd.mono {m m' : Nat} {bx : List (List D)} (h : Hd m bx) (hm : m ≤ m') : Hd m' bx := by
  obtain ⟨c, a, h2, h3, h4, r1, r2, r3, r4, r5, r6, r7, r8, r9⟩ := h
  exact ⟨c, a, h2, h3, h4, r1, r2, r3, r4, r5, r6, r7, r8, by omega⟩
theorem norm_nn {t : Int} {b : Nat} (h0 : b ≠ 0) (h : 0 ≤ t) : 0 ≤ Rat.normalize t b h0 := by
  rw [← Rat.num_nonneg, Rat.normalize_eq]
  show 0 ≤ t / ((t.natAbs.gcd b : Nat) : Int)
  exact Int.ediv_nonneg h (by omega)
theorem norm_le1 {t : Int} {b : Nat} (h0 : b ≠ 0) (h : t ≤ b) : Rat.normalize t b h0 ≤ 1 := by
  rw [Rat.le_iff, Rat.normalize_eq]
  show t / ((t.natAbs.gcd b : Nat) : Int) * 1 ≤ 1 * (((b / t.natAbs.gcd b : Nat)) : Int)
  rw [Int.mul_one, Int.one_mul, Int.natCast_ediv]
  have g0 : 0 < t.natAbs.gcd b := Nat.gcd_pos_of_pos_right _ (by omega)
  exact Int.ediv_le_ediv (by omega) h
theorem norm_in1 {t : Int} {b : Nat} (h0 : b ≠ 0) (h : 0 ≤ t) (h1 : t ≤ b) : In1 (Rat.normalize t b h0) := ⟨norm_nn h0 h, norm_le1 h0 h1⟩
theorem norm_pos {t : Int} {b : Nat} (h0 : b ≠ 0) (h : 0 < t) : 0 < Rat.normalize t b h0 := by
  have h1 := norm_nn h0 (show 0 ≤ t by omega)
  have h2 : Rat.normalize t b h0 ≠ 0 := fun e => by
    have := congrArg Rat.num e
    rw [Rat.normalize_eq] at this
    have h3 : t / ((t.natAbs.gcd b : Nat) : Int) = 0 := this
    have hd : ((t.natAbs.gcd b : Nat) : Int) ∣ t := by
      have := Nat.gcd_dvd_left t.natAbs b
      exact Int.natAbs_dvd_natAbs.mp (by simpa using this)
    have := Int.ediv_mul_cancel hd
    rw [h3] at this
    omega
  grind
section
variable {L : Nat} (hL : 2 ^ 9000 ≤ L)
omit hL in
theorem allPut_ok {n : Nat} (hn : 4 ≤ n) {fs : List Frg} (h5 : fs.length ≤ 5) (hv : ∀ f, f ∈ fs → Fv f) : Pu L n 40 [.lst (fs.map fr)] (frs (fs.foldl putR [])) ∧ Ly fs.length (fs.foldl putR []) := by
  have key : ∀ i, i ≤ fs.length → Ly i ((fs.take i).foldl putR []) := by
    intro i
    induction i with
    | zero => exact fun _ => ⟨by simp, fun f h => by simp at h, fun f h => by simp at h, .nil⟩
    | succ i ih =>
      intro hi
      rw [List.take_succ_eq_append_getElem (by omega), List.foldl_append]
      exact ly_put (ih (by omega)) (hv _ (List.getElem_mem _))
  refine ⟨Pu.mk (f := ⟨1, 3, i40⟩) (by omega) rfl rfl fun j e bx => ?_, by have := key fs.length (Nat.le_refl _); rwa [List.take_length] at this⟩
  obtain ⟨s', e1, x2, rfl⟩ := for_st (f := forT (cc L j) L (.var 2) (.seq (.asv 1 (.call 39 (.cons (.var 1) (.cons (.var 2) .nil)))) .nil)) (ds := fs.map fr) (s := ⟨[some (.lst (fs.map fr)), some (frs []), none], bx⟩) (fun i s => ∃ x2, s = ⟨[some (.lst (fs.map fr)), some (frs ((fs.take i).foldl putR [])), x2], bx⟩) ⟨none, rfl⟩ fun i d s hd hp => by
    obtain ⟨x2, rfl⟩ := hp
    rw [List.getElem?_map] at hd
    obtain ⟨f, hf, rfl⟩ := map_inv hd
    obtain ⟨q1, q2⟩ := List.getElem?_eq_some_iff.mp hf
    have t := put_ok (L := L) (n := j) (by omega) (key i (by omega)) (by omega) (hv f (List.mem_of_getElem? hf))
    refine ⟨⟨[some (.lst (fs.map fr)), some (frs ((fs.take (i + 1)).foldl putR [])), some (fr f)], bx⟩, .inl ?_, _, rfl⟩
    rw [List.take_succ_eq_append_getElem q1, List.foldl_append, q2]
    simp [forT, asgT, t.r]
  rw [List.length_map, List.take_length] at e1
  refine ⟨[some (.lst (fs.map fr)), some (frs (fs.foldl putR [])), x2], ?_⟩
  have h0 : D.tup [] = frs [] := rfl
  simp [i40, startL, h0, e1]
include hL
theorem ground_ok {n m : Nat} (hn : 2 ≤ n) (hm : m < 2 ^ 39) {bx : List (List D)} (h : Hd m bx) : ∃ g bx', callN prg.tb prg.gb L n 43 [.box 0] bx = .ok (shs g) bx' ∧ Gv g ∧ Hd (m + 3) bx' := by
  obtain ⟨j, rfl⟩ : ∃ j, n = j + 1 := ⟨n - 1, by omega⟩
  have hr3 : rangeD 0 3 = [.int 0, .int 1, .int 2] := rfl
  obtain ⟨b', ys, e1, g, rfl, hl, hg, hb⟩ := lc_st (c := cc L j) (elt := .call 31 (.cons (.call 28 (.cons (.var 0) (.cons (.cst (.int 4)) .nil))) (.cons (.cst (.int 3)) .nil))) (tg := .var 1) (it := .rng1 (.cst (.int 3))) (own := [1]) (ds := rangeD 0 3) (l := [some (.box 0), none]) (l1 := [some (.box 0), none]) (bx := bx) (bx1 := bx)
    (fun i b acc => ∃ g : List Rat, acc = g.map sh ∧ g.length = i ∧ (∀ q, q ∈ g → In1 q ∧ Sz 20 q) ∧ Hd (m + i) b) (by simp [rngOk, hr3]) (by decide) (by simp [S.frzs, S.frz]) ⟨[], rfl, rfl, fun q h => by simp at h, h⟩ fun i d b acc hd ⟨g, ha, hg1, hg2, hg3⟩ => by
      have hi : i < 3 := by
        have := (List.getElem?_eq_some_iff.mp hd).1
        rw [hr3] at this; simpa using this
      obtain ⟨r, b2, d1, d2, d3, d4⟩ := draw_r (L := L) (n := j) (by omega) (many := 4) (by omega) (by omega) (by omega) hg3
      have hlo := low_ok hL (n := j) (by omega) r 3 (by omega) (Nat.lt_of_lt_of_le (show r.natAbs < 2 ^ 20 by omega) (Nat.pow_le_pow_right (by omega) (by omega))) (Nat.lt_of_lt_of_le (show 3 < 2 ^ 20 by omega) (Nat.pow_le_pow_right (by omega) (by omega)))
      refine ⟨[some (.box 0), some d], [some (.box 0), some d], b2, sh (Rat.normalize r 3 (by omega)), by simp [asgT, wipeL], ?_, by simp [wipeL], g ++ [Rat.normalize r 3 (by omega)], by simp [ha], by simp [hg1], fun q hq => ?_, d4⟩
      · have hlo' := hlo.r [some (.box 0), some d] b2
        simp at hlo'
        simp [d1, hlo']
      · rcases List.mem_append.mp hq with hq | hq
        · exact hg2 q hq
        · simp at hq; subst hq
          exact ⟨norm_in1 _ d2 (by omega), norm_sz _ (by omega) (by omega)⟩
  refine ⟨g, b', ?_, ⟨by rw [hl]; rfl, fun q hq => (hg q hq).1, fun q hq => (hg q hq).2⟩, by rw [hr3] at hb; exact hb⟩
  rw [callN_eq (f := ⟨1, 2, i43⟩) rfl]
  refine runF_rt (s := ⟨[some (.box 0), none], b'⟩) rfl ?_
  simp [i43, startL, e1]
  rfl
theorem fragment_ok {n m : Nat} (hn : 2 ≤ n) (hm : m < 2 ^ 39) {bx : List (List D)} (h : Hd m bx) : ∃ f bx', callN prg.tb prg.gb L n 37 [.box 0] bx = .ok (fr f) bx' ∧ Fv f ∧ Hd (m + 7) bx' := by
  obtain ⟨j, rfl⟩ : ∃ j, n = j + 1 := ⟨n - 1, by omega⟩
  have hr3 : rangeD 0 3 = [.int 0, .int 1, .int 2] := rfl
  have small : ∀ x : Nat, x < 2 ^ 9 → x < 2 ^ 9000 := fun x hx => Nat.lt_of_lt_of_le hx (Nat.pow_le_pow_right (by omega) (by omega))
  obtain ⟨b1, ys, e1, g, rfl, hl, hg, hb⟩ := lc_st (c := cc L j) (elt := .call 31 (.cons (.call 28 (.cons (.var 0) (.cons (.cst (.int 5)) .nil))) (.cons (.cst (.int 4)) .nil))) (tg := .var 3) (it := .rng1 (.cst (.int 3))) (own := [3]) (ds := rangeD 0 3) (l := [some (.box 0), none, none, none]) (l1 := [some (.box 0), none, none, none]) (bx := bx) (bx1 := bx)
    (fun i b acc => ∃ g : List Rat, acc = g.map sh ∧ g.length = i ∧ (∀ q, q ∈ g → In1 q ∧ Sz 10 q) ∧ Hd (m + i) b) (by simp [rngOk, hr3]) (by decide) (by simp [S.frzs, S.frz]) ⟨[], rfl, rfl, fun q h => by simp at h, h⟩ fun i d b acc hd ⟨g, ha, hg1, hg2, hg3⟩ => by
      have hi : i < 3 := by
        have := (List.getElem?_eq_some_iff.mp hd).1
        rw [hr3] at this; simpa using this
      obtain ⟨r, b2, d1, d2, d3, d4⟩ := draw_r (L := L) (n := j) (by omega) (many := 5) (by omega) (by omega) (by omega) hg3
      have hlo := low_ok hL (n := j) (by omega) r 4 (by omega) (small _ (by omega)) (small _ (by omega))
      refine ⟨[some (.box 0), none, none, some d], [some (.box 0), none, none, some d], b2, sh (Rat.normalize r 4 (by omega)), by simp [asgT, wipeL], ?_, by simp [wipeL], g ++ [Rat.normalize r 4 (by omega)], by simp [ha], by simp [hg1], fun q hq => ?_, d4⟩
      · have hlo' := hlo.r [some (.box 0), none, none, some d] b2
        simp at hlo'
        simp [d1, hlo']
      · rcases List.mem_append.mp hq with hq | hq
        · exact hg2 q hq
        · simp at hq; subst hq
          exact ⟨norm_in1 _ d2 (by omega), norm_sz _ (by omega) (by omega)⟩
  have hl3 : g.length = 3 := by rw [hl]; rfl
  obtain ⟨g0, g1, g2, rfl⟩ : ∃ g0 g1 g2, g = [g0, g1, g2] := by
    match g, hl3 with
    | [a, b, c], _ => exact ⟨a, b, c, rfl⟩
  have hb' : Hd (m + 3) b1 := by rw [hr3] at hb; exact hb
  -- the fourth
  obtain ⟨r1, b2, d1, d2, d3, d4⟩ := draw_r (L := L) (n := j) (by omega) (many := 4) (by omega) (by omega) (by omega) hb'
  have four : ∃ op b3, evE (cc L j) (.ite (.tru (.cmp .eq (.call 28 (.cons (.var 0) (.cons (.cst (.int 4)) .nil))) (.cst (.int 0)))) (.tup (.cons (.cst (.int 1)) (.cons (.cst (.int 1)) .nil))) (.call 31 (.cons (.call 28 (.cons (.var 0) (.cons (.cst (.int 4)) .nil))) (.cons (.cst (.int 4)) .nil)))) ⟨[some (.box 0), some (shs [g0, g1, g2]), none, none], b1⟩ = .ok (sh op) ⟨[some (.box 0), some (shs [g0, g1, g2]), none, none], b3⟩ ∧ In1 op ∧ Sz 10 op ∧ Hd (m + 5) b3 := by
    by_cases c : r1 = 0
    · refine ⟨1, b2, ?_, ⟨by decide, by decide⟩, sz_one.mono (by omega), d4.mono (by omega)⟩
      have h1 : D.tup [.int 1, .int 1] = sh 1 := rfl
      simp [d1, c, h1]
    · obtain ⟨r2, b3, f1, f2, f3, f4⟩ := draw_r (L := L) (n := j) (by omega) (many := 4) (by omega) (by omega) (by omega) d4
      have hlo := low_ok hL (n := j) (by omega) r2 4 (by omega) (small _ (by omega)) (small _ (by omega))
      refine ⟨Rat.normalize r2 4 (by omega), b3, ?_, norm_in1 _ f2 (by omega), norm_sz _ (by omega) (by omega), f4⟩
      have hlo' := hlo.r [some (.box 0), some (shs [g0, g1, g2]), none, none] b3
      simp at hlo'
      simp [d1, c, f1, hlo']
  obtain ⟨op, b3, e3, o1, o2, o3⟩ := four
  obtain ⟨r3, b4, k1, k2, k3, k4⟩ := draw_r (L := L) (n := j) (by omega) (many := 8) (by omega) (by omega) (by omega) o3
  obtain ⟨r4, b5, t1, t2, t3, t4⟩ := draw_r (L := L) (n := j) (by omega) (many := 4) (by omega) (by omega) (by omega) k4
  have n2 : (2 : Nat) ≠ 0 := by decide
  have hlo := low_ok hL (n := j) (by omega) (1 + r3) 2 n2 (small _ (by omega)) (small _ (by omega))
  refine ⟨⟨Rat.normalize (1 + r3) 2 n2, r4, g0, g1, g2, op⟩, b5, ?_, ⟨norm_pos n2 (by omega), t2, Int.le_trans (Int.le_of_lt t3) (by decide), (hg g0 (by simp)).1, (hg g1 (by simp)).1, (hg g2 (by simp)).1, o1, norm_sz n2 (by omega) (by omega), (hg g0 (by simp)).2, (hg g1 (by simp)).2, (hg g2 (by simp)).2, o2⟩, t4⟩
  rw [callN_eq (f := ⟨1, 4, i37⟩) rfl]
  refine runF_rt (s := ⟨[some (.box 0), some (shs [g0, g1, g2]), some (sh op), none], b5⟩) rfl ?_
  have hlo' := hlo.r [some (.box 0), some (shs [g0, g1, g2]), some (sh op), none] b4
  simp at hlo'
  have hsh : D.tup [sh g0, sh g1, sh g2] = shs [g0, g1, g2] := rfl
  have hadd : opB .add (shs [g0, g1, g2]) (.tup [sh op]) = some (.tup [sh g0, sh g1, sh g2, sh op]) := rfl
  have e3' : evE (cc L j) (.ite (.tru (.cmp .eq (.call 28 (.cons (.var 0) (.cons (.cst (.int 4)) .nil))) (.cst (.int 0)))) (.tup (.cons (.cst (.int 1)) (.cons (.cst (.int 1)) .nil))) (.call 31 (.cons (.call 28 (.cons (.var 0) (.cons (.cst (.int 4)) .nil))) (.cons (.cst (.int 4)) .nil)))) ⟨[some (.box 0), some (shs [g0, g1, g2]), none, none], b1⟩ = .ok (sh op) ⟨[some (.box 0), some (shs [g0, g1, g2]), none, none], b3⟩ := e3
  generalize hI : (E.ite (.tru (.cmp .eq (.call 28 (.cons (.var 0) (.cons (.cst (.int 4)) .nil))) (.cst (.int 0)))) (.tup (.cons (.cst (.int 1)) (.cons (.cst (.int 1)) .nil))) (.call 31 (.cons (.call 28 (.cons (.var 0) (.cons (.cst (.int 4)) .nil))) (.cons (.cst (.int 4)) .nil)))) = I at e3'
  have hi : i37 = (.seq (.asv 1 (.blt .tuple (.cons (.lc (.call 31 (.cons (.call 28 (.cons (.var 0) (.cons (.cst (.int 5)) .nil))) (.cons (.cst (.int 4)) .nil))) (.var 3) (.rng1 (.cst (.int 3))) .nil [3]) .nil))) (.seq (.asv 2 I) (.seq (.ret (.tup (.cons (.call 31 (.cons (.bin .add (.cst (.int 1)) (.call 28 (.cons (.var 0) (.cons (.cst (.int 8)) .nil)))) (.cons (.cst (.int 2)) .nil))) (.cons (.call 28 (.cons (.var 0) (.cons (.cst (.int 4)) .nil))) (.cons (.bin .add (.var 1) (.tup (.cons (.var 2) .nil))) .nil))))) .nil))) := by rw [← hI]; rfl
  simp only [List.map_cons, List.map_nil] at e1
  simp [hi, startL, e1, hsh, e3', k1, hlo', t1, hadd, fr]
/-! ### odd things -/
omit hL
theorem pow_le : 2 ^ 70 ≤ 2 ^ 9000 := Nat.pow_le_pow_right (by omega) (by omega)
theorem gd_i {i : Int} (h : i.natAbs < 2 ^ 70) : Gd (.int i) := by
  unfold Gd
  exact Nat.lt_of_lt_of_le h pow_le
theorem gd_non : Gd .non := by unfold Gd; exact True.intro
theorem gd_bl (b : Bool) : Gd (.bl b) := by unfold Gd; exact True.intro
theorem gd_str (b : Str) : Gd (.str b) := by unfold Gd; exact True.intro
theorem gd_dc (b : List (Key × D)) : Gd (.dic b) := by unfold Gd; exact True.intro
theorem gd_tp {xs : List D} (h : Gds xs) : Gd (.tup xs) := by unfold Gd; exact h
theorem gd_ls {xs : List D} (h : Gds xs) : Gd (.lst xs) := by unfold Gd; exact h
theorem at_mem {xs : List D} {r : Int} (h0 : 0 ≤ r) (h : r < xs.length) : ∃ d, d ∈ xs ∧ atI xs r = some d := by
  have hl : r.toNat < xs.length := by omega
  refine ⟨xs[r.toNat], List.getElem_mem hl, ?_⟩
  have := at_nat (xs := xs) hl
  rw [Int.toNat_of_nonneg h0] at this
  rw [this]; simp [hl]
theorem some_ok {n m : Nat} (hn : 2 ≤ n) (hm : m < 2 ^ 39) {bx : List (List D)} (h : Hd m bx) {xs : List D} (hl : 0 < xs.length) (hl2 : xs.length < 1000) : ∃ d bx', d ∈ xs ∧ callN prg.tb prg.gb L n 29 [.box 0, .lst xs] bx = .ok d bx' ∧ Hd (m + 1) bx' := by
  obtain ⟨j, rfl⟩ : ∃ j, n = j + 1 := ⟨n - 1, by omega⟩
  obtain ⟨r, b, d1, d2, d3, d4⟩ := draw_r (L := L) (n := j) (by omega) (many := xs.length) (by omega) (by omega) (by omega) h
  obtain ⟨d, hd, ha⟩ := at_mem d2 d3
  refine ⟨d, b, hd, ?_, d4⟩
  rw [callN_eq (f := ⟨2, 2, i29⟩) rfl]
  refine runF_rt (s := ⟨[some (.box 0), some (.lst xs)], b⟩) rfl ?_
  simp [i29, startL, d1, ha]
theorem deep_ok {n m : Nat} (hn : 2 ≤ n) (hm : m < 2 ^ 38) {bx : List (List D)} (h : Hd m bx) : ∃ d bx', callN prg.tb prg.gb L n 44 [.box 0] bx = .ok d bx' ∧ Gd d ∧ Hd (m + 40) bx' := by
  obtain ⟨j, rfl⟩ : ∃ j, n = j + 1 := ⟨n - 1, by omega⟩
  have p1 : pairsD [] = some [] := rfl
  have p2 : mergeD [] [] = [] := rfl
  obtain ⟨r, b1, d1, d2, d3, d4⟩ := draw_r (L := L) (n := j) (by omega) (many := 5) (by omega) (by omega) (by omega) h
  obtain ⟨d0, hd0, ha0⟩ := at_mem (xs := [.non, .int 5, .int (-1), .dic [], .bl true]) d2 (by simpa using d3)
  have g0 : Gd d0 := by
    simp at hd0
    rcases hd0 with rfl | rfl | rfl | rfl | rfl
    · exact gd_non
    · exact gd_i (by decide)
    · exact gd_i (by decide)
    · exact gd_dc _
    · exact gd_bl _
  obtain ⟨r2, b2, k1, k2, k3, k4⟩ := draw_r (L := L) (n := j) (by omega) (many := 24) (by omega) (by omega) (by omega) d4
  have hrl : (rangeD 0 (5 + r2).toNat).length = (5 + r2).toNat := range_len _ _
  obtain ⟨s', e1, d, x2, b, rfl, gd, hb⟩ := for_st (f := forT (cc L j) L (.var 2) (.seq (.asv 1 (.idx (.lst (.cons (.tup (.cons (.var 1) .nil)) (.cons (.lst (.cons (.var 1) .nil)) (.cons (.dic (.cons (.cst (.int 0)) (.cons (.var 1) .nil))) .nil)))) (.call 28 (.cons (.var 0) (.cons (.cst (.int 3)) .nil))))) .nil)) (ds := rangeD 0 (5 + r2).toNat) (s := ⟨[some (.box 0), some d0, none], b2⟩)
    (fun i s => ∃ d x2 b, s = ⟨[some (.box 0), some d, x2], b⟩ ∧ Gd d ∧ Hd (m + 2 + i) b) ⟨d0, none, b2, rfl, g0, k4⟩ fun i t s hd hp => by
      obtain ⟨d, x2, b, rfl, gd, hb⟩ := hp
      have hi : i < 40 := by
        have := (List.getElem?_eq_some_iff.mp hd).1
        omega
      obtain ⟨r3, b3, w1, w2, w3, w4⟩ := draw_r (L := L) (n := j) (by omega) (many := 3) (by omega) (by omega) (by omega) hb
      obtain ⟨d', hd', ha'⟩ := at_mem (xs := [.tup [d], .lst [d], .dic [(.inl 0, d)]]) w2 (by simpa using w3)
      have g' : Gd d' := by
        simp at hd'
        rcases hd' with rfl | rfl | rfl
        · exact gd_tp (Gds.of fun z h => by simp at h; subst h; exact gd)
        · exact gd_ls (Gds.of fun z h => by simp at h; subst h; exact gd)
        · exact gd_dc _
      refine ⟨⟨[some (.box 0), some d', some t], b3⟩, .inl ?_, d', some t, b3, rfl, g', w4⟩
      have fd : d.frz = d := frz_of (gd_own gd)
      have p3 : pairsD [.int 0, d] = some [(.inl 0, d)] := rfl
      have p4 : mergeD [] [(.inl 0, d)] = [(.inl 0, d)] := rfl
      simp [forT, asgT, gv_d _ _ _ (gd_own gd), fd, p3, p4, w1, ha']
  rw [hrl] at hb
  refine ⟨d, b, ?_, gd, hb.mono (by omega)⟩
  rw [callN_eq (f := ⟨1, 3, i44⟩) rfl]
  have hrg : rngOk 0 (5 + r2) = true := decide_eq_true (by refine ⟨by omega, by omega, by omega, by omega, ?_⟩; show (5 + r2 - 0).toNat ≤ 16777216; omega)
  have fd : d.frz = d := frz_of (gd_own gd)
  refine runF_rt (s := ⟨[some (.box 0), some d, x2], b⟩) rfl ?_
  simp [i44, startL, p1, p2, d1, ha0, k1, hrg, e1, gv_d _ _ _ (gd_own gd)]
theorem odd_ok {n m : Nat} (hn : 3 ≤ n) (hm : m < 2 ^ 37) {bx : List (List D)} (h : Hd m bx) : ∃ d bx', callN prg.tb prg.gb L n 45 [.box 0] bx = .ok d bx' ∧ Gd d ∧ Hd (m + 41) bx' := by
  obtain ⟨j, rfl⟩ : ∃ j, n = j + 1 := ⟨n - 1, by omega⟩
  obtain ⟨d0, b0, c0, g0, h0⟩ := deep_ok (L := L) (n := j) (by omega) (by omega) h
  obtain ⟨d, b, hd, c1, h1⟩ := some_ok (L := L) (n := j) (by omega) (by omega) h0 (xs := [.non, .bl true, .bl false, .int 0, .int (-1), .int 999, .int (2 ^ 63), .str "p", .str "", .tup [], .lst [], .dic [], .tup [.int 1], .tup [.str "a"], d0]) (by simp) (by simp)
  refine ⟨d, b, ?_, ?_, h1⟩
  · rw [callN_eq (f := ⟨1, 1, i45⟩) rfl]
    refine runF_rt (s := ⟨[some (.box 0)], b⟩) rfl ?_
    have p1 : pairsD [] = some [] := rfl
    have p2 : mergeD [] [] = [] := rfl
    have p3 : opB .shl (.int 1) (.int 63) = some (.int (2 ^ 63)) := rfl
    have f0 : d0.frz = d0 := frz_of (gd_own g0)
    have r0 : ∀ l, callR (cc L j) 44 [.box 0] ⟨l, bx⟩ = .ok d0 ⟨l, b0⟩ := fun l => callR_ok c0
    have r1 : ∀ l, callR (cc L j) 29 [.box 0, .lst [.non, .bl true, .bl false, .int 0, .int (-1), .int 999, .int (2 ^ 63), .str "p", .str "", .tup [], .lst [], .dic [], .tup [.int 1], .tup [.str "a"], d0]] ⟨l, b0⟩ = .ok d ⟨l, b⟩ := fun l => callR_ok c1
    generalize hz : (2 ^ 63 : Int) = z at p3 r1
    simp [i45, startL, p1, p2, p3, f0, r0, r1]
  · simp only [List.mem_cons, List.not_mem_nil, or_false] at hd
    rcases hd with rfl | rfl | rfl | rfl | rfl | rfl | rfl | rfl | rfl | rfl | rfl | rfl | rfl | rfl | rfl
    · exact gd_non
    · exact gd_bl _
    · exact gd_bl _
    · exact gd_i (by decide)
    · exact gd_i (by decide)
    · exact gd_i (by decide)
    · exact gd_i (by decide +kernel)
    · exact gd_str _
    · exact gd_str _
    · exact gd_tp (Gds.of fun d h => nomatch h)
    · exact gd_ls (Gds.of fun d h => nomatch h)
    · exact gd_dc _
    · exact gd_tp (Gds.of fun d h => by simp at h; subst h; exact gd_i (by decide))
    · exact gd_tp (Gds.of fun d h => by simp at h; subst h; exact gd_str _)
    · exact g0
end
end Q.K46
end

section
set_option maxRecDepth 100000
set_option maxHeartbeats 4000000
set_option exponentiation.threshold 70
/-! M46l: the plain law of sheets. -/
namespace Q.K46
open PySem L2 Q

theorem eqD_refl : ∀ (h : Nat) (d : D), Pl h d → eqD d d = true
  | _, .int _, _ => by simp
  | _, .bl _, _ => by simp
  | h + 1, .tup xs, hp => by
    show eqDs xs xs = true
    have := hp.2
    clear hp
    induction xs with
    | nil => rfl
    | cons x xs ih =>
      show (eqD x x && eqDs xs xs) = true
      rw [eqD_refl h x (this x (by simp)), ih fun y hy => this y (by simp [hy])]; rfl
  | 0, .tup _, hp => hp.elim
  | 0, .non, hp => hp.elim
  | _ + 1, .non, hp => hp.elim
  | 0, .str _, hp => hp.elim
  | _ + 1, .str _, hp => hp.elim
  | 0, .lst _, hp => hp.elim
  | _ + 1, .lst _, hp => hp.elim
  | 0, .dic _, hp => hp.elim
  | _ + 1, .dic _, hp => hp.elim
  | 0, .own _, hp => hp.elim
  | _ + 1, .own _, hp => hp.elim
  | 0, .odc _, hp => hp.elim
  | _ + 1, .odc _, hp => hp.elim
  | 0, .scr _, hp => hp.elim
  | _ + 1, .scr _, hp => hp.elim
  | 0, .box _, hp => hp.elim
  | _ + 1, .box _, hp => hp.elim
  | 0, .fn _, hp => hp.elim
  | _ + 1, .fn _, hp => hp.elim
theorem shN_pl : ∀ (h k : Nat) (d : D), Pl h d → h ≤ k → shN k d = true
  | _, _, .int _, _, _ => by simp
  | _, _, .bl _, _, _ => by simp
  | h + 1, k + 1, .tup xs, hp, hk => by
    rw [shN_tup, List.all_eq_true]
    exact fun x hx => shN_pl h k x (hp.2 x hx) (by omega)
  | _ + 1, 0, _, _, hk => by omega
  | 0, _, .tup _, hp, _ => hp.elim
  | 0, _, .non, hp, _ => hp.elim
  | _ + 1, _ + 1, .non, hp, _ => hp.elim
  | 0, _, .str _, hp, _ => hp.elim
  | _ + 1, _ + 1, .str _, hp, _ => hp.elim
  | 0, _, .lst _, hp, _ => hp.elim
  | _ + 1, _ + 1, .lst _, hp, _ => hp.elim
  | 0, _, .dic _, hp, _ => hp.elim
  | _ + 1, _ + 1, .dic _, hp, _ => hp.elim
  | 0, _, .own _, hp, _ => hp.elim
  | _ + 1, _ + 1, .own _, hp, _ => hp.elim
  | 0, _, .odc _, hp, _ => hp.elim
  | _ + 1, _ + 1, .odc _, hp, _ => hp.elim
  | 0, _, .scr _, hp, _ => hp.elim
  | _ + 1, _ + 1, .scr _, hp, _ => hp.elim
  | 0, _, .box _, hp, _ => hp.elim
  | _ + 1, _ + 1, .box _, hp, _ => hp.elim
  | 0, _, .fn _, hp, _ => hp.elim
  | _ + 1, _ + 1, .fn _, hp, _ => hp.elim
theorem ne_self {h : Nat} {d : D} (hp : Pl h d) (hh : h ≤ 60) : opC .ne d d = some false := by
  rw [opC_ne, shN_pl h 60 d hp hh, eqD_refl h d hp]; rfl
/-! ### sheets -/
theorem three {cs : List Rat} (h : cs.length = 3) : ∃ a b c, cs = [a, b, c] := by
  match cs, h with
  | [a, b, c], _ => exact ⟨a, b, c, rfl⟩
theorem lay_assoc (s t u : List Rat × Rat) (hs : s.1.length = 3) (ht : t.1.length = 3) (hu : u.1.length = 3) : layR (layR s t) u = layR s (layR t u) := by
  obtain ⟨s1, s2⟩ := s
  obtain ⟨t1, t2⟩ := t
  obtain ⟨u1, u2⟩ := u
  obtain ⟨a, b, c, rfl⟩ := three hs
  obtain ⟨d, e, f, rfl⟩ := three ht
  obtain ⟨g, h, i, rfl⟩ := three hu
  simp [layR, addR]
  refine ⟨⟨?_, ?_, ?_⟩, ?_⟩ <;> grind
theorem step_lay (s : List Rat × Rat) (f : Frg) : stepR s f = layR s ([f.op * f.r, f.op * f.g, f.op * f.b], 1 - f.op) ∨ s.1.length ≠ 3 := by
  by_cases h : s.1.length = 3
  · left
    obtain ⟨s1, s2⟩ := s
    obtain ⟨a, b, c, rfl⟩ := three h
    simp [stepR, layR, addR, Frg.col]
    refine ⟨?_, ?_, ?_⟩ <;> grind
  · exact .inr h
theorem lay_len {s t : List Rat × Rat} (hs : s.1.length = 3) (ht : t.1.length = 3) : (layR s t).1.length = 3 := by simp [layR, addR, hs, ht]
theorem lay_clear (s : List Rat × Rat) (hs : s.1.length = 3) : layR s ([0, 0, 0], 1) = s ∧ layR ([0, 0, 0], 1) s = s := by
  obtain ⟨s1, s2⟩ := s
  obtain ⟨a, b, c, rfl⟩ := three hs
  refine ⟨?_, ?_⟩ <;> simp [layR, addR] <;> grind
theorem raw_app (xs : List Frg) : ∀ (n : Nat) (ys : List Frg), ys.length = n → rawR (xs ++ ys) = layR (rawR xs) (rawR ys)
  | 0, ys, hn => by
    have : ys = [] := List.length_eq_zero_iff.mp hn
    subst this
    rw [List.append_nil]
    exact (lay_clear (rawR xs) (rawR_len xs)).1.symm
  | n + 1, ys, hn => by
    have hne : ys ≠ [] := fun e => by subst e; simp at hn
    have e := (List.dropLast_concat_getLast hne).symm
    have hl : ys.dropLast.length = n := by rw [List.length_dropLast]; omega
    have ih := raw_app xs n ys.dropLast hl
    rw [e, ← List.append_assoc, rawR_snoc, rawR_snoc, ih]
    generalize ys.getLast hne = f
    have l1 := rawR_len xs
    have l2 := rawR_len ys.dropLast
    rcases step_lay (layR (rawR xs) (rawR ys.dropLast)) f with h | h
    · rcases step_lay (rawR ys.dropLast) f with h' | h'
      · rw [h, h', lay_assoc _ _ _ l1 l2 rfl]
      · exact absurd l2 h'
    · exact absurd (lay_len l1 l2) h
theorem add_lay (s t : List Rat × Rat) (g : List Rat) (hs : s.1.length = 3) (ht : t.1.length = 3) (hg : g.length = 3) : addR (layR s t).2 (layR s t).1 g = addR s.2 s.1 (addR t.2 t.1 g) := by
  obtain ⟨s1, s2⟩ := s
  obtain ⟨t1, t2⟩ := t
  obtain ⟨a, b, c, rfl⟩ := three hs
  obtain ⟨d, e, f, rfl⟩ := three ht
  obtain ⟨x, y, z, rfl⟩ := three hg
  simp [layR, addR]
  refine ⟨?_, ?_, ?_⟩ <;> grind
theorem in1_mul {p q : Rat} (hp : In1 p) (hq : In1 q) : In1 (p * q) := by
  refine ⟨Rat.mul_nonneg hp.1 hq.1, ?_⟩
  have h1 := Rat.mul_nonneg hp.1 (show 0 ≤ 1 - q by have := hq.2; grind)
  have := hp.2
  grind
theorem in1_sub {q : Rat} (hq : In1 q) : In1 (1 - q) := ⟨by have := hq.2; grind, by have := hq.1; grind⟩
theorem add_nn {w : Rat} {cs ds : List Rat} (hw : 0 ≤ w) (hc : ∀ q, q ∈ cs → 0 ≤ q) (hd : ∀ q, q ∈ ds → 0 ≤ q) : ∀ q, q ∈ addR w cs ds → 0 ≤ q := fun q hq => by
  unfold addR at hq
  obtain ⟨p, hp, rfl⟩ := List.mem_map.mp hq
  have h1 := hc _ (List.of_mem_zip hp).1
  have h2 := Rat.mul_nonneg hw (hd _ (List.of_mem_zip hp).2)
  grind
theorem raw_sv0 : ∀ (n : Nat) (fs : List Frg), fs.length = n → (∀ f, f ∈ fs → Fv f) → (∀ q, q ∈ (rawR fs).1 → 0 ≤ q) ∧ In1 (rawR fs).2
  | 0, fs, hn, _ => by
    have : fs = [] := List.length_eq_zero_iff.mp hn
    subst this
    refine ⟨fun q hq => ?_, ⟨by decide, by decide⟩⟩
    simp [rawR] at hq
    subst hq
    decide
  | n + 1, fs, hn, hv => by
    have hne : fs ≠ [] := fun e => by subst e; simp at hn
    have e := (List.dropLast_concat_getLast hne).symm
    have hl : fs.dropLast.length = n := by rw [List.length_dropLast]; omega
    obtain ⟨h1, h2⟩ := raw_sv0 n fs.dropLast hl fun f hf => hv f ((List.dropLast_sublist fs).subset hf)
    have fv := hv _ (List.getLast_mem hne)
    rw [e, rawR_snoc]
    refine ⟨add_nn (in1_mul h2 fv.op).1 h1 fun q hq => ?_, in1_mul h2 (in1_sub fv.op)⟩
    simp [Frg.col] at hq
    rcases hq with rfl | rfl | rfl
    · exact fv.r.1
    · exact fv.g.1
    · exact fv.b.1
theorem raw_sv {n : Nat} {fs : List Frg} (h : Ly n fs) (hn : n ≤ 5) : Sv (rawR fs) := by
  have h5 := Nat.le_trans h.l hn
  obtain ⟨s1, s2⟩ := rawR_sz fs.length fs rfl h5 h.v
  obtain ⟨n1, n2⟩ := raw_sv0 fs.length fs rfl h.v
  exact ⟨rawR_len fs, n1, n2, fun q hq => (s1 q hq).mono (by omega), s2.mono (by omega)⟩
/-- a small sheet -/
structure Ss (s : List Rat × Rat) : Prop where
  l3 : s.1.length = 3
  nn : ∀ q, q ∈ s.1 → 0 ≤ q
  w : In1 s.2
  sc : Szs 20 s.1
  sw : Sz 20 s.2
theorem Ss.sv {s : List Rat × Rat} (h : Ss s) : Sv s := ⟨h.l3, h.nn, h.w, fun q hq => (h.sc q hq).mono (by omega), h.sw.mono (by omega)⟩
theorem ss_lay {s t : List Rat × Rat} (hs : Ss s) (ht : Ss t) : Sv (layR s t) :=
  ⟨lay_len hs.l3 ht.l3, add_nn hs.w.1 hs.nn ht.nn, in1_mul hs.w ht.w, fun q hq => (szs_add hs.sc ht.sc hs.sw q hq).mono (by omega), (sz_mul hs.sw ht.sw).mono (by omega)⟩
theorem ss_clear : Ss ([0, 0, 0], 1) := ⟨rfl, fun q hq => by simp at hq; subst hq; decide, ⟨by decide, by decide⟩, fun q hq => by simp at hq; subst hq; exact sz_zero.mono (by omega), sz_one.mono (by omega)⟩
theorem sl_to (fs : List Frg) (k : Nat) : slD (frs fs) none (some (k : Int)) = some (frs (fs.take k)) := by
  show some (D.tup (cutD (fs.map fr) none (some (k : Int)))) = _
  unfold cutD
  rw [show HT.sIx (fs.map fr).length (fs.map fr).length (some (k : Int)) = min k (fs.map fr).length from HT.sIx_nat _ _ _, show HT.sIx (fs.map fr).length 0 none = 0 from rfl, List.drop_zero, Nat.sub_zero]
  rw [← List.take_eq_take_min, ← List.map_take]; rfl
theorem sl_fm (fs : List Frg) (k : Nat) : slD (frs fs) (some (k : Int)) none = some (frs (fs.drop k)) := by
  show some (D.tup (cutD (fs.map fr) (some (k : Int)) none)) = _
  have := sl_from (xs := fs.map fr) k
  have h2 : (D.own (cutD (fs.map fr) (some (k : Int)) none)) = .own ((fs.map fr).drop k) := Option.some.inj this
  injection h2 with h2
  rw [h2, ← List.map_drop]; rfl
end Q.K46
end

section
set_option maxRecDepth 100000
set_option maxHeartbeats 8000000
set_option exponentiation.threshold 70
/-! M46m: one turn of the law. -/
namespace Q.K46
open PySem L2 Q

def b1 : St := (.asv 4 (.call 40 (.cons (.lc (.call 37 (.cons (.var 1) .nil)) (.var 7) (.rng1 (.call 28 (.cons (.var 1) (.cons (.cst (.int 6)) .nil)))) .nil [7]) .nil)))
def b2 : St := (.par 11 12 (.call 28 (.cons (.var 1) (.cons (.bin .add (.lenv 4) (.cst (.int 1))) .nil))) (.call 43 (.cons (.var 1) .nil)))
def b3 : St := (.asv 5 (.call 47 (.cons (.var 4) .nil)))
def b4 : St := (.par 13 14 (.call 47 (.cons (.slv 4 .nil (.prt (.var 11))) .nil)) (.call 47 (.cons (.slv 4 (.prt (.var 11)) .nil) .nil)))
def b5 : St := (.ite (.or (.not (.tru (.call 46 (.cons (.call 24 (.cons (.var 4) .nil)) (.cons (.var 5) .nil))))) (.not (.tru (.call 46 (.cons (.call 24 (.cons (.slv 4 .nil (.prt (.var 11))) .nil)) (.cons (.var 13) .nil)))))) (.seq (.ret (.cst (.bl false))) .nil) .nil)
def b6 : St := (.ite (.or (.not (.tru (.call 46 (.cons (.call 25 (.cons (.var 13) (.cons (.var 14) .nil))) (.cons (.var 5) .nil))))) (.tru (.cmp .ne (.call 48 (.cons (.var 13) (.cons (.var 14) .nil))) (.var 5)))) (.seq (.ret (.cst (.bl false))) .nil) .nil)
def b7 : St := (.ite (.not (.tru (.call 46 (.cons (.call 26 (.cons (.var 5) (.cons (.var 12) .nil))) (.cons (.call 42 (.cons (.var 4) (.cons (.var 12) .nil))) .nil))))) (.seq (.ret (.cst (.bl false))) .nil) .nil)
def b8 : St := (.ite (.tru (.cmp .ne (.call 21 (.cons (.var 4) (.cons (.var 12) .nil))) (.call 26 (.cons (.call 25 (.cons (.var 13) (.cons (.var 14) .nil))) (.cons (.var 12) .nil))))) (.seq (.ret (.cst (.bl false))) .nil) .nil)
def b9 : St := (.asv 6 (.lst .nil))
def b10 : St := (.for (.var 7) (.rng1 (.cst (.int 3))) (.seq (.asv 15 (.blt .tuple (.cons (.lc (.call 31 (.cons (.call 28 (.cons (.var 1) (.cons (.cst (.int 9)) .nil))) (.cons (.bin .add (.cst (.int 1)) (.call 28 (.cons (.var 1) (.cons (.cst (.int 4)) .nil)))) .nil))) (.var 21) (.rng1 (.cst (.int 3))) .nil [21]) .nil))) (.seq (.ex (.mut .append 6 (.cons (.tup (.cons (.var 15) (.cons (.call 31 (.cons (.call 28 (.cons (.var 1) (.cons (.cst (.int 5)) .nil))) (.cons (.cst (.int 4)) .nil))) .nil))) .nil))) .nil)))
def b11 : St := (.asg (.tup (.cons (.var 16) (.cons (.var 17) (.cons (.var 18) .nil)))) (.var 6))
def b12 : St := (.par 19 20 (.call 25 (.cons (.call 25 (.cons (.var 16) (.cons (.var 17) .nil))) (.cons (.var 18) .nil))) (.call 25 (.cons (.var 16) (.cons (.call 25 (.cons (.var 17) (.cons (.var 18) .nil))) .nil))))
def b13 : St := (.ite (.or (.not (.tru (.call 46 (.cons (.var 19) (.cons (.call 48 (.cons (.call 48 (.cons (.var 16) (.cons (.var 17) .nil))) (.cons (.var 18) .nil))) .nil))))) (.tru (.cmp .ne (.var 19) (.var 20)))) (.seq (.ret (.cst (.bl false))) .nil) .nil)
def b14 : St := (.ite (.or (.tru (.cmp .ne (.call 25 (.cons (.var 16) (.cons (.var 2) .nil))) (.var 16))) (.tru (.cmp .ne (.call 25 (.cons (.var 2) (.cons (.var 16) .nil))) (.var 16)))) (.seq (.ret (.cst (.bl false))) .nil) .nil)
def b15 : St := (.asv 8 (.blt .tuple (.cons (.lc (.call 32 (.cons (.var 22) (.cons (.call 34 (.cons (.ixv 16 (.cst (.int 1))) (.cons (.var 23) .nil))) .nil))) (.tup (.cons (.var 22) (.cons (.var 23) .nil))) (.zip (.ixv 16 (.cst (.int 0))) (.var 12)) .nil [22, 23]) .nil)))
def b16 : St := (.ite (.not (.tru (.call 46 (.cons (.call 26 (.cons (.var 16) (.cons (.var 12) .nil))) (.cons (.var 8) .nil))))) (.seq (.ret (.cst (.bl false))) .nil) .nil)
def b17 : St := (.asv 9 (.lst (.cons (.var 16) (.cons (.blt .list (.cons (.var 16) .nil)) (.cons (.tup (.cons (.ixv 16 (.cst (.int 0))) .nil)) (.cons (.tup (.cons (.slc (.ixv 16 (.cst (.int 0))) .nil (.prt (.cst (.int 2)))) (.cons (.ixv 16 (.cst (.int 1))) .nil))) (.cons (.tup (.cons (.ixv 16 (.cst (.int 0))) (.cons (.tup (.cons (.cst (.int 5)) (.cons (.cst (.int 4)) .nil))) .nil))) (.cons (.tup (.cons (.ixv 16 (.cst (.int 0))) (.cons (.tup (.cons (.neg (.cst (.int 1))) (.cons (.cst (.int 4)) .nil))) .nil))) .nil))))))))
def b18 : St := (.ex (.mut .append 9 (.cons (.tup (.cons (.ixv 16 (.cst (.int 0))) (.cons (.tup (.cons (.cst (.int 2)) (.cons (.cst (.int 4)) .nil))) .nil))) .nil)))
def b19 : St := (.asv 9 (.bin .add (.var 9) (.lst (.cons (.tup (.cons (.bin .add (.tup (.cons (.tup (.cons (.neg (.cst (.int 1))) (.cons (.cst (.int 1)) .nil))) .nil)) (.slc (.ixv 16 (.cst (.int 0))) (.prt (.cst (.int 1))) .nil)) (.cons (.ixv 16 (.cst (.int 1))) .nil))) (.cons (.tup (.cons (.bin .add (.tup (.cons (.tup (.cons (.cst (.bl true)) (.cons (.cst (.int 1)) .nil))) .nil)) (.slc (.ixv 16 (.cst (.int 0))) (.prt (.cst (.int 1))) .nil)) (.cons (.ixv 16 (.cst (.int 1))) .nil))) (.cons (.var 2) (.cons (.cst .non) .nil)))))))
def b20 : St := (.for (.var 10) (.its (.bin .add (.var 9) (.lst (.cons (.call 45 (.cons (.var 1) .nil)) .nil)))) (.seq (.ite (.not (.tru (.call 46 (.cons (.call 22 (.cons (.var 10) .nil)) (.cons (.call 49 (.cons (.var 10) .nil)) .nil))))) (.seq (.ret (.cst (.bl false))) .nil) .nil) .nil))
def turnB : St := (.seq b1 (.seq b2 (.seq b3 (.seq b4 (.seq b5 (.seq b6 (.seq b7 (.seq b8 (.seq b9 (.seq b10 (.seq b11 (.seq b12 (.seq b13 (.seq b14 (.seq b15 (.seq b16 (.seq b17 (.seq b18 (.seq b19 (.seq b20 .nil))))))))))))))))))))
theorem i50_eq : i50 = .seq (.asv 1 (.call 27 (.cons (.var 0) .nil))) (.seq (.asv 2 (.tup (.cons (.bin .mul (.tup (.cons (.tup (.cons (.cst (.int 0)) (.cons (.cst (.int 1)) .nil))) .nil)) (.cst (.int 3))) (.cons (.tup (.cons (.cst (.int 1)) (.cons (.cst (.int 1)) .nil))) .nil)))) (.seq (.for (.var 3) (.rng1 (.cst (.int 6))) turnB) (.seq (.ret (.cst (.bl true))) .nil))) := rfl

def cl : List Rat × Rat := ([0, 0, 0], 1)
section
variable {L : Nat} (hL : 2 ^ 9000 ≤ L) {ns : List Int} {x3 x4 x5 x6 x7 x8 x9 x10 x11 x12 x13 x14 x15 x16 x17 x18 x19 x20 : Option D}
include hL

theorem g1 {j m : Nat} (hj : 10 ≤ j) (hm : m < 2 ^ 36) {bx : List (List D)} (h : Hd m bx) (h7 : x7 = none ∨ ∃ k : Int, x7 = some (.int k)) : ∃ fs b', evS (cc L j) L b1 ⟨[some (.scr ns), some (.box 0), some (pr cl), x3, x4, x5, x6, x7, x8, x9, x10, x11, x12, x13, x14, x15, x16, x17, x18, x19, x20, none, none, none], bx⟩ = .ok .nx ⟨[some (.scr ns), some (.box 0), some (pr cl), x3, some (frs fs), x5, x6, x7, x8, x9, x10, x11, x12, x13, x14, x15, x16, x17, x18, x19, x20, none, none, none], b'⟩ ∧ Ly 5 fs ∧ Hd (m + 36) b' := by
  obtain ⟨r, c1, d1, d2, d3, d4⟩ := draw_r (L := L) (n := j) (by omega) (many := 6) (by omega) (by omega) (by omega) h
  have hrl : (rangeD 0 r.toNat).length = r.toNat := range_len _ _
  have hrg : rngOk 0 r = true := decide_eq_true (by refine ⟨by omega, by omega, by omega, by omega, ?_⟩; show (r - 0).toNat ≤ 16777216; omega)
  have hfz : S.frzs ⟨[some (.scr ns), some (.box 0), some (pr cl), x3, x4, x5, x6, x7, x8, x9, x10, x11, x12, x13, x14, x15, x16, x17, x18, x19, x20, none, none, none], c1⟩ [7] = ⟨[some (.scr ns), some (.box 0), some (pr cl), x3, x4, x5, x6, x7, x8, x9, x10, x11, x12, x13, x14, x15, x16, x17, x18, x19, x20, none, none, none], c1⟩ := by
    rcases h7 with rfl | ⟨k, rfl⟩ <;> simp [S.frzs, S.frz]
  obtain ⟨b', ys, e1, gs, rfl, hl, hg, hb⟩ := lc_st (c := cc L j) (elt := .call 37 (.cons (.var 1) .nil)) (tg := .var 7) (it := .rng1 (.call 28 (.cons (.var 1) (.cons (.cst (.int 6)) .nil)))) (own := [7]) (ds := rangeD 0 r.toNat) (l := [some (.scr ns), some (.box 0), some (pr cl), x3, x4, x5, x6, x7, x8, x9, x10, x11, x12, x13, x14, x15, x16, x17, x18, x19, x20, none, none, none]) (l1 := [some (.scr ns), some (.box 0), some (pr cl), x3, x4, x5, x6, x7, x8, x9, x10, x11, x12, x13, x14, x15, x16, x17, x18, x19, x20, none, none, none]) (bx := bx) (bx1 := c1)
    (fun i b acc => ∃ gs : List Frg, acc = gs.map fr ∧ gs.length = i ∧ (∀ f, f ∈ gs → Fv f) ∧ Hd (m + 1 + 7 * i) b) (by simp [d1, hrg]) (by rw [hrl]; show r.toNat ≤ 16777216; omega) hfz ⟨[], rfl, rfl, fun q h => (by simp at h), d4⟩ fun i d b acc hd ⟨gs, ha, hg1, hg2, hg3⟩ => by
      have hi : i < 5 := by
        have := (List.getElem?_eq_some_iff.mp hd).1
        rw [hrl] at this; omega
      obtain ⟨f, b2, f1, f2, f3⟩ := fragment_ok hL (n := j) (by omega) (by omega) hg3
      have f4 : ∀ l, callR (cc L j) 37 [.box 0] ⟨l, b⟩ = .ok (fr f) ⟨l, b2⟩ := fun l => callR_ok f1
      refine ⟨[some (.scr ns), some (.box 0), some (pr cl), x3, x4, x5, x6, some d, x8, x9, x10, x11, x12, x13, x14, x15, x16, x17, x18, x19, x20, none, none, none], [some (.scr ns), some (.box 0), some (pr cl), x3, x4, x5, x6, some d, x8, x9, x10, x11, x12, x13, x14, x15, x16, x17, x18, x19, x20, none, none, none], b2, fr f, by simp [asgT, wipeL], by simp [f4], by simp [wipeL], gs ++ [f], by simp [ha], by simp [hg1], fun q hq => ?_, f3.mono (by omega)⟩
      rcases List.mem_append.mp hq with hq | hq
      · exact hg2 q hq
      · simp at hq; subst hq; exact f2
  rw [hrl] at hl hb
  have hl5 : gs.length ≤ 5 := by omega
  obtain ⟨p1, p2⟩ := allPut_ok (L := L) (n := j) (by omega) hl5 hg
  refine ⟨gs.foldl putR [], b', ?_, ⟨Nat.le_trans p2.l hl5, p2.v, p2.nf, p2.s⟩, hb.mono (by omega)⟩
  simp [b1, e1, p1.r]

theorem g2 {j m : Nat} (hj : 10 ≤ j) (hm : m < 2 ^ 36) {bx : List (List D)} (h : Hd m bx) {fs : List Frg} (hf : Ly 5 fs) : ∃ at_ : Nat, ∃ g b', evS (cc L j) L b2 ⟨[some (.scr ns), some (.box 0), some (pr cl), x3, some (frs fs), x5, x6, x7, x8, x9, x10, x11, x12, x13, x14, x15, x16, x17, x18, x19, x20, none, none, none], bx⟩ = .ok .nx ⟨[some (.scr ns), some (.box 0), some (pr cl), x3, some (frs fs), x5, x6, x7, x8, x9, x10, some (.int (at_ : Nat)), some (shs g), x13, x14, x15, x16, x17, x18, x19, x20, none, none, none], b'⟩ ∧ Gv g ∧ Hd (m + 4) b' := by
  have hl := hf.l
  obtain ⟨r, c1, d1, d2, d3, d4⟩ := draw_r (L := L) (n := j) (by omega) (many := (fs.length : Int) + 1) (by omega) (by omega) (by omega) h
  obtain ⟨g, b', e1, e2, e3⟩ := ground_ok hL (n := j) (by omega) (by omega) d4
  have f4 : ∀ l, callR (cc L j) 43 [.box 0] ⟨l, c1⟩ = .ok (shs g) ⟨l, b'⟩ := fun l => callR_ok e1
  obtain ⟨a, rfl⟩ : ∃ a : Nat, r = a := ⟨r.toNat, by omega⟩
  have ln : lenD (frs fs) = some fs.length := by show some (fs.map fr).length = _; simp
  refine ⟨a, g, b', ?_, e2, e3⟩
  simp [b2, ln, d1, f4]

theorem g3 {j : Nat} (hj : 10 ≤ j) {bx : List (List D)} {fs : List Frg} {at_ : Nat} {g : List Rat} (hf : Ly 5 fs) : evS (cc L j) L b3 ⟨[some (.scr ns), some (.box 0), some (pr cl), x3, some (frs fs), x5, x6, x7, x8, x9, x10, some (.int (at_ : Nat)), some (shs g), x13, x14, x15, x16, x17, x18, x19, x20, none, none, none], bx⟩ = .ok .nx ⟨[some (.scr ns), some (.box 0), some (pr cl), x3, some (frs fs), some (pr (rawR fs)), x6, x7, x8, x9, x10, some (.int (at_ : Nat)), some (shs g), x13, x14, x15, x16, x17, x18, x19, x20, none, none, none], bx⟩ := by
  have t := lsheet_ok hL (n := j) (by omega) hf.l hf.v
  simp [b3, t.r]

theorem g4 {j : Nat} (hj : 10 ≤ j) {bx : List (List D)} {fs : List Frg} {at_ : Nat} {g : List Rat} (hf : Ly 5 fs) : evS (cc L j) L b4 ⟨[some (.scr ns), some (.box 0), some (pr cl), x3, some (frs fs), some (pr (rawR fs)), x6, x7, x8, x9, x10, some (.int (at_ : Nat)), some (shs g), x13, x14, x15, x16, x17, x18, x19, x20, none, none, none], bx⟩ = .ok .nx ⟨[some (.scr ns), some (.box 0), some (pr cl), x3, some (frs fs), some (pr (rawR fs)), x6, x7, x8, x9, x10, some (.int (at_ : Nat)), some (shs g), some (pr (rawR (fs.take at_))), some (pr (rawR (fs.drop at_))), x15, x16, x17, x18, x19, x20, none, none, none], bx⟩ := by
  have h1 := ly_take hf at_
  have h2 := ly_drop hf at_
  have t1 := lsheet_ok hL (n := j) (by omega) h1.l h1.v
  have t2 := lsheet_ok hL (n := j) (by omega) h2.l h2.v
  simp only [b4, es_par, ev_call, ea_cons, ea_nil, ev_slv, eo_nil, eo_prt, ev_var, List.getElem?_cons_zero, List.getElem?_cons_succ, Option.bind_some, id, Option.isSome_some, if_true, Res.bnd_ok, gv_int, prtK_i, cont_mk, ctD_frs, sl_to, sl_fm, Res.opt_some, frs_frz, t1.r, t2.r]
  simp

theorem g5 {j : Nat} (hj : 10 ≤ j) {bx : List (List D)} {fs : List Frg} {at_ : Nat} {g : List Rat} (hf : Ly 5 fs) : evS (cc L j) L b5 ⟨[some (.scr ns), some (.box 0), some (pr cl), x3, some (frs fs), some (pr (rawR fs)), x6, x7, x8, x9, x10, some (.int (at_ : Nat)), some (shs g), some (pr (rawR (fs.take at_))), some (pr (rawR (fs.drop at_))), x15, x16, x17, x18, x19, x20, none, none, none], bx⟩ = .ok .nx ⟨[some (.scr ns), some (.box 0), some (pr cl), x3, some (frs fs), some (pr (rawR fs)), x6, x7, x8, x9, x10, some (.int (at_ : Nat)), some (shs g), some (pr (rawR (fs.take at_))), some (pr (rawR (fs.drop at_))), x15, x16, x17, x18, x19, x20, none, none, none], bx⟩ := by
  have h1 := ly_take hf at_
  have t1 := sheetOf_ok hL (n := j) (by omega) (hf.lay (by omega))
  have t2 := sheetOf_ok hL (n := j) (by omega) (h1.lay (by omega))
  have t3 := is_ok (L := L) 3 _ (pr_pl (rawR fs) (by rw [rawR_len]; decide)) j (by omega)
  have t4 := is_ok (L := L) 3 _ (pr_pl (rawR (fs.take at_)) (by rw [rawR_len]; decide)) j (by omega)
  have sl := sl_to fs at_
  simp [b5, t1.r, t3.r, sl, t2.r, t4.r, -List.map_take]

theorem g6 {j : Nat} (hj : 10 ≤ j) {bx : List (List D)} {fs : List Frg} {at_ : Nat} {g : List Rat} (hf : Ly 5 fs) : evS (cc L j) L b6 ⟨[some (.scr ns), some (.box 0), some (pr cl), x3, some (frs fs), some (pr (rawR fs)), x6, x7, x8, x9, x10, some (.int (at_ : Nat)), some (shs g), some (pr (rawR (fs.take at_))), some (pr (rawR (fs.drop at_))), x15, x16, x17, x18, x19, x20, none, none, none], bx⟩ = .ok .nx ⟨[some (.scr ns), some (.box 0), some (pr cl), x3, some (frs fs), some (pr (rawR fs)), x6, x7, x8, x9, x10, some (.int (at_ : Nat)), some (shs g), some (pr (rawR (fs.take at_))), some (pr (rawR (fs.drop at_))), x15, x16, x17, x18, x19, x20, none, none, none], bx⟩ := by
  have h1 := raw_sv (ly_take hf at_) (by omega)
  have h2 := raw_sv (ly_drop hf at_) (by omega)
  have e : layR (rawR (fs.take at_)) (rawR (fs.drop at_)) = rawR fs := by
    have := raw_app (fs.take at_) _ (fs.drop at_) rfl
    rw [List.take_append_drop] at this
    exact this.symm
  have t1 := laidOver_ok hL (n := j) (by omega) h1 h2
  have t2 := over_ok hL (n := j) (by omega) h1.sc h2.sc h1.sw h2.sw (by rw [h1.l3]; omega)
  rw [e] at t1 t2
  have pl := pr_pl (rawR fs) (by rw [rawR_len]; decide)
  have t3 := is_ok (L := L) 3 _ pl j (by omega)
  have ne := ne_self pl (by omega)
  simp [b6, t1.r, t3.r, t2.r, -opC_ne, ne]

theorem g7 {j : Nat} (hj : 10 ≤ j) {bx : List (List D)} {fs : List Frg} {at_ : Nat} {g : List Rat} (hf : Ly 5 fs) (hg : Gv g) : evS (cc L j) L b7 ⟨[some (.scr ns), some (.box 0), some (pr cl), x3, some (frs fs), some (pr (rawR fs)), x6, x7, x8, x9, x10, some (.int (at_ : Nat)), some (shs g), some (pr (rawR (fs.take at_))), some (pr (rawR (fs.drop at_))), x15, x16, x17, x18, x19, x20, none, none, none], bx⟩ = .ok .nx ⟨[some (.scr ns), some (.box 0), some (pr cl), x3, some (frs fs), some (pr (rawR fs)), x6, x7, x8, x9, x10, some (.int (at_ : Nat)), some (shs g), some (pr (rawR (fs.take at_))), some (pr (rawR (fs.drop at_))), x15, x16, x17, x18, x19, x20, none, none, none], bx⟩ := by
  have t1 := sheetOn_ok hL (n := j) (by omega) (raw_sv hf (by omega)) hg
  have t2 := lseen_ok hL (n := j) (by omega) hf.l hf.v hg
  have hl : (addR (rawR fs).2 (rawR fs).1 g).length ≤ 100 := by simp [addR, rawR_len]; omega
  have t3 := is_ok (L := L) 2 _ (shs_pl _ hl) j (by omega)
  simp [b7, t1.r, t2.r, t3.r]

theorem g8 {j : Nat} (hj : 10 ≤ j) {bx : List (List D)} {fs : List Frg} {at_ : Nat} {g : List Rat} (hf : Ly 5 fs) (hg : Gv g) : evS (cc L j) L b8 ⟨[some (.scr ns), some (.box 0), some (pr cl), x3, some (frs fs), some (pr (rawR fs)), x6, x7, x8, x9, x10, some (.int (at_ : Nat)), some (shs g), some (pr (rawR (fs.take at_))), some (pr (rawR (fs.drop at_))), x15, x16, x17, x18, x19, x20, none, none, none], bx⟩ = .ok .nx ⟨[some (.scr ns), some (.box 0), some (pr cl), x3, some (frs fs), some (pr (rawR fs)), x6, x7, x8, x9, x10, some (.int (at_ : Nat)), some (shs g), some (pr (rawR (fs.take at_))), some (pr (rawR (fs.drop at_))), x15, x16, x17, x18, x19, x20, none, none, none], bx⟩ := by
  have h1 := raw_sv (ly_take hf at_) (by omega)
  have h2 := raw_sv (ly_drop hf at_) (by omega)
  have e : layR (rawR (fs.take at_)) (rawR (fs.drop at_)) = rawR fs := by
    have := raw_app (fs.take at_) _ (fs.drop at_) rfl
    rw [List.take_append_drop] at this
    exact this.symm
  have t0 := seenThrough_ok hL (n := j) (by omega) (hf.lay (by omega)) hg
  have t1 := laidOver_ok hL (n := j) (by omega) h1 h2
  rw [e] at t1
  have t2 := sheetOn_ok hL (n := j) (by omega) (raw_sv hf (by omega)) hg
  have hl : (addR (rawR fs).2 (rawR fs).1 g).length ≤ 100 := by simp [addR, rawR_len]; omega
  have ne := ne_self (shs_pl _ hl) (by omega)
  simp [b8, t0.r, t1.r, t2.r, -opC_ne, ne]

end
end Q.K46
end

section
set_option maxRecDepth 100000
set_option maxHeartbeats 8000000
set_option exponentiation.threshold 70
/-! M46n: one turn of the law, on. -/
namespace Q.K46
open PySem L2 Q

@[simp] theorem blt_lst_pr (s : List Rat × Rat) : bltD .list [pr s] = some (.own [shs s.1, sh s.2]) := rfl
@[simp] theorem okn_pr (s : List Rat × Rat) : isTyOk (pr s) = true := rfl
section
variable {L : Nat} (hL : 2 ^ 9000 ≤ L) {ns : List Int} {x3 x4 x5 x6 x7 x8 x9 x10 x11 x12 x13 x14 x15 x16 x17 x18 x19 x20 : Option D}
theorem g9 {j : Nat} {bx : List (List D)} : evS (cc L j) L b9 ⟨[some (.scr ns), some (.box 0), some (pr cl), x3, x4, x5, x6, x7, x8, x9, x10, x11, x12, x13, x14, x15, x16, x17, x18, x19, x20, none, none, none], bx⟩ = .ok .nx ⟨[some (.scr ns), some (.box 0), some (pr cl), x3, x4, x5, some (.own []), x7, x8, x9, x10, x11, x12, x13, x14, x15, x16, x17, x18, x19, x20, none, none, none], bx⟩ := by
  simp [b9]

def lcP : E := (.lc (.call 31 (.cons (.call 28 (.cons (.var 1) (.cons (.cst (.int 9)) .nil))) (.cons (.bin .add (.cst (.int 1)) (.call 28 (.cons (.var 1) (.cons (.cst (.int 4)) .nil)))) .nil))) (.var 21) (.rng1 (.cst (.int 3))) .nil [21])
include hL
theorem colP {j m : Nat} (hj : 10 ≤ j) (hm : m < 2 ^ 36) {bx : List (List D)} (h : Hd m bx) : ∃ (g : List Rat) (b' : List (List D)), evE (cc L j) lcP ⟨[some (.scr ns), some (.box 0), some (pr cl), x3, x4, x5, x6, x7, x8, x9, x10, x11, x12, x13, x14, x15, x16, x17, x18, x19, x20, none, none, none], bx⟩ = .ok (.own (g.map sh)) ⟨[some (.scr ns), some (.box 0), some (pr cl), x3, x4, x5, x6, x7, x8, x9, x10, x11, x12, x13, x14, x15, x16, x17, x18, x19, x20, none, none, none], b'⟩ ∧ g.length = 3 ∧ (∀ q, q ∈ g → 0 ≤ q) ∧ Szs 20 g ∧ Hd (m + 6) b' := by
  have hr3 : rangeD 0 3 = [.int 0, .int 1, .int 2] := rfl
  have small : ∀ x : Nat, x < 2 ^ 9 → x < 2 ^ 9000 := fun x hx => Nat.lt_of_lt_of_le hx (Nat.pow_le_pow_right (by omega) (by omega))
  obtain ⟨b', ys, e1, g, rfl, hl, hg, hb⟩ := lc_st (c := cc L j) (elt := (.call 31 (.cons (.call 28 (.cons (.var 1) (.cons (.cst (.int 9)) .nil))) (.cons (.bin .add (.cst (.int 1)) (.call 28 (.cons (.var 1) (.cons (.cst (.int 4)) .nil)))) .nil)))) (tg := .var 21) (it := .rng1 (.cst (.int 3))) (own := [21]) (ds := rangeD 0 3) (l := [some (.scr ns), some (.box 0), some (pr cl), x3, x4, x5, x6, x7, x8, x9, x10, x11, x12, x13, x14, x15, x16, x17, x18, x19, x20, none, none, none]) (l1 := [some (.scr ns), some (.box 0), some (pr cl), x3, x4, x5, x6, x7, x8, x9, x10, x11, x12, x13, x14, x15, x16, x17, x18, x19, x20, none, none, none]) (bx := bx) (bx1 := bx)
    (fun i b acc => ∃ g : List Rat, acc = g.map sh ∧ g.length = i ∧ (∀ q, q ∈ g → 0 ≤ q ∧ Sz 20 q) ∧ Hd (m + 2 * i) b) (by simp [rngOk, hr3]) (by decide) (by simp [S.frzs, S.frz]) ⟨[], rfl, rfl, fun q h => (by simp at h), h⟩ fun i d b acc hd ⟨g, ha, hg1, hg2, hg3⟩ => by
      have hi : i < 3 := by
        have := (List.getElem?_eq_some_iff.mp hd).1
        rw [hr3] at this; simpa using this
      obtain ⟨r, b2, d1, d2, d3, d4⟩ := draw_r (L := L) (n := j) (by omega) (many := 9) (by omega) (by omega) (by omega) hg3
      obtain ⟨s, b3, f1, f2, f3, f4⟩ := draw_r (L := L) (n := j) (by omega) (many := 4) (by omega) (by omega) (by omega) d4
      obtain ⟨t, ht⟩ : ∃ t : Nat, 1 + s = t := ⟨(1 + s).toNat, by omega⟩
      have t0 : t ≠ 0 := by omega
      have hlo := low_ok hL (n := j) (by omega) r t t0 (small _ (by omega)) (small _ (by omega))
      refine ⟨[some (.scr ns), some (.box 0), some (pr cl), x3, x4, x5, x6, x7, x8, x9, x10, x11, x12, x13, x14, x15, x16, x17, x18, x19, x20, some d, none, none], [some (.scr ns), some (.box 0), some (pr cl), x3, x4, x5, x6, x7, x8, x9, x10, x11, x12, x13, x14, x15, x16, x17, x18, x19, x20, some d, none, none], b3, sh (Rat.normalize r t t0), by simp [asgT, wipeL], ?_, by simp [wipeL], g ++ [Rat.normalize r t t0], by simp [ha], by simp [hg1], fun q hq => ?_, f4.mono (by omega)⟩
      · have hlo' := hlo.r [some (.scr ns), some (.box 0), some (pr cl), x3, x4, x5, x6, x7, x8, x9, x10, x11, x12, x13, x14, x15, x16, x17, x18, x19, x20, some d, none, none] b3
        simp [d1, f1, ht, hlo']
      · rcases List.mem_append.mp hq with hq | hq
        · exact hg2 q hq
        · simp at hq; subst hq
          exact ⟨norm_nn t0 d2, norm_sz t0 (by omega) (by omega)⟩
  refine ⟨g, b', e1, by rw [hl]; rfl, fun q hq => (hg q hq).1, fun q hq => (hg q hq).2, ?_⟩
  rw [hr3] at hb
  exact hb

def bP : St := (.seq (.asv 15 (.blt .tuple (.cons lcP .nil))) (.seq (.ex (.mut .append 6 (.cons (.tup (.cons (.var 15) (.cons (.call 31 (.cons (.call 28 (.cons (.var 1) (.cons (.cst (.int 5)) .nil))) (.cons (.cst (.int 4)) .nil))) .nil))) .nil))) .nil))
omit hL in
theorem b10_eq : b10 = .for (.var 7) (.rng1 (.cst (.int 3))) bP := rfl
theorem g10 {j m : Nat} (hj : 10 ≤ j) (hm : m < 2 ^ 35) {bx : List (List D)} (h : Hd m bx) : ∃ s1 s2 s3 y7 y15 b', evS (cc L j) L b10 ⟨[some (.scr ns), some (.box 0), some (pr cl), x3, x4, x5, some (.own []), x7, x8, x9, x10, x11, x12, x13, x14, x15, x16, x17, x18, x19, x20, none, none, none], bx⟩ = .ok .nx ⟨[some (.scr ns), some (.box 0), some (pr cl), x3, x4, x5, some (.own ([s1, s2, s3].map pr)), y7, x8, x9, x10, x11, x12, x13, x14, y15, x16, x17, x18, x19, x20, none, none, none], b'⟩ ∧ Ss s1 ∧ Ss s2 ∧ Ss s3 ∧ (∃ k : Int, y7 = some (.int k)) ∧ Hd (m + 21) b' := by
  have hr3 : rangeD 0 3 = [.int 0, .int 1, .int 2] := rfl
  have small : ∀ x : Nat, x < 2 ^ 9 → x < 2 ^ 9000 := fun x hx => Nat.lt_of_lt_of_le hx (Nat.pow_le_pow_right (by omega) (by omega))
  obtain ⟨s', e1, os, y7, y15, b', rfl, hl, hs, hb, h7⟩ := for_st (f := forT (cc L j) L (.var 7) bP) (ds := rangeD 0 3) (s := ⟨[some (.scr ns), some (.box 0), some (pr cl), x3, x4, x5, some (.own (([] : List (List Rat × Rat)).map pr)), x7, x8, x9, x10, x11, x12, x13, x14, x15, x16, x17, x18, x19, x20, none, none, none], bx⟩)
    (fun i s => ∃ (os : List (List Rat × Rat)) (y7 y15 : Option D) (b' : List (List D)), s = ⟨[some (.scr ns), some (.box 0), some (pr cl), x3, x4, x5, some (.own (os.map pr)), y7, x8, x9, x10, x11, x12, x13, x14, y15, x16, x17, x18, x19, x20, none, none, none], b'⟩ ∧ os.length = i ∧ (∀ s, s ∈ os → Ss s) ∧ Hd (m + 7 * i) b' ∧ (i = 0 ∨ ∃ k : Int, y7 = some (.int k))) ⟨[], x7, x15, bx, rfl, rfl, fun s h => (by simp at h), h, .inl rfl⟩ fun i d s hd hp => by
      obtain ⟨os, y7, y15, b, rfl, hl, hs, hb, h7⟩ := hp
      have hi : i < 3 := by
        have := (List.getElem?_eq_some_iff.mp hd).1
        rw [hr3] at this; simpa using this
      have hd' : d = .int (i : Int) := by
        rw [hr3] at hd
        match i, hi, hd with
        | 0, _, hd => simpa using hd.symm
        | 1, _, hd => simpa using hd.symm
        | 2, _, hd => simpa using hd.symm
      subst hd'
      obtain ⟨g, b1, e1, g1, g2, g3, g4⟩ := colP hL (ns := ns) (x3 := x3) (x4 := x4) (x5 := x5) (x6 := some (.own (os.map pr))) (x7 := some (.int (i : Int))) (x8 := x8) (x9 := x9) (x10 := x10) (x11 := x11) (x12 := x12) (x13 := x13) (x14 := x14) (x15 := y15) (x16 := x16) (x17 := x17) (x18 := x18) (x19 := x19) (x20 := x20) hj (by omega) hb
      obtain ⟨r, b2, d1, d2, d3, d4⟩ := draw_r (L := L) (n := j) (by omega) (many := 5) (by omega) (by omega) (by omega) g4
      have n4 : (4 : Nat) ≠ 0 := by decide
      have hlo := low_ok hL (n := j) (by omega) r 4 n4 (small _ (by omega)) (small _ (by omega))
      have hlo' := hlo.r [some (.scr ns), some (.box 0), some (pr cl), x3, x4, x5, some (.own (os.map pr)), some (.int (i : Int)), x8, x9, x10, x11, x12, x13, x14, some (shs g), x16, x17, x18, x19, x20, none, none, none] b2
      simp at hlo'
      have hsh : D.tup (g.map sh) = shs g := rfl
      have hpr : D.tup [shs g, sh (Rat.normalize r 4 n4)] = pr (g, Rat.normalize r 4 n4) := rfl
      refine ⟨⟨[some (.scr ns), some (.box 0), some (pr cl), x3, x4, x5, some (.own ((os ++ [(g, Rat.normalize r 4 n4)]).map pr)), some (.int (i : Int)), x8, x9, x10, x11, x12, x13, x14, some (shs g), x16, x17, x18, x19, x20, none, none, none], b2⟩, .inl ?_, os ++ [(g, Rat.normalize r 4 n4)], some (.int (i : Int)), some (shs g), b2, by simp, by simp [hl], fun s hsm => ?_, d4.mono (by omega), .inr ⟨i, rfl⟩⟩
      · have hlen : os.length < 16777216 := by omega
        simp [forT, asgT, bP, ownL, e1, hsh, d1, hlo', hpr, mutD, hlen]
      · rcases List.mem_append.mp hsm with hsm | hsm
        · exact hs s hsm
        · simp at hsm; subst hsm
          exact ⟨g1, g2, norm_in1 n4 d2 (by omega), g3, norm_sz n4 (by omega) (by omega)⟩
  have hl3 : os.length = 3 := by rw [hl]; rfl
  obtain ⟨s1, s2, s3, rfl⟩ : ∃ a b c, os = [a, b, c] := by
    match os, hl3 with
    | [a, b, c], _ => exact ⟨a, b, c, rfl⟩
  refine ⟨s1, s2, s3, y7, y15, b', ?_, hs s1 (by simp), hs s2 (by simp), hs s3 (by simp), h7.resolve_left (by decide), hb⟩
  have hrg : rngOk 0 3 = true := rfl
  simp only [List.map_nil] at e1
  rw [b10_eq]
  simp [hrg, e1]

omit hL in
theorem g11 {j : Nat} {bx : List (List D)} {s1 s2 s3 : List Rat × Rat} : evS (cc L j) L b11 ⟨[some (.scr ns), some (.box 0), some (pr cl), x3, x4, x5, some (.own ([s1, s2, s3].map pr)), x7, x8, x9, x10, x11, x12, x13, x14, x15, x16, x17, x18, x19, x20, none, none, none], bx⟩ = .ok .nx ⟨[some (.scr ns), some (.box 0), some (pr cl), x3, x4, x5, some (.lst ([s1, s2, s3].map pr)), x7, x8, x9, x10, x11, x12, x13, x14, x15, some (pr s1), some (pr s2), some (pr s3), x19, x20, none, none, none], bx⟩ := by
  simp [b11, asgT, asgT.asgTs]

theorem g12 {j : Nat} (hj : 10 ≤ j) {bx : List (List D)} {s1 s2 s3 : List Rat × Rat} (h1 : Ss s1) (h2 : Ss s2) (h3 : Ss s3) : evS (cc L j) L b12 ⟨[some (.scr ns), some (.box 0), some (pr cl), x3, x4, x5, x6, x7, x8, x9, x10, x11, x12, x13, x14, x15, some (pr s1), some (pr s2), some (pr s3), x19, x20, none, none, none], bx⟩ = .ok .nx ⟨[some (.scr ns), some (.box 0), some (pr cl), x3, x4, x5, x6, x7, x8, x9, x10, x11, x12, x13, x14, x15, some (pr s1), some (pr s2), some (pr s3), some (pr (layR (layR s1 s2) s3)), some (pr (layR (layR s1 s2) s3)), none, none, none], bx⟩ := by
  have t1 := laidOver_ok hL (n := j) (by omega) h1.sv h2.sv
  have t2 := laidOver_ok hL (n := j) (by omega) (ss_lay h1 h2) h3.sv
  have t3 := laidOver_ok hL (n := j) (by omega) h2.sv h3.sv
  have t4 := laidOver_ok hL (n := j) (by omega) h1.sv (ss_lay h2 h3)
  rw [← lay_assoc _ _ _ h1.l3 h2.l3 h3.l3] at t4
  simp [b12, t1.r, t2.r, t3.r, t4.r]
theorem g13 {j : Nat} (hj : 10 ≤ j) {bx : List (List D)} {s1 s2 s3 : List Rat × Rat} (h1 : Ss s1) (h2 : Ss s2) (h3 : Ss s3) : evS (cc L j) L b13 ⟨[some (.scr ns), some (.box 0), some (pr cl), x3, x4, x5, x6, x7, x8, x9, x10, x11, x12, x13, x14, x15, some (pr s1), some (pr s2), some (pr s3), some (pr (layR (layR s1 s2) s3)), some (pr (layR (layR s1 s2) s3)), none, none, none], bx⟩ = .ok .nx ⟨[some (.scr ns), some (.box 0), some (pr cl), x3, x4, x5, x6, x7, x8, x9, x10, x11, x12, x13, x14, x15, some (pr s1), some (pr s2), some (pr s3), some (pr (layR (layR s1 s2) s3)), some (pr (layR (layR s1 s2) s3)), none, none, none], bx⟩ := by
  have v := ss_lay h1 h2
  have t1 := over_ok hL (n := j) (by omega) h1.sv.sc h2.sv.sc h1.sv.sw h2.sv.sw (by rw [h1.l3]; omega)
  have t2 := over_ok hL (n := j) (by omega) v.sc h3.sv.sc v.sw h3.sv.sw (by rw [v.l3]; omega)
  have pl := pr_pl (layR (layR s1 s2) s3) (by rw [lay_len v.l3 h3.l3]; decide)
  have t3 := is_ok (L := L) 3 _ pl j (by omega)
  have ne := ne_self pl (by omega)
  simp [b13, t1.r, t2.r, t3.r, -opC_ne, ne]
theorem g14 {j : Nat} (hj : 10 ≤ j) {bx : List (List D)} {s1 s2 s3 : List Rat × Rat} (h1 : Ss s1) : evS (cc L j) L b14 ⟨[some (.scr ns), some (.box 0), some (pr cl), x3, x4, x5, x6, x7, x8, x9, x10, x11, x12, x13, x14, x15, some (pr s1), some (pr s2), some (pr s3), some (pr (layR (layR s1 s2) s3)), some (pr (layR (layR s1 s2) s3)), none, none, none], bx⟩ = .ok .nx ⟨[some (.scr ns), some (.box 0), some (pr cl), x3, x4, x5, x6, x7, x8, x9, x10, x11, x12, x13, x14, x15, some (pr s1), some (pr s2), some (pr s3), some (pr (layR (layR s1 s2) s3)), some (pr (layR (layR s1 s2) s3)), none, none, none], bx⟩ := by
  have t1 := laidOver_ok hL (n := j) (by omega) h1.sv ss_clear.sv
  have t2 := laidOver_ok hL (n := j) (by omega) ss_clear.sv h1.sv
  rw [(lay_clear s1 h1.l3).1] at t1
  rw [(lay_clear s1 h1.l3).2] at t2
  have ne := ne_self (pr_pl s1 (by rw [h1.l3]; decide)) (by omega)
  have t1' : Pu L j 25 [pr s1, pr cl] (pr s1) := t1
  have t2' : Pu L j 25 [pr cl, pr s1] (pr s1) := t2
  simp [b14, t1'.r, t2'.r, -opC_ne, ne]

theorem g15 {j : Nat} (hj : 10 ≤ j) {bx : List (List D)} {s1 : List Rat × Rat} {g : List Rat} (h1 : Ss s1) (hg : Gv g) : evS (cc L j) L b15 ⟨[some (.scr ns), some (.box 0), some (pr cl), x3, x4, x5, x6, x7, x8, x9, x10, x11, some (shs g), x13, x14, x15, some (pr s1), x17, x18, x19, x20, none, none, none], bx⟩ = .ok .nx ⟨[some (.scr ns), some (.box 0), some (pr cl), x3, x4, x5, x6, x7, some (shs (addR s1.2 s1.1 g)), x9, x10, x11, some (shs g), x13, x14, x15, some (pr s1), x17, x18, x19, x20, none, none, none], bx⟩ := by
  have hlc : evE (cc L j) (.lc (.call 32 (.cons (.var 22) (.cons (.call 34 (.cons (.ixv 16 (.cst (.int 1))) (.cons (.var 23) .nil))) .nil))) (.tup (.cons (.var 22) (.cons (.var 23) .nil))) (.zip (.ixv 16 (.cst (.int 0))) (.var 12)) .nil [22, 23]) ⟨[some (.scr ns), some (.box 0), some (pr cl), x3, x4, x5, x6, x7, x8, x9, x10, x11, some (shs g), x13, x14, x15, some (pr s1), x17, x18, x19, x20, none, none, none], bx⟩ = .ok (.own ((s1.1.zip g).map fun p => sh (p.1 + s1.2 * p.2))) ⟨[some (.scr ns), some (.box 0), some (pr cl), x3, x4, x5, x6, x7, x8, x9, x10, x11, some (shs g), x13, x14, x15, some (pr s1), x17, x18, x19, x20, none, none, none], bx⟩ :=
    lc_mapA (s1.1.zip g) (fun p => .tup [sh p.1, sh p.2]) (fun p => sh (p.1 + s1.2 * p.2)) (by simp; unfold shs; simp [zipD_map]) (by rw [List.length_zip, h1.l3]; show min _ _ ≤ 16777216; omega) (by simp [S.frzs, S.frz]) fun p hp => by
      have t1 := ltimes_ok hL (n := j) (by omega) h1.sw (hg.sz _ (List.of_mem_zip hp).2) (by omega)
      have t2 := lplus_ok hL (n := j) (by omega) (h1.sc _ (List.of_mem_zip hp).1) (sz_mul h1.sw (hg.sz _ (List.of_mem_zip hp).2)) (by omega)
      exact ⟨[some (.scr ns), some (.box 0), some (pr cl), x3, x4, x5, x6, x7, x8, x9, x10, x11, some (shs g), x13, x14, x15, some (pr s1), x17, x18, x19, x20, none, some (sh p.1), some (sh p.2)], [some (.scr ns), some (.box 0), some (pr cl), x3, x4, x5, x6, x7, x8, x9, x10, x11, some (shs g), x13, x14, x15, some (pr s1), x17, x18, x19, x20, none, some (sh p.1), some (sh p.2)], sh (p.1 + s1.2 * p.2), by simp [asgT, asgT.asgTs, wipeL], by simp [t1.r, t2.r], rfl, by simp [wipeL]⟩
  have hsh : D.tup ((s1.1.zip g).map fun p => sh (p.1 + s1.2 * p.2)) = shs (addR s1.2 s1.1 g) := by simp [shs, addR, Function.comp_def]
  simp [b15, hlc, hsh]
theorem g16 {j : Nat} (hj : 10 ≤ j) {bx : List (List D)} {s1 : List Rat × Rat} {g : List Rat} (h1 : Ss s1) (hg : Gv g) : evS (cc L j) L b16 ⟨[some (.scr ns), some (.box 0), some (pr cl), x3, x4, x5, x6, x7, some (shs (addR s1.2 s1.1 g)), x9, x10, x11, some (shs g), x13, x14, x15, some (pr s1), x17, x18, x19, x20, none, none, none], bx⟩ = .ok .nx ⟨[some (.scr ns), some (.box 0), some (pr cl), x3, x4, x5, x6, x7, some (shs (addR s1.2 s1.1 g)), x9, x10, x11, some (shs g), x13, x14, x15, some (pr s1), x17, x18, x19, x20, none, none, none], bx⟩ := by
  have t1 := sheetOn_ok hL (n := j) (by omega) h1.sv hg
  have hl : (addR s1.2 s1.1 g).length ≤ 100 := by simp [addR, h1.l3]; omega
  have t3 := is_ok (L := L) 2 _ (shs_pl _ hl) j (by omega)
  simp [b16, t1.r, t3.r]

def T6 (a b c w : Rat) : List D := [pr ([a, b, c], w), .lst [shs [a, b, c], sh w], .tup [shs [a, b, c]], .tup [shs [a, b], sh w], .tup [shs [a, b, c], .tup [.int 5, .int 4]], .tup [shs [a, b, c], .tup [.int (-1), .int 4]]]
def T7 (a b c : Rat) : D := .tup [shs [a, b, c], .tup [.int 2, .int 4]]
def T11 (b c w : Rat) : List D := [.tup [.tup [.tup [.int (-1), .int 1], sh b, sh c], sh w], .tup [.tup [.tup [.bl true, .int 1], sh b, sh c], sh w], pr cl, .non]
omit hL in
theorem gd_all {a b c w : Rat} (h : Ss ([a, b, c], w)) : Gds (T6 a b c w ++ [T7 a b c] ++ T11 b c w) := by
  have ga := sh_gd (h.sc a (by simp)) (by omega)
  have gb := sh_gd (h.sc b (by simp)) (by omega)
  have gc := sh_gd (h.sc c (by simp)) (by omega)
  have gw := sh_gd h.sw (by omega)
  have i1 : Gd (.int 1) := gd_i (by decide)
  have i2 : Gd (.int 2) := gd_i (by decide)
  have i4 : Gd (.int 4) := gd_i (by decide)
  have i5 : Gd (.int 5) := gd_i (by decide)
  have im : Gd (.int (-1)) := gd_i (by decide)
  have two : ∀ {x y : D}, Gd x → Gd y → Gd (.tup [x, y]) := fun hx hy => gd_tp (Gds.of fun d hd => by simp at hd; rcases hd with rfl | rfl <;> assumption)
  have cabc : Gd (shs [a, b, c]) := gd_tp (Gds.of fun d hd => by simp at hd; rcases hd with rfl | rfl | rfl <;> assumption)
  have cab : Gd (shs [a, b]) := gd_tp (Gds.of fun d hd => by simp at hd; rcases hd with rfl | rfl <;> assumption)
  have thr : ∀ {x : D}, Gd x → Gd (.tup [x, sh b, sh c]) := fun hx => gd_tp (Gds.of fun d hd => by simp at hd; rcases hd with rfl | rfl | rfl <;> assumption)
  refine Gds.of fun d hd => ?_
  simp only [T6, T7, T11, List.cons_append, List.nil_append, List.mem_cons, List.not_mem_nil, or_false] at hd
  rcases hd with rfl | rfl | rfl | rfl | rfl | rfl | rfl | rfl | rfl | rfl | rfl
  · exact two cabc gw
  · exact gd_ls (Gds.of fun d hd => by simp at hd; rcases hd with rfl | rfl <;> assumption)
  · exact gd_tp (Gds.of fun d hd => by simp at hd; subst hd; exact cabc)
  · exact two cab gw
  · exact two cabc (two i5 i4)
  · exact two cabc (two im i4)
  · exact two cabc (two i2 i4)
  · exact two (thr (two im i1)) gw
  · exact two (thr (two (gd_bl true) i1)) gw
  · exact ss_clear.sv.gd
  · exact gd_non
omit hL in
theorem g17 {j : Nat} {bx : List (List D)} {a b c w : Rat} : evS (cc L j) L b17 ⟨[some (.scr ns), some (.box 0), some (pr cl), x3, x4, x5, x6, x7, x8, x9, x10, x11, x12, x13, x14, x15, some (pr ([a, b, c], w)), x17, x18, x19, x20, none, none, none], bx⟩ = .ok .nx ⟨[some (.scr ns), some (.box 0), some (pr cl), x3, x4, x5, x6, x7, x8, some (.own (T6 a b c w)), x10, x11, x12, x13, x14, x15, some (pr ([a, b, c], w)), x17, x18, x19, x20, none, none, none], bx⟩ := by
  have s2 : slD (shs [a, b, c]) none (some 2) = some (shs [a, b]) := rfl
  simp [b17, s2, T6]
omit hL in
theorem g18 {j : Nat} {bx : List (List D)} {a b c w : Rat} : evS (cc L j) L b18 ⟨[some (.scr ns), some (.box 0), some (pr cl), x3, x4, x5, x6, x7, x8, some (.own (T6 a b c w)), x10, x11, x12, x13, x14, x15, some (pr ([a, b, c], w)), x17, x18, x19, x20, none, none, none], bx⟩ = .ok .nx ⟨[some (.scr ns), some (.box 0), some (pr cl), x3, x4, x5, x6, x7, x8, some (.own (T6 a b c w ++ [T7 a b c])), x10, x11, x12, x13, x14, x15, some (pr ([a, b, c], w)), x17, x18, x19, x20, none, none, none], bx⟩ := by
  simp [b18, ownL, mutD, T6, T7]
omit hL in
theorem g19 {j : Nat} {bx : List (List D)} {a b c w : Rat} : evS (cc L j) L b19 ⟨[some (.scr ns), some (.box 0), some (pr cl), x3, x4, x5, x6, x7, x8, some (.own (T6 a b c w ++ [T7 a b c])), x10, x11, x12, x13, x14, x15, some (pr ([a, b, c], w)), x17, x18, x19, x20, none, none, none], bx⟩ = .ok .nx ⟨[some (.scr ns), some (.box 0), some (pr cl), x3, x4, x5, x6, x7, x8, some (.own (T6 a b c w ++ [T7 a b c] ++ T11 b c w)), x10, x11, x12, x13, x14, x15, some (pr ([a, b, c], w)), x17, x18, x19, x20, none, none, none], bx⟩ := by
  have s2 : slD (shs [a, b, c]) (some 1) none = some (shs [b, c]) := rfl
  have a1 : opB .add (.tup [.tup [.int (-1), .int 1]]) (shs [b, c]) = some (.tup [.tup [.int (-1), .int 1], sh b, sh c]) := rfl
  have a2 : opB .add (.tup [.tup [.bl true, .int 1]]) (shs [b, c]) = some (.tup [.tup [.bl true, .int 1], sh b, sh c]) := rfl
  simp [b19, s2, a1, a2, T6, T7, T11]

theorem g20 {j m : Nat} (hj : 10 ≤ j) (hm : m < 2 ^ 35) {bx : List (List D)} (h : Hd m bx) {T : List D} (hT : Gds T) (hl : T.length < 100) : ∃ y10 b', evS (cc L j) L b20 ⟨[some (.scr ns), some (.box 0), some (pr cl), x3, x4, x5, x6, x7, x8, some (.own T), x10, x11, x12, x13, x14, x15, x16, x17, x18, x19, x20, none, none, none], bx⟩ = .ok .nx ⟨[some (.scr ns), some (.box 0), some (pr cl), x3, x4, x5, x6, x7, x8, some (.lst T), y10, x11, x12, x13, x14, x15, x16, x17, x18, x19, x20, none, none, none], b'⟩ ∧ Hd (m + 41) b' := by
  obtain ⟨d0, b', c1, c2, c3⟩ := odd_ok (L := L) (n := j) (by omega) (by omega) h
  have r0 : ∀ l, callR (cc L j) 45 [.box 0] ⟨l, bx⟩ = .ok d0 ⟨l, b'⟩ := fun l => callR_ok c1
  have f0 : d0.frz = d0 := frz_of (gd_own c2)
  obtain ⟨s', e1, y10, rfl⟩ := for_st (f := forT (cc L j) L (.var 10) (.seq (.ite (.not (.tru (.call 46 (.cons (.call 22 (.cons (.var 10) .nil)) (.cons (.call 49 (.cons (.var 10) .nil)) .nil))))) (.seq (.ret (.cst (.bl false))) .nil) .nil) .nil)) (ds := T ++ [d0]) (s := ⟨[some (.scr ns), some (.box 0), some (pr cl), x3, x4, x5, x6, x7, x8, some (.lst T), x10, x11, x12, x13, x14, x15, x16, x17, x18, x19, x20, none, none, none], b'⟩) (fun i s => ∃ y10, s = ⟨[some (.scr ns), some (.box 0), some (pr cl), x3, x4, x5, x6, x7, x8, some (.lst T), y10, x11, x12, x13, x14, x15, x16, x17, x18, x19, x20, none, none, none], b'⟩) ⟨x10, rfl⟩ fun i d s hd hp => by
    obtain ⟨y10, rfl⟩ := hp
    have gd : Gd d := by
      rcases List.mem_append.mp (List.mem_of_getElem? hd) with hd | hd
      · exact hT.mem hd
      · simp at hd; subst hd; exact c2
    have t1 := isSheet_ok hL (n := j) (by omega) gd
    have t2 := lookSheet_ok hL (n := j) (by omega) gd
    have t3 := is_ok (L := L) 0 (.bl (isSheetD d)) True.intro j (by omega)
    have fd : d.frz = d := frz_of (gd_own gd)
    refine ⟨⟨[some (.scr ns), some (.box 0), some (pr cl), x3, x4, x5, x6, x7, x8, some (.lst T), some d, x11, x12, x13, x14, x15, x16, x17, x18, x19, x20, none, none, none], b'⟩, .inl ?_, some d, rfl⟩
    simp [forT, asgT, gv_d _ _ _ (gd_own gd), fd, t1.r, t2.r, t3.r]
  refine ⟨y10, b', ?_, c3⟩
  have hl' : T.length + 1 ≤ 16777216 := by omega
  simp [b20, r0, f0, hl', e1]
end
end Q.K46
end

section
set_option maxRecDepth 100000
set_option maxHeartbeats 8000000
set_option exponentiation.threshold 70
/-! M46o: one turn whole, the law whole. -/
namespace Q.K46
open PySem L2 Q

theorem seq_of {c : Env} {L : Nat} {x y : St} {l l1 : List (Option D)} {b b1 : List (List D)} {R : Res Flow} (h1 : evS c L x ⟨l, b⟩ = .ok .nx ⟨l1, b1⟩) (h2 : evS c L y ⟨l1, b1⟩ = R) : evS c L (.seq x y) ⟨l, b⟩ = R := by
  rw [es_seq, h1, Res.bnd_ok, seqK_nx, h2]
section
variable {L : Nat} (hL : 2 ^ 9000 ≤ L) {ns : List Int} {x3 x4 x5 x6 x7 x8 x9 x10 x11 x12 x13 x14 x15 x16 x17 x18 x19 x20 : Option D}
include hL

theorem turn_ok {j m : Nat} (hj : 10 ≤ j) (hm : m < 2 ^ 34) {bx : List (List D)} (h : Hd m bx) (h7 : x7 = none ∨ ∃ k : Int, x7 = some (.int k)) : ∃ (y4 y5 y6 y7 y8 y9 y10 y11 y12 y13 y14 y15 y16 y17 y18 y19 y20 : Option D) (b' : List (List D)), evS (cc L j) L turnB ⟨[some (.scr ns), some (.box 0), some (pr cl), x3, x4, x5, x6, x7, x8, x9, x10, x11, x12, x13, x14, x15, x16, x17, x18, x19, x20, none, none, none], bx⟩ = .ok .nx ⟨[some (.scr ns), some (.box 0), some (pr cl), x3, y4, y5, y6, y7, y8, y9, y10, y11, y12, y13, y14, y15, y16, y17, y18, y19, y20, none, none, none], b'⟩ ∧ (y7 = none ∨ ∃ k : Int, y7 = some (.int k)) ∧ Hd (m + 120) b' := by
  obtain ⟨fs, b1, e1, hf, k1⟩ := g1 hL (ns := ns) (x3 := x3) (x4 := x4) (x5 := x5) (x6 := x6) (x8 := x8) (x9 := x9) (x10 := x10) (x11 := x11) (x12 := x12) (x13 := x13) (x14 := x14) (x15 := x15) (x16 := x16) (x17 := x17) (x18 := x18) (x19 := x19) (x20 := x20) hj (by omega) h h7
  obtain ⟨at_, g, b2, e2, hg, k2⟩ := g2 hL (ns := ns) (x3 := x3) (x5 := x5) (x6 := x6) (x7 := x7) (x8 := x8) (x9 := x9) (x10 := x10) (x11 := x11) (x12 := x12) (x13 := x13) (x14 := x14) (x15 := x15) (x16 := x16) (x17 := x17) (x18 := x18) (x19 := x19) (x20 := x20) hj (by omega) k1 hf
  have e3 := g3 hL (ns := ns) (x3 := x3) (x5 := x5) (x6 := x6) (x7 := x7) (x8 := x8) (x9 := x9) (x10 := x10) (x13 := x13) (x14 := x14) (x15 := x15) (x16 := x16) (x17 := x17) (x18 := x18) (x19 := x19) (x20 := x20) hj (bx := b2) (at_ := at_) (g := g) hf
  have e4 := g4 hL (ns := ns) (x3 := x3) (x6 := x6) (x7 := x7) (x8 := x8) (x9 := x9) (x10 := x10) (x13 := x13) (x14 := x14) (x15 := x15) (x16 := x16) (x17 := x17) (x18 := x18) (x19 := x19) (x20 := x20) hj (bx := b2) (at_ := at_) (g := g) hf
  have e5 := g5 hL (ns := ns) (x3 := x3) (x6 := x6) (x7 := x7) (x8 := x8) (x9 := x9) (x10 := x10) (x15 := x15) (x16 := x16) (x17 := x17) (x18 := x18) (x19 := x19) (x20 := x20) hj (bx := b2) (at_ := at_) (g := g) hf
  have e6 := g6 hL (ns := ns) (x3 := x3) (x6 := x6) (x7 := x7) (x8 := x8) (x9 := x9) (x10 := x10) (x15 := x15) (x16 := x16) (x17 := x17) (x18 := x18) (x19 := x19) (x20 := x20) hj (bx := b2) (at_ := at_) (g := g) hf
  have e7 := g7 hL (ns := ns) (x3 := x3) (x6 := x6) (x7 := x7) (x8 := x8) (x9 := x9) (x10 := x10) (x15 := x15) (x16 := x16) (x17 := x17) (x18 := x18) (x19 := x19) (x20 := x20) hj (bx := b2) (at_ := at_) (g := g) hf hg
  have e8 := g8 hL (ns := ns) (x3 := x3) (x6 := x6) (x7 := x7) (x8 := x8) (x9 := x9) (x10 := x10) (x15 := x15) (x16 := x16) (x17 := x17) (x18 := x18) (x19 := x19) (x20 := x20) hj (bx := b2) (at_ := at_) (g := g) hf hg
  have e9 := g9 (L := L) (j := j) (ns := ns) (x3 := x3) (x4 := some (frs fs)) (x5 := some (pr (rawR fs))) (x6 := x6) (x7 := x7) (x8 := x8) (x9 := x9) (x10 := x10) (x11 := some (.int (at_ : Nat))) (x12 := some (shs g)) (x13 := some (pr (rawR (fs.take at_)))) (x14 := some (pr (rawR (fs.drop at_)))) (x15 := x15) (x16 := x16) (x17 := x17) (x18 := x18) (x19 := x19) (x20 := x20) (bx := b2)
  obtain ⟨s1, s2, s3, y7, y15, b3, e10, q1, q2, q3, q7, k3⟩ := g10 hL (ns := ns) (x3 := x3) (x4 := some (frs fs)) (x5 := some (pr (rawR fs))) (x7 := x7) (x8 := x8) (x9 := x9) (x10 := x10) (x11 := some (.int (at_ : Nat))) (x12 := some (shs g)) (x13 := some (pr (rawR (fs.take at_)))) (x14 := some (pr (rawR (fs.drop at_)))) (x15 := x15) (x16 := x16) (x17 := x17) (x18 := x18) (x19 := x19) (x20 := x20) hj (by omega) k2
  obtain ⟨⟨cs, w⟩, hs1⟩ : ∃ t : List Rat × Rat, s1 = t := ⟨s1, rfl⟩
  subst hs1
  obtain ⟨a, b, c, habc⟩ := three q1.l3
  have habc' : cs = [a, b, c] := habc
  subst habc'
  have e11 := g11 (L := L) (j := j) (ns := ns) (x3 := x3) (x4 := some (frs fs)) (x5 := some (pr (rawR fs))) (x7 := y7) (x8 := x8) (x9 := x9) (x10 := x10) (x11 := some (.int (at_ : Nat))) (x12 := some (shs g)) (x13 := some (pr (rawR (fs.take at_)))) (x14 := some (pr (rawR (fs.drop at_)))) (x15 := y15) (x16 := x16) (x17 := x17) (x18 := x18) (x19 := x19) (x20 := x20) (bx := b3) (s1 := ([a, b, c], w)) (s2 := s2) (s3 := s3)
  have e12 := g12 hL (ns := ns) (x3 := x3) (x4 := some (frs fs)) (x5 := some (pr (rawR fs))) (x6 := some (.lst ([([a, b, c], w), s2, s3].map pr))) (x7 := y7) (x8 := x8) (x9 := x9) (x10 := x10) (x11 := some (.int (at_ : Nat))) (x12 := some (shs g)) (x13 := some (pr (rawR (fs.take at_)))) (x14 := some (pr (rawR (fs.drop at_)))) (x15 := y15) (x19 := x19) (x20 := x20) hj (bx := b3) q1 q2 q3
  have e13 := g13 hL (ns := ns) (x3 := x3) (x4 := some (frs fs)) (x5 := some (pr (rawR fs))) (x6 := some (.lst ([([a, b, c], w), s2, s3].map pr))) (x7 := y7) (x8 := x8) (x9 := x9) (x10 := x10) (x11 := some (.int (at_ : Nat))) (x12 := some (shs g)) (x13 := some (pr (rawR (fs.take at_)))) (x14 := some (pr (rawR (fs.drop at_)))) (x15 := y15) hj (bx := b3) q1 q2 q3
  have e14 := g14 hL (ns := ns) (x3 := x3) (x4 := some (frs fs)) (x5 := some (pr (rawR fs))) (x6 := some (.lst ([([a, b, c], w), s2, s3].map pr))) (x7 := y7) (x8 := x8) (x9 := x9) (x10 := x10) (x11 := some (.int (at_ : Nat))) (x12 := some (shs g)) (x13 := some (pr (rawR (fs.take at_)))) (x14 := some (pr (rawR (fs.drop at_)))) (x15 := y15) hj (bx := b3) (s2 := s2) (s3 := s3) q1
  have e15 := g15 hL (ns := ns) (x3 := x3) (x4 := some (frs fs)) (x5 := some (pr (rawR fs))) (x6 := some (.lst ([([a, b, c], w), s2, s3].map pr))) (x7 := y7) (x8 := x8) (x9 := x9) (x10 := x10) (x11 := some (.int (at_ : Nat))) (x13 := some (pr (rawR (fs.take at_)))) (x14 := some (pr (rawR (fs.drop at_)))) (x15 := y15) (x17 := some (pr s2)) (x18 := some (pr s3)) (x19 := some (pr (layR (layR ([a, b, c], w) s2) s3))) (x20 := some (pr (layR (layR ([a, b, c], w) s2) s3))) hj (bx := b3) q1 hg
  have e16 := g16 hL (ns := ns) (x3 := x3) (x4 := some (frs fs)) (x5 := some (pr (rawR fs))) (x6 := some (.lst ([([a, b, c], w), s2, s3].map pr))) (x7 := y7) (x9 := x9) (x10 := x10) (x11 := some (.int (at_ : Nat))) (x13 := some (pr (rawR (fs.take at_)))) (x14 := some (pr (rawR (fs.drop at_)))) (x15 := y15) (x17 := some (pr s2)) (x18 := some (pr s3)) (x19 := some (pr (layR (layR ([a, b, c], w) s2) s3))) (x20 := some (pr (layR (layR ([a, b, c], w) s2) s3))) hj (bx := b3) q1 hg
  have e17 := g17 (L := L) (j := j) (ns := ns) (x3 := x3) (x4 := some (frs fs)) (x5 := some (pr (rawR fs))) (x6 := some (.lst ([([a, b, c], w), s2, s3].map pr))) (x7 := y7) (x8 := some (shs (addR w [a, b, c] g))) (x9 := x9) (x10 := x10) (x11 := some (.int (at_ : Nat))) (x12 := some (shs g)) (x13 := some (pr (rawR (fs.take at_)))) (x14 := some (pr (rawR (fs.drop at_)))) (x15 := y15) (x17 := some (pr s2)) (x18 := some (pr s3)) (x19 := some (pr (layR (layR ([a, b, c], w) s2) s3))) (x20 := some (pr (layR (layR ([a, b, c], w) s2) s3))) (bx := b3) (a := a) (b := b) (c := c) (w := w)
  have e18 := g18 (L := L) (j := j) (ns := ns) (x3 := x3) (x4 := some (frs fs)) (x5 := some (pr (rawR fs))) (x6 := some (.lst ([([a, b, c], w), s2, s3].map pr))) (x7 := y7) (x8 := some (shs (addR w [a, b, c] g))) (x10 := x10) (x11 := some (.int (at_ : Nat))) (x12 := some (shs g)) (x13 := some (pr (rawR (fs.take at_)))) (x14 := some (pr (rawR (fs.drop at_)))) (x15 := y15) (x17 := some (pr s2)) (x18 := some (pr s3)) (x19 := some (pr (layR (layR ([a, b, c], w) s2) s3))) (x20 := some (pr (layR (layR ([a, b, c], w) s2) s3))) (bx := b3) (a := a) (b := b) (c := c) (w := w)
  have e19 := g19 (L := L) (j := j) (ns := ns) (x3 := x3) (x4 := some (frs fs)) (x5 := some (pr (rawR fs))) (x6 := some (.lst ([([a, b, c], w), s2, s3].map pr))) (x7 := y7) (x8 := some (shs (addR w [a, b, c] g))) (x10 := x10) (x11 := some (.int (at_ : Nat))) (x12 := some (shs g)) (x13 := some (pr (rawR (fs.take at_)))) (x14 := some (pr (rawR (fs.drop at_)))) (x15 := y15) (x17 := some (pr s2)) (x18 := some (pr s3)) (x19 := some (pr (layR (layR ([a, b, c], w) s2) s3))) (x20 := some (pr (layR (layR ([a, b, c], w) s2) s3))) (bx := b3) (a := a) (b := b) (c := c) (w := w)
  obtain ⟨y10, b4, e20, k4⟩ := g20 hL (ns := ns) (x3 := x3) (x4 := some (frs fs)) (x5 := some (pr (rawR fs))) (x6 := some (.lst ([([a, b, c], w), s2, s3].map pr))) (x7 := y7) (x8 := some (shs (addR w [a, b, c] g))) (x10 := x10) (x11 := some (.int (at_ : Nat))) (x12 := some (shs g)) (x13 := some (pr (rawR (fs.take at_)))) (x14 := some (pr (rawR (fs.drop at_)))) (x15 := y15) (x16 := some (pr ([a, b, c], w))) (x17 := some (pr s2)) (x18 := some (pr s3)) (x19 := some (pr (layR (layR ([a, b, c], w) s2) s3))) (x20 := some (pr (layR (layR ([a, b, c], w) s2) s3))) hj (by omega) k3 (gd_all q1) (by simp [T6, T7, T11])
  refine ⟨some (frs fs), some (pr (rawR fs)), some (.lst ([([a, b, c], w), s2, s3].map pr)), y7, some (shs (addR w [a, b, c] g)), some (.lst (T6 a b c w ++ [T7 a b c] ++ T11 b c w)), y10, some (.int (at_ : Nat)), some (shs g), some (pr (rawR (fs.take at_))), some (pr (rawR (fs.drop at_))), y15, some (pr ([a, b, c], w)), some (pr s2), some (pr s3), some (pr (layR (layR ([a, b, c], w) s2) s3)), some (pr (layR (layR ([a, b, c], w) s2) s3)), b4, ?_, .inr q7, k4.mono (by omega)⟩
  unfold turnB
  refine seq_of e1 (seq_of e2 (seq_of e3 (seq_of e4 (seq_of e5 (seq_of e6 (seq_of e7 (seq_of e8 (seq_of e9 (seq_of e10 (seq_of e11 (seq_of e12 (seq_of e13 (seq_of e14 (seq_of e15 (seq_of e16 (seq_of e17 (seq_of e18 (seq_of e19 (seq_of e20 (rfl))))))))))))))))))))

def lawT : St := .seq (.for (.var 3) (.rng1 (.cst (.int 6))) turnB) (.seq (.ret (.cst (.bl true))) .nil)
theorem loop_ok {j : Nat} (hj : 10 ≤ j) {bx : List (List D)} (h : Hd 0 bx) : ∃ s, evS (cc L j) L lawT ⟨[some (.scr ns), some (.box 0), some (pr cl), none, none, none, none, none, none, none, none, none, none, none, none, none, none, none, none, none, none, none, none, none], bx⟩ = .ok (.rt (.bl true)) s := by
  obtain ⟨s', e1, y3, y4, y5, y6, y7, y8, y9, y10, y11, y12, y13, y14, y15, y16, y17, y18, y19, y20, b', rfl, h7, hb⟩ := for_st (f := forT (cc L j) L (.var 3) turnB) (ds := rangeD 0 6) (s := ⟨[some (.scr ns), some (.box 0), some (pr cl), none, none, none, none, none, none, none, none, none, none, none, none, none, none, none, none, none, none, none, none, none], bx⟩)
    (fun i s => ∃ (y3 y4 y5 y6 y7 y8 y9 y10 y11 y12 y13 y14 y15 y16 y17 y18 y19 y20 : Option D) (b' : List (List D)), s = ⟨[some (.scr ns), some (.box 0), some (pr cl), y3, y4, y5, y6, y7, y8, y9, y10, y11, y12, y13, y14, y15, y16, y17, y18, y19, y20, none, none, none], b'⟩ ∧ (y7 = none ∨ ∃ k : Int, y7 = some (.int k)) ∧ Hd (120 * i) b') ⟨none, none, none, none, none, none, none, none, none, none, none, none, none, none, none, none, none, none, bx, rfl, .inl rfl, h⟩ fun i d s hd hp => by
      obtain ⟨y3, y4, y5, y6, y7, y8, y9, y10, y11, y12, y13, y14, y15, y16, y17, y18, y19, y20, b, rfl, h7, hb⟩ := hp
      have hi : i < 6 := by
        have := (List.getElem?_eq_some_iff.mp hd).1
        rwa [show (rangeD 0 6).length = 6 from rfl] at this
      obtain ⟨z4, z5, z6, z7, z8, z9, z10, z11, z12, z13, z14, z15, z16, z17, z18, z19, z20, b2, e, z, hb2⟩ := turn_ok hL (ns := ns) (x3 := some d) (x4 := y4) (x5 := y5) (x6 := y6) (x7 := y7) (x8 := y8) (x9 := y9) (x10 := y10) (x11 := y11) (x12 := y12) (x13 := y13) (x14 := y14) (x15 := y15) (x16 := y16) (x17 := y17) (x18 := y18) (x19 := y19) (x20 := y20) hj (by omega) hb h7
      refine ⟨_, .inl ?_, some d, z4, z5, z6, z7, z8, z9, z10, z11, z12, z13, z14, z15, z16, z17, z18, z19, z20, b2, rfl, z, hb2.mono (by omega)⟩
      simp [forT, asgT, e]
  refine ⟨⟨[some (.scr ns), some (.box 0), some (pr cl), y3, y4, y5, y6, y7, y8, y9, y10, y11, y12, y13, y14, y15, y16, y17, y18, y19, y20, none, none, none], b'⟩, ?_⟩
  have r6 : rngOk 0 6 = true := rfl
  simp [lawT, r6, e1]

end
theorem law_ok (ns : List Int) (hl : ns.length ≤ 63) : ∃ L b, callN prg.tb prg.gb L 60 50 [.scr ns] [] = .ok (.bl true) b := by
  obtain ⟨L, hL⟩ : ∃ L : Nat, 2 ^ 9000 ≤ L := ⟨_, Nat.le_refl _⟩
  obtain ⟨bx, e1, h1⟩ := hand_ok (L := L) (n := 59) (by omega) ns hl
  obtain ⟨s, e2⟩ := loop_ok hL (ns := ns) (j := 59) (by omega) h1
  have f1 : ∀ l, callR (cc L 59) 27 [.scr ns] ⟨l, []⟩ = .ok (.box 0) ⟨l, bx⟩ := fun l => callR_ok e1
  refine ⟨L, s.box, ?_⟩
  rw [callN_eq (f := ⟨1, 24, i50⟩) rfl]
  refine runF_rt rfl ?_
  show evS (cc L 59) L i50 ⟨[some (.scr ns), none, none, none, none, none, none, none, none, none, none, none, none, none, none, none, none, none, none, none, none, none, none, none], []⟩ = _
  rw [i50_eq]
  refine seq_of (l1 := [some (.scr ns), some (.box 0), none, none, none, none, none, none, none, none, none, none, none, none, none, none, none, none, none, none, none, none, none, none]) (b1 := bx) (by simp [f1]) (seq_of (l1 := [some (.scr ns), some (.box 0), some (pr cl), none, none, none, none, none, none, none, none, none, none, none, none, none, none, none, none, none, none, none, none, none]) (b1 := bx) ?_ e2)
  have t1 : repTOk 1 3 = true := rfl
  have t2 : D.tup [D.tup (rep [D.tup [.int 0, .int 1]] 3), D.tup [.int 1, .int 1]] = pr cl := rfl
  simp [t1, t2]
end Q.K46
end

theorem PySem.Challenge.cw_everysample_k46_whole_sheets_laid_over_holds : PySem.Challenge.rw_everysample_k46_whole_sheets_laid_over.Holds := by
  exact Q.K46.holds_of Q.K46.law_ok
