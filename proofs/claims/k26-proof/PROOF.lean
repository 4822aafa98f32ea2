import PyProof.Rows.All
import Wide.All
import OpenK.AllK
import Wide.FinOn
import HandS.ForMost
import HandS.TupAny
import HandS.TupMul
import HandS.IsInst
import HandS.Wide
import HandS.Style
import HandS.SortInts
import HandS.Conv
import HandS.WordsDict
import HandS.Flow
import HandS.Walk
import HandS.Zip
import HandS.NoneIn
import KE.GoesEnum
import HandS.Head0
import HandS.Head1
import HandS.Head2
import HandS.HeadEnd
import HandS.HeadHook1
import HandS.HeadHook2
import PySem.Challenge.RW_everysample_k26_whole_small_move_on_edge
set_option Elab.async false
set_option linter.all false
section
set_option maxRecDepth 100000
set_option maxHeartbeats 2000000
/-! QCore: pure data, the small language, its evaluator. -/
namespace Q
open PySem L2

/-- data by value: own, odc: a list, a dict of one's own slot alone (it may still change); box: a list that is shared and changes -/
inductive D where
  | non | bl (b : Bool) | int (i : Int) | str (x : Str)
  | tup (xs : List D) | lst (xs : List D) | dic (kvs : List (Key × D))
  | own (xs : List D) | odc (kvs : List (Key × D))
  | scr (ns : List Int) | box (k : Nat) | fn (k : Nat)

def D.frz : D → D
  | .own xs => .lst xs
  | .odc kvs => .dic kvs
  | d => d

structure S where
  loc : List (Option D)
  box : List (List D)

inductive Res (α : Type) where
  | ok (a : α) (s : S) | exc (d : D) (s : S) | bad

def Res.bnd {α β : Type} (r : Res α) (f : α → S → Res β) : Res β := match r with
  | .ok a s => f a s
  | .exc d s => .exc d s
  | .bad => .bad
@[simp] theorem Res.bnd_ok {α β : Type} (a : α) (s : S) (f : α → S → Res β) : (Res.ok a s).bnd f = f a s := rfl
@[simp] theorem Res.bnd_bad {α β : Type} (f : α → S → Res β) : (Res.bad : Res α).bnd f = .bad := rfl
@[simp] theorem Res.bnd_exc {α β : Type} (d : D) (s : S) (f : α → S → Res β) : (Res.exc d s : Res α).bnd f = .exc d s := rfl
/-- an answer that may lack -/
def Res.opt {α : Type} (o : Option α) (s : S) : Res α := match o with
  | some a => .ok a s
  | none => .bad
@[simp] theorem Res.opt_some {α : Type} (a : α) (s : S) : Res.opt (some a) s = .ok a s := rfl
@[simp] theorem Res.opt_none {α : Type} (s : S) : Res.opt (none : Option α) s = .bad := rfl

inductive CR where
  | ok (d : D) (b : List (List D)) | exc (d : D) (b : List (List D)) | bad

inductive BOp where | add | sub | mul | fdiv | mod | pow | shl deriving DecidableEq
inductive COp where | eq | ne | lt | le | gt | ge | isin | notin | isN | notN deriving DecidableEq
inductive Ty where | int | bool | tuple | list | str | dict deriving DecidableEq
inductive Blt where | len | abs | int | min | max | sum | any | all | tuple | list | sorted deriving DecidableEq
inductive Mth where | append | extend | pop | count deriving DecidableEq

inductive E where
  | nil | cons (e es : E)
  | var (i : Nat) | cst (d : D) | glb (k : Nat) | fnc (k : Nat)
  | bin (o : BOp) (a b : E) | cmp (o : COp) (a b : E) | chn (o p : COp) (a b c : E)
  | and (a b : E) | or (a b : E) | not (a : E) | neg (a : E) | ite (c a b : E)
  | tup (es : E) | lst (es : E) | bxl (es : E) | dic (kvs : E)
  | idx (a i : E) | ixv (v : Nat) (i : E) | slc (a : E) (lo hi : E) | slv (v : Nat) (lo hi : E)
  | call (k : Nat) (es : E) | blt (b : Blt) (es : E) | lenv (v : Nat) | isi (a : E) (ts : List Ty)
  | mut (m : Mth) (v : Nat) (es : E)
  | lc (elt tg it cond : E) (own : List Nat)
  | rgl (t : Bool) (it : E)
  | rng1 (a : E) | rng2 (a b : E) | zip (a b : E) | enm (a : E) | its (a : E) | prt (a : E) | tru (a : E) | trv (v : Nat)

inductive St where
  | nil | seq (a r : St)
  | asg (tg : E) (e : E) | asv (v : Nat) (e : E) | par (v w : Nat) (a b : E) | par3 (v w u : Nat) (es : E) | set2 (v w : Nat) (i j e : E) | set (v : Nat) (i e : E) | aug (v : Nat) (o : BOp) (e : E)
  | ex (e : E) | ret (e : E) | retN | ite (c : E) (a b : St) | whl (c : E) (b : St) | for (tg it : E) (b : St)
  | rais (k : Nat) (es : E) | brk | cnt | pass

inductive Flow where | nx | rt (d : D) | bk | ct

abbrev LINE : Nat := 16777216
/-! ### values -/
def D.isFlat : D → Bool
  | .non => true | .bl _ => true | .int _ => true | .str _ => true | _ => false
def D.isNon : D → Bool
  | .non => true | _ => false
mutual
def eqD : D → D → Bool
  | .non, .non => true
  | .bl a, .bl b => a == b
  | .bl a, .int j => (if a then 1 else 0) == j
  | .int i, .bl b => i == (if b then 1 else 0)
  | .int i, .int j => i == j
  | .str x, .str y => x == y
  | .lst xs, .lst ys => eqDs xs ys
  | .tup xs, .tup ys => eqDs xs ys
  | _, _ => false
def eqDs : List D → List D → Bool
  | [], [] => true
  | x :: xs, y :: ys => eqD x y && eqDs xs ys
  | _, _ => false
end
/-- no dicts, at most n deep -/
def shN : Nat → D → Bool
  | _, .non => true | _, .bl _ => true | _, .int _ => true | _, .str x => x.cps.all (· < 0x110000)
  | n + 1, .tup xs => xs.all (shN n)
  | n + 1, .lst xs => xs.all (shN n)
  | _, _ => false
def mulOk (i j : Int) : Bool := decide (i.natAbs.log2 + j.natAbs.log2 < 1000000)
def divOk (j : Int) : Bool := decide (j ≠ 0 ∧ j.natAbs.log2 < 9000)
def powOk (i j : Int) : Bool := decide (0 ≤ j ∧ j ≤ 1000000 ∧ i.natAbs < 2 ^ 64)
def repOk (n : Nat) (k : Int) : Bool := decide (-(2 ^ 63) ≤ k ∧ k < 2 ^ 63 ∧ n * k.toNat ≤ LINE)
def repTOk (n : Nat) (k : Int) : Bool := decide (0 < n ∧ 2 ≤ k ∧ k ≤ 1000 ∧ n ≤ 1000)
def rep (xs : List D) (k : Int) : List D := (List.replicate k.toNat xs).flatten
def opB : BOp → D → D → Option D
  | .add, .int i, .int j => some (.int (i + j))
  | .add, .str x, .str y => if x.length + y.length ≤ LINE then some (.str (x ++ y)) else none
  | .add, .tup xs, .tup ys => if xs.length + ys.length ≤ LINE then some (.tup (xs ++ ys)) else none
  | .add, .lst xs, .lst ys => if xs.length + ys.length ≤ LINE then some (.own (xs ++ ys)) else none
  | .sub, .int i, .int j => some (.int (i - j))
  | .sub, .bl i, .bl j => some (.int ((if i = true then (1 : Int) else 0) - if j = true then (1 : Int) else 0))
  | .mul, .int i, .int j => if mulOk i j then some (.int (i * j)) else none
  | .mul, .tup xs, .int k => if repTOk xs.length k then some (.tup (rep xs k)) else none
  | .mul, .lst xs, .int k => if repOk xs.length k then some (.own (rep xs k)) else none
  | .fdiv, .int i, .int j => if divOk j then some (.int (i.fdiv j)) else none
  | .mod, .int i, .int j => if j ≠ 0 then some (.int (i.fmod j)) else none
  | .pow, .int i, .int j => if powOk i j then some (.int (i ^ j.toNat)) else none
  | .shl, .int i, .int j => if powOk i j then some (.int (i * 2 ^ j.toNat)) else none
  | _, _, _ => none
/-- in place, of ints -/
def opA : BOp → D → D → Option D
  | .add, .int i, .int j => some (.int (i + j))
  | .sub, .int i, .int j => some (.int (i - j))
  | .mul, .int i, .int j => if mulOk i j then some (.int (i * j)) else none
  | _, _, _ => none
def opC : COp → D → D → Option Bool
  | .eq, x, y => if shN 60 x && shN 60 y then some (eqD x y) else none
  | .ne, x, y => if shN 60 x && shN 60 y then some (!eqD x y) else none
  | .lt, .int i, .int j => some (decide (i < j))
  | .le, .int i, .int j => some (decide (i ≤ j))
  | .gt, .int i, .int j => some (decide (j < i))
  | .ge, .int i, .int j => some (decide (j ≤ i))
  | .isin, x, .tup xs => if shN 60 x && xs.all (shN 59) then some (xs.any fun y => eqD y x) else none
  | .isin, x, .lst xs => if shN 60 x && xs.all (shN 59) then some (xs.any fun y => eqD y x) else none
  | .notin, x, .tup xs => if shN 60 x && xs.all (shN 59) then some (!xs.any fun y => eqD y x) else none
  | .notin, x, .lst xs => if shN 60 x && xs.all (shN 59) then some (!xs.any fun y => eqD y x) else none
  | .isN, x, .non => some x.isNon
  | .notN, x, .non => some (!x.isNon)
  | .isN, .bl a, .bl b => some (decide (a = b))
  | .notN, .bl a, .bl b => some (!decide (a = b))
  | _, _, _ => none
/-- the items of what stands at an index -/
def D.items : D → Option (List D)
  | .tup xs => some xs | .lst xs => some xs | .own xs => some xs | _ => none
def ixD : D → D → Option D
  | .tup xs, .int i => atI xs i
  | .lst xs, .int i => atI xs i
  | .own xs, .int i => atI xs i
  | _, _ => none
def cutD (xs : List D) (lo hi : Option Int) : List D := (xs.drop (HT.sIx xs.length 0 lo)).take (HT.sIx xs.length xs.length hi - HT.sIx xs.length 0 lo)
def slD (d : D) (l h : Option Int) : Option D := match d with
  | .tup xs => some (.tup (cutD xs l h))
  | .lst xs => some (.own (cutD xs l h))
  | .own xs => some (.own (cutD xs l h))
  | .scr ns => some (.own (cutD (ns.map .int) l h))
  | _ => none
def isTy : D → Ty → Bool
  | .int _, .int => true | .bl _, .int => true | .bl _, .bool => true
  | .tup _, .tuple => true | .lst _, .list => true | .own _, .list => true | .scr _, .list => true | .box _, .list => true
  | .str _, .str => true | .dic _, .dict => true | .odc _, .dict => true
  | _, _ => false
def isTyOk : D → Bool
  | .fn _ => false | _ => true
def lenD : D → Option Nat
  | .tup xs => some xs.length | .lst xs => some xs.length | .own xs => some xs.length | .scr ns => some ns.length
  | .dic kvs => some kvs.length | .odc kvs => some kvs.length
  | .str x => if x.length ≤ LINE then some x.length else none
  | _ => none
def allB : List D → Option (List Bool)
  | [] => some []
  | .bl b :: r => (allB r).map (b :: ·)
  | _ => none
def allI : List D → Option (List Int)
  | [] => some []
  | .int i :: r => (allI r).map (i :: ·)
  | _ => none
def minL : List Int → Int
  | [] => 0
  | [a] => a
  | a :: r => if a ≤ minL r then a else minL r
def maxL : List Int → Int
  | [] => 0
  | [a] => a
  | a :: r => if maxL r ≤ a then a else maxL r
def srtI (ns : List Int) : List Int := ns.mergeSort fun a b => decide (a ≤ b)
def bltD : Blt → List D → Option D
  | .len, [d] => (lenD d).map fun (n : Nat) => D.int (n : Int)
  | .abs, [.int i] => some (.int (if i < 0 then -i else i))
  | .int, [.int i] => some (.int i)
  | .int, [.bl b] => some (.int (if b then 1 else 0))
  | .min, [.int i, .int j] => some (.int (if j < i then j else i))
  | .max, [.int i, .int j] => some (.int (if j > i then j else i))
  | .min, [.lst xs] => (allI xs).bind fun ns => if 0 < ns.length then some (.int (minL ns)) else none
  | .max, [.lst xs] => (allI xs).bind fun ns => if 0 < ns.length then some (.int (maxL ns)) else none
  | .sum, [.lst xs] => (allI xs).map fun ns => .int ns.sum
  | .any, [.lst xs] => (allB xs).map fun bs => .bl (bs.any id)
  | .all, [.lst xs] => (allB xs).map fun bs => .bl (bs.all id)
  | .tuple, [.lst xs] => some (.tup xs)
  | .tuple, [.tup xs] => some (.tup xs)
  | .list, [.lst xs] => some (.own xs)
  | .list, [.tup xs] => some (.own xs)
  | .sorted, [.lst xs] => (allI xs).map fun ns => .own ((srtI ns).map .int)
  | .sorted, [.tup xs] => (allI xs).map fun ns => .own ((srtI ns).map .int)
  | _, _ => none
def truD : D → Option Bool
  | .bl b => some b
  | .non => some false
  | .int i => some (i != 0)
  | .str x => if x.length ≤ LINE then some (x.length != 0) else none
  | .tup xs => some (!xs.isEmpty)
  | .lst xs => some (!xs.isEmpty)
  | .own xs => some (!xs.isEmpty)
  | .dic xs => some (!xs.isEmpty)
  | .odc xs => some (!xs.isEmpty)
  | _ => none
def rangeD (lo : Int) (n : Nat) : List D := (List.range n).map fun i => D.int (lo + (i : Nat))
def rngOk (i j : Int) : Bool := decide (-(2 ^ 62) ≤ i ∧ i < 2 ^ 62 ∧ -(2 ^ 62) ≤ j ∧ j < 2 ^ 62 ∧ (j - i).toNat ≤ LINE)
def rangeC (lo c : Int) (n : Nat) : List D := (List.range n).map fun i => D.int (lo + (i : Nat) * c)
def zipD : List D → List D → List D
  | x :: xs, y :: ys => .tup [x, y] :: zipD xs ys
  | _, _ => []
def enumD : Nat → List D → List D
  | _, [] => []
  | n, x :: xs => .tup [.int n, x] :: enumD (n + 1) xs
def keyD : D → Option Key
  | .int i => some (.inl i)
  | .str x => some (.inr x)
  | _ => none
def pairsD : List D → Option (List (Key × D))
  | [] => some []
  | k :: v :: r => (keyD k).bind fun kk => (pairsD r).map ((kk, v) :: ·)
  | _ => none
def mergeD (kvs : List (Key × D)) : List (Key × D) → List (Key × D)
  | [] => kvs
  | (k, v) :: r => mergeD (if kvs.any (fun p => decide (p.1 = k)) then kvs.map (fun p => if p.1 = k then (k, v) else p) else kvs ++ [(k, v)]) r

/-! ### slots -/
def S.get (s : S) (i : Nat) : Option D := (s.loc[i]?).bind id
def S.put (s : S) (i : Nat) (d : D) : S := { s with loc := s.loc.set i (some d) }
/-- a slot's own list is given out: it stands still from now on -/
def S.frz (s : S) (i : Nat) : S := match s.get i with
  | some (.own xs) => s.put i (.lst xs)
  | some (.odc xs) => s.put i (.dic xs)
  | _ => s
def S.frzs (s : S) : List Nat → S
  | [] => s
  | i :: r => (s.frz i).frzs r
def wipeL (l : List (Option D)) : List Nat → List (Option D)
  | [] => l
  | i :: r => (wipeL l r).set i none
def backL (l o : List (Option D)) : List Nat → List (Option D)
  | [] => l
  | i :: r => (backL l o r).set i ((o[i]?).getD none)
def asgT : E → D → S → Option S
  | .var i, d, s => if i < s.loc.length then some (s.put i d) else none
  | .tup es, .tup ds, s => asgTs es ds s
  | .tup es, .lst ds, s => asgTs es ds s
  | _, _, _ => none
where asgTs : E → List D → S → Option S
  | .nil, [], s => some s
  | .cons e es, d :: ds, s => (asgT e d s).bind fun s' => asgTs es ds s'
  | _, _, _ => none
/-- the content of a slot as a container: a box is looked up -/
def S.cont (s : S) (v : Nat) : Option D := (s.get v).bind fun d => match d with
  | .box k => (s.box[k]?).map .own
  | d => some d
def S.setItem (s : S) (v : Nat) (i x : D) : Option S := (s.get v).bind fun d => match d, i with
  | .own xs, .int k => (ixN xs.length k).map fun j => s.put v (.own (xs.set j x))
  | .box b, .int k => (s.box[b]?).bind fun xs => (ixN xs.length k).map fun j => { s with box := s.box.set b (xs.set j x) }
  | _, _ => none
def mutD (s : S) (v : Nat) : Mth → List D → Option (D × S)
  | .append, [x] => (s.get v).bind fun d => match d with
    | .own xs => if xs.length < LINE then some (.non, s.put v (.own (xs ++ [x]))) else none
    | _ => none
  | .extend, [.lst ys] => (s.get v).bind fun d => match d with
    | .own xs => if xs.length + ys.length ≤ LINE then some (.non, s.put v (.own (xs ++ ys))) else none
    | _ => none
  | .pop, [] => (s.get v).bind fun d => match d with
    | .own xs => (xs[xs.length - 1]?).map fun y => (y, s.put v (.own xs.dropLast))
    | _ => none
  | .pop, [.int i] => (s.get v).bind fun d => match d with
    | .own xs => if -(2 ^ 63) ≤ i ∧ i < 2 ^ 63 then (ixN xs.length i).bind fun k => (xs[k]?).map fun y => (y, s.put v (.own (xs.eraseIdx k))) else none
    | _ => none
  | .count, [y] => (s.get v).bind fun d => match d with
    | .own xs => if shN 60 y && xs.all (shN 59) then some (.int ((xs.countP fun z => eqD z y : Nat) : Int), s) else none
    | _ => none
  | _, _ => none

def ownL (s : S) (v : Nat) : Bool := match s.get v with
  | some (.own _) => true
  | _ => false
/-! ### the evaluator -/
def lcL (f : D → S → Res (Option D)) : List D → S → Res (List D)
  | [], s => .ok [] s
  | d :: ds, s => (f d s).bnd fun o s1 => (lcL f ds s1).bnd fun r s2 => .ok (match o with | some x => x :: r | none => r) s2
def forL (f : D → S → Res Flow) : List D → S → Res Flow
  | [], s => .ok .nx s
  | d :: ds, s => (f d s).bnd fun fl s1 => match fl with
    | .nx => forL f ds s1
    | .ct => forL f ds s1
    | .bk => .ok .nx s1
    | .rt x => .ok (.rt x) s1
def whlL (c : S → Res Bool) (b : S → Res Flow) : Nat → S → Res Flow
  | 0, _ => .bad
  | n + 1, s => (c s).bnd fun k s1 => if k then (b s1).bnd fun fl s2 => (match fl with
    | .nx => whlL c b n s2
    | .ct => whlL c b n s2
    | .bk => .ok .nx s2
    | .rt x => .ok (.rt x) s2) else .ok .nx s1

structure Env where
  call : Nat → List D → List (List D) → CR
  glb : Nat → Option D

def callR (c : Env) (k : Nat) (xs : List D) (s : S) : Res D := match c.call k xs s.box with
  | .ok d b => .ok d { s with box := b }
  | .exc d b => .exc d { s with box := b }
  | .bad => .bad
/-- nothing is raised out of a comprehension's turn -/
def Res.nox {α : Type} : Res α → Res α
  | .exc _ _ => .bad
  | r => r

mutual
def evE (c : Env) : E → S → Res D
  | .var i, s => Res.opt ((s.get i).map D.frz) (s.frz i)
  | .cst d, s => .ok d s
  | .glb k, s => Res.opt (c.glb k) s
  | .fnc k, s => .ok (.fn k) s
  | .bin o a b, s => (evE c a s).bnd fun x s1 => (evE c b s1).bnd fun y s2 => Res.opt (opB o x.frz y.frz) s2
  | .cmp o a b, s => (evE c a s).bnd fun x s1 => (evE c b s1).bnd fun y s2 => Res.opt ((opC o x.frz y.frz).map .bl) s2
  | .chn o p a b d, s => (evE c a s).bnd fun x s1 => (evE c b s1).bnd fun y s2 => (Res.opt (opC o x.frz y.frz) s2).bnd fun k s3 =>
      if k then (evE c d s3).bnd fun z s4 => Res.opt ((opC p y.frz z.frz).map .bl) s4 else .ok (.bl false) s3
  | .and a b, s => (evE c a s).bnd fun x s1 => match x with
    | .bl true => (evE c b s1).bnd fun y s2 => .ok y.frz s2
    | .bl false => .ok (.bl false) s1
    | _ => .bad
  | .or a b, s => (evE c a s).bnd fun x s1 => match x with
    | .bl false => (evE c b s1).bnd fun y s2 => .ok y.frz s2
    | .bl true => .ok (.bl true) s1
    | _ => .bad
  | .not a, s => (evE c a s).bnd fun x s1 => match x with
    | .bl k => .ok (.bl (!k)) s1
    | _ => .bad
  | .neg a, s => (evE c a s).bnd fun x s1 => match x with
    | .int i => .ok (.int (-i)) s1
    | _ => .bad
  | .ite t a b, s => (evT c t s).bnd fun k s1 => if k then (evE c a s1).bnd fun y s2 => .ok y.frz s2 else (evE c b s1).bnd fun y s2 => .ok y.frz s2
  | .tup es, s => (evA c es s).bnd fun xs s1 => if xs.length ≤ LINE then .ok (.tup xs) s1 else .bad
  | .lst es, s => (evA c es s).bnd fun xs s1 => if xs.length ≤ LINE then .ok (.own xs) s1 else .bad
  | .bxl es, s => (evA c es s).bnd fun xs s1 => if xs.length ≤ LINE then .ok (.box s1.box.length) { s1 with box := s1.box ++ [xs] } else .bad
  | .dic kvs, s => (evA c kvs s).bnd fun xs s1 => (Res.opt (pairsD xs) s1).bnd fun ps s2 => if ps.length ≤ 15 then .ok (.odc (mergeD [] ps)) s2 else .bad
  | .idx a i, s => (evE c a s).bnd fun x s1 => (evE c i s1).bnd fun y s2 => Res.opt (ixD x.frz y.frz) s2
  | .ixv v i, s => if (s.get v).isSome then (evE c i s).bnd fun y s1 => Res.opt ((s1.cont v).bind fun x => ixD x y.frz) s1 else .bad
  | .slc a lo hi, s => (evE c a s).bnd fun x s1 => (evO c lo s1).bnd fun l s2 => (evO c hi s2).bnd fun h s3 => Res.opt (slD x.frz l h) s3
  | .slv v lo hi, s => if (s.get v).isSome then (evO c lo s).bnd fun l s2 => (evO c hi s2).bnd fun h s3 => Res.opt ((s3.cont v).bind fun x => slD x l h) s3 else .bad
  | .call k es, s => (evA c es s).bnd fun xs s1 => callR c k xs s1
  | .blt b es, s => (evA c es s).bnd fun xs s1 => Res.opt (bltD b xs) s1
  | .rgl t it, s => (evI c it s).bnd fun ds s1 => if ds.length ≤ LINE then .ok (if t then .tup ds else .own ds) s1 else .bad
  | .lenv v, s => Res.opt (((s.cont v).bind lenD).map fun (n : Nat) => D.int (n : Int)) s
  | .isi a ts, s => (evE c a s).bnd fun x s1 => if isTyOk x then .ok (.bl (ts.any (isTy x.frz))) s1 else .bad
  | .mut m v es, s => if ownL s v then (evA c es s).bnd fun xs s1 => (Res.opt (mutD s1 v m xs) s1).bnd fun p _ => .ok p.1 p.2 else .bad
  | .lc elt tg it cond own, s => (evI c it s).bnd fun ds s1 => if ds.length ≤ LINE then
      (lcL (fun d s2 => (Res.opt (asgT tg d { s2 with loc := wipeL s2.loc own }) s2).bnd fun s3 _ => (evT c cond s3).nox.bnd fun k s4 =>
        if k then (evE c elt s4).nox.bnd fun y s5 => .ok (some y.frz) s5 else .ok none s4) ds (s1.frzs own)).bnd fun ys s2 => .ok (.own ys) { s2 with loc := backL s2.loc (s1.frzs own).loc own }
      else .bad
  | _, _ => .bad
/-- a slice's part -/
def evO (c : Env) : E → S → Res (Option Int)
  | .nil, s => .ok none s
  | .prt a, s => (evE c a s).bnd fun d s1 => match d with
    | .int i => .ok (some i) s1
    | _ => .bad
  | _, _ => .bad
/-- in a test's place -/
def evT (c : Env) : E → S → Res Bool
  | .nil, s => .ok true s
  | .and a b, s => (evT c a s).bnd fun k s1 => if k then evT c b s1 else .ok false s1
  | .or a b, s => (evT c a s).bnd fun k s1 => if k then .ok true s1 else evT c b s1
  | .not a, s => (evT c a s).bnd fun k s1 => .ok (!k) s1
  | .tru a, s => (evE c a s).bnd fun d s1 => Res.opt (truD d) s1
  | .trv v, s => Res.opt ((s.get v).bind truD) s
  | _, _ => .bad
def evA (c : Env) : E → S → Res (List D)
  | .nil, s => .ok [] s
  | .cons e es, s => (evE c e s).bnd fun x s1 => (evA c es s1).bnd fun xs s2 => .ok (x.frz :: xs) s2
  | _, _ => .bad
/-- what a loop walks, as it stands at the loop's head -/
def evI (c : Env) : E → S → Res (List D)
  | .rng1 a, s => (evE c a s).bnd fun x s1 => match x with
    | .int j => if rngOk 0 j then .ok (rangeD 0 j.toNat) s1 else .bad
    | _ => .bad
  | .rng2 a b, s => (evE c a s).bnd fun x s1 => (evE c b s1).bnd fun y s2 => match x, y with
    | .int i, .int j => if rngOk i j then .ok (rangeD i (j - i).toNat) s2 else .bad
    | _, _ => .bad
  | .zip a b, s => (evE c a s).bnd fun x s1 => (evE c b s1).bnd fun y s2 => match x.frz.items, y.frz.items with
    | some xs, some ys => .ok (zipD xs ys) s2
    | _, _ => .bad
  | .enm a, s => (evE c a s).bnd fun x s1 => match x.frz.items with
    | some xs => .ok (enumD 0 xs) s1
    | _ => .bad
  | .its a, s => (evE c a s).bnd fun x s1 => Res.opt x.frz.items s1
  | _, _ => .bad
end

/-- one item stored -/
def setR (c : Env) (v : Nat) (i : E) (x : D) (s : S) : Res Unit := if (s.get v).isSome then (evE c i s).bnd fun k s2 => (Res.opt (s2.setItem v k.frz x) s2).bnd fun s3 _ => .ok () s3 else .bad
def evS (c : Env) (L : Nat) : St → S → Res Flow
  | .nil, s => .ok .nx s
  | .seq a r, s => (evS c L a s).bnd fun fl s1 => match fl with
    | .nx => evS c L r s1
    | fl => .ok fl s1
  | .asg tg e, s => (evE c e s).bnd fun d s1 => (Res.opt (asgT tg d s1) s1).bnd fun s2 _ => .ok .nx s2
  | .asv v e, s => (evE c e s).bnd fun d s1 => if v < s1.loc.length then .ok .nx (s1.put v d) else .bad
  | .par v w a b, s => (evE c a s).bnd fun x s1 => (evE c b s1).bnd fun y s2 => if v < s2.loc.length ∧ w < s2.loc.length ∧ v ≠ w then .ok .nx ((s2.put v x).put w y) else .bad
  | .par3 v w u es, s => (evA c es s).bnd fun xs s1 => match xs with
    | [x, y, z] => if v < s1.loc.length ∧ w < s1.loc.length ∧ u < s1.loc.length then .ok .nx (((s1.put v x).put w y).put u z) else .bad
    | _ => .bad
  | .set2 v w i j e, s => (evE c e s).bnd fun d s1 => match d with
    | .tup [x, y] => (setR c v i x s1).bnd fun _ s2 => (setR c w j y s2).bnd fun _ s3 => .ok .nx s3
    | _ => .bad
  | .set v i e, s => (evE c e s).bnd fun x s1 => if (s1.get v).isSome then (evE c i s1).bnd fun k s2 => (Res.opt (s2.setItem v k.frz x.frz) s2).bnd fun s3 _ => .ok .nx s3 else .bad
  | .aug v o e, s => match s.get v with
    | some x => (evE c e s).bnd fun y s1 => (Res.opt (opA o x y.frz) s1).bnd fun z s2 => .ok .nx (s2.put v z)
    | none => .bad
  | .ex e, s => (evE c e s).bnd fun _ s1 => .ok .nx s1
  | .ret e, s => (evE c e s).bnd fun d s1 => .ok (.rt d) s1
  | .retN, s => .ok (.rt .non) s
  | .ite t a b, s => (evT c t s).bnd fun k s1 => if k then evS c L a s1 else evS c L b s1
  | .whl t b, s => whlL (evT c t) (evS c L b) L s
  | .for tg it b, s => (evI c it s).bnd fun ds s1 => forL (fun d s2 => (Res.opt (asgT tg d s2) s2).bnd fun s3 _ => evS c L b s3) ds s1
  | .brk, s => .ok .bk s
  | .cnt, s => .ok .ct s
  | .pass, s => .ok .nx s
  | .rais k es, s => (evA c es s).bnd fun xs s1 => .exc (.tup (.fn k :: xs)) s1

structure Fn where
  np : Nat
  nn : Nat
  body : St
def startL (f : Fn) (xs : List D) : List (Option D) := xs.map some ++ List.replicate (f.nn - xs.length) none
def runF (c : Env) (L : Nat) (f : Fn) (xs : List D) (b : List (List D)) : CR :=
  if xs.length = f.np then match evS c L f.body ⟨startL f xs, b⟩ with
    | .ok (.rt d) s => .ok d s.box
    | .ok .nx s => .ok .non s.box
    | .exc d s => .exc d s.box
    | _ => .bad
  else .bad
def callN (tbl : Nat → Option Fn) (glb : Nat → Option D) (L : Nat) : Nat → Nat → List D → List (List D) → CR
  | 0, _, _, _ => .bad
  | n + 1, k, xs, b => match tbl k with
    | some f => runF ⟨callN tbl glb L n, glb⟩ L f xs b
    | none => .bad
end Q
end

section
set_option maxRecDepth 100000
set_option maxHeartbeats 2000000
/-! QRep: how data stand in the heap; what is held of a frame's state. -/
namespace Q
open PySem PySem.Spec PyProof.Rows L2

def Ex (H H' : Hp) : Prop := ∀ a o, H a = some o → H' a = some o
theorem Ex.refl (H : Hp) : Ex H H := fun _ _ h => h
theorem Ex.trans {H H1 H2 : Hp} (a : Ex H H1) (b : Ex H1 H2) : Ex H H2 := fun x o h => b x o (a x o h)
theorem Ex.new {H : Hp} {p : Addr} {o : HO} (h : H p = none) : Ex H (upd H p o) := fun a u e => by
  rw [upd_ne (ne_of_none e h)]; exact e
theorem Ex.mut {H H' : Hp} {p : Addr} {o : HO} (e : Ex H H') (h : H p = none) : Ex H (upd H' p o) := fun a u ha => by
  rw [upd_ne (ne_of_none ha h)]; exact e a u ha
theorem Ex.free {H H' : Hp} {p : Addr} (e : Ex H H') (h : H' p = none) : H p = none := by
  cases q : H p with
  | none => rfl
  | some o => rw [e p o q] at h; cases h
theorem ex_rd {H H' : Hp} {a : Addr} {u : HO} (e : Ex H H') (h : Rd H a u) : Rd H' a u := by
  rcases h with h | ⟨o, h⟩
  · exact .inl (e a _ h)
  · exact .inr ⟨o, e a _ h⟩
theorem ex_l {K : PySem.W.Frag} {H H' : Hp} {a : Addr} {xs : List V} (e : Ex H H') (h : SqL K H a xs) : SqL K H' a xs := by
  rcases h with h | h
  · exact .inl (ex_rd e h)
  · exact .inr h
theorem ex_t {K : PySem.W.Frag} {H H' : Hp} {a : Addr} {xs : List V} (e : Ex H H') (h : SqT K H a xs) : SqT K H' a xs := by
  rcases h with h | h
  · exact .inl (ex_rd e h)
  · exact .inr h

section
variable (K : PySem.W.Frag) (fa : Nat → Option Addr) (F : Hp) (B : List Addr)
mutual
/-- a value for good: what it is made of does not change -/
def Rep : D → V → Prop
  | .non, v => v = .non
  | .bl b, v => v = .bl b
  | .int i, v => v = .int i
  | .str x, v => v = .str x
  | .tup ds, v => ∃ p vs, v = .ref p ∧ SqT K F p vs ∧ Reps ds vs
  | .lst ds, v => ∃ p vs, v = .ref p ∧ F p = some (.lst vs) ∧ Reps ds vs
  | .dic kvs, v => ∃ p ws, v = .ref p ∧ F p = some (.dK ws) ∧ RepK kvs ws
  | .scr ns, v => ∃ p, v = .ref p ∧ SqL K F p (ns.map V.int)
  | .box k, v => ∃ p, v = .ref p ∧ B[k]? = some p
  | .fn k, v => ∃ p, v = .ref p ∧ fa k = some p
  | .own _, _ => False
  | .odc _, _ => False
def Reps : List D → List V → Prop
  | [], vs => vs = []
  | d :: ds, vs => ∃ w ws, vs = w :: ws ∧ Rep d w ∧ Reps ds ws
def RepK : List (Key × D) → List (Key × V) → Prop
  | [], vs => vs = []
  | (k, d) :: ds, vs => ∃ w ws, vs = (k, w) :: ws ∧ Rep d w ∧ RepK ds ws
end
end
section
variable {K : PySem.W.Frag} {fa : Nat → Option Addr} {F F' : Hp} {B B' : List Addr}
mutual
theorem Rep.mono (e : Ex F F') (b : ∃ r, B' = B ++ r) : ∀ (d : D) (v : V), Rep K fa F B d v → Rep K fa F' B' d v
  | .non, v, h => h
  | .bl b, v, h => h
  | .int i, v, h => h
  | .str x, v, h => h
  | .tup ds, v, h => by
    unfold Rep at h ⊢
    obtain ⟨p, vs, h1, h2, h3⟩ := h
    exact ⟨p, vs, h1, ex_t e h2, Reps.mono e b ds vs h3⟩
  | .lst ds, v, h => by
    unfold Rep at h ⊢
    obtain ⟨p, vs, h1, h2, h3⟩ := h
    exact ⟨p, vs, h1, e _ _ h2, Reps.mono e b ds vs h3⟩
  | .dic kvs, v, h => by
    unfold Rep at h ⊢
    obtain ⟨p, vs, h1, h2, h3⟩ := h
    exact ⟨p, vs, h1, e _ _ h2, RepK.mono e b kvs vs h3⟩
  | .scr ns, v, h => by
    unfold Rep at h ⊢
    obtain ⟨p, h1, h2⟩ := h
    exact ⟨p, h1, ex_l e h2⟩
  | .box k, v, h => by
    unfold Rep at h ⊢
    obtain ⟨p, h1, h2⟩ := h
    obtain ⟨r, rfl⟩ := b
    exact ⟨p, h1, by rw [List.getElem?_append_left (List.getElem?_eq_some_iff.mp h2).1]; exact h2⟩
  | .fn k, v, h => h
  | .own _, _, h => h
  | .odc _, _, h => h
theorem Reps.mono (e : Ex F F') (b : ∃ r, B' = B ++ r) : ∀ (ds : List D) (vs : List V), Reps K fa F B ds vs → Reps K fa F' B' ds vs
  | [], vs, h => h
  | d :: ds, vs, h => by
    unfold Reps at h ⊢
    obtain ⟨w, ws, h1, h2, h3⟩ := h
    exact ⟨w, ws, h1, Rep.mono e b d w h2, Reps.mono e b ds ws h3⟩
theorem RepK.mono (e : Ex F F') (b : ∃ r, B' = B ++ r) : ∀ (ds : List (Key × D)) (vs : List (Key × V)), RepK K fa F B ds vs → RepK K fa F' B' ds vs
  | [], vs, h => h
  | (k, d) :: ds, vs, h => by
    unfold RepK at h ⊢
    obtain ⟨w, ws, h1, h2, h3⟩ := h
    exact ⟨w, ws, h1, Rep.mono e b d w h2, RepK.mono e b ds ws h3⟩
end
theorem Reps.length : ∀ {ds : List D} {vs : List V}, Reps K fa F B ds vs → vs.length = ds.length
  | [], vs, h => by unfold Reps at h; rw [h]; rfl
  | d :: ds, vs, h => by
    unfold Reps at h
    obtain ⟨w, ws, rfl, _, h3⟩ := h
    simp [Reps.length h3]
theorem Reps.get : ∀ {ds : List D} {vs : List V} {i : Nat} {d : D}, Reps K fa F B ds vs → ds[i]? = some d → ∃ v, vs[i]? = some v ∧ Rep K fa F B d v
  | [], vs, i, d, h, e => by simp at e
  | d0 :: ds, vs, i, d, h, e => by
    unfold Reps at h
    obtain ⟨w, ws, rfl, h2, h3⟩ := h
    cases i with
    | zero => simp at e; subst e; exact ⟨w, rfl, h2⟩
    | succ i =>
      obtain ⟨v, h4, h5⟩ := Reps.get (i := i) (d := d) h3 (by simpa using e)
      exact ⟨v, by simpa using h4, h5⟩
theorem Reps.set : ∀ {ds : List D} {vs : List V} (i : Nat) {d : D} {v : V}, Reps K fa F B ds vs → Rep K fa F B d v → Reps K fa F B (ds.set i d) (vs.set i v)
  | [], vs, i, d, v, h, r => by unfold Reps at h; subst h; simp [Reps]
  | d0 :: ds, vs, i, d, v, h, r => by
    unfold Reps at h
    obtain ⟨w, ws, rfl, h2, h3⟩ := h
    cases i with
    | zero => unfold List.set; unfold Reps; exact ⟨v, ws, rfl, r, h3⟩
    | succ i =>
      show Reps K fa F B (d0 :: ds.set i d) (w :: ws.set i v)
      unfold Reps
      exact ⟨w, _, rfl, h2, Reps.set i h3 r⟩
theorem Reps.append : ∀ {ds es : List D} {vs ws : List V}, Reps K fa F B ds vs → Reps K fa F B es ws → Reps K fa F B (ds ++ es) (vs ++ ws)
  | [], es, vs, ws, h, r => by unfold Reps at h; subst h; exact r
  | d :: ds, es, vs, ws, h, r => by
    unfold Reps at h
    obtain ⟨w, us, rfl, h2, h3⟩ := h
    show Reps K fa F B (d :: (ds ++ es)) (w :: (us ++ ws))
    unfold Reps
    exact ⟨w, _, rfl, h2, Reps.append h3 r⟩
theorem Reps.one {d : D} {v : V} (r : Rep K fa F B d v) : Reps K fa F B [d] [v] := by
  unfold Reps; exact ⟨v, [], rfl, r, by unfold Reps; rfl⟩
theorem Reps.nil : Reps K fa F B [] [] := by unfold Reps; rfl
theorem Reps.cons {d : D} {ds : List D} {v : V} {vs : List V} (r : Rep K fa F B d v) (q : Reps K fa F B ds vs) : Reps K fa F B (d :: ds) (v :: vs) := by
  unfold Reps; exact ⟨v, vs, rfl, r, q⟩
theorem Reps.drop : ∀ {ds : List D} {vs : List V} (n : Nat), Reps K fa F B ds vs → Reps K fa F B (ds.drop n) (vs.drop n)
  | ds, vs, 0, h => h
  | [], vs, n + 1, h => by unfold Reps at h; subst h; exact .nil
  | d :: ds, vs, n + 1, h => by
    unfold Reps at h
    obtain ⟨w, us, rfl, h2, h3⟩ := h
    exact Reps.drop n h3
theorem Reps.take : ∀ {ds : List D} {vs : List V} (n : Nat), Reps K fa F B ds vs → Reps K fa F B (ds.take n) (vs.take n)
  | ds, vs, 0, h => .nil
  | [], vs, n + 1, h => by unfold Reps at h; subst h; exact .nil
  | d :: ds, vs, n + 1, h => by
    unfold Reps at h
    obtain ⟨w, us, rfl, h2, h3⟩ := h
    exact .cons h2 (Reps.take n h3)
theorem Reps.eraseIdx : ∀ {ds : List D} {vs : List V} (n : Nat), Reps K fa F B ds vs → Reps K fa F B (ds.eraseIdx n) (vs.eraseIdx n)
  | [], vs, n, h => by unfold Reps at h; subst h; exact .nil
  | d :: ds, vs, 0, h => by
    unfold Reps at h
    obtain ⟨w, us, rfl, h2, h3⟩ := h
    exact h3
  | d :: ds, vs, n + 1, h => by
    unfold Reps at h
    obtain ⟨w, us, rfl, h2, h3⟩ := h
    exact .cons h2 (Reps.eraseIdx n h3)
theorem Reps.ints : ∀ (ns : List Int), Reps K fa F B (ns.map D.int) (ns.map V.int)
  | [] => .nil
  | n :: ns => .cons (by unfold Rep; rfl) (Reps.ints ns)
theorem Reps.rep {ds : List D} {vs : List V} (h : Reps K fa F B ds vs) : ∀ k : Nat, Reps K fa F B (List.replicate k ds).flatten (List.replicate k vs).flatten
  | 0 => .nil
  | k + 1 => by
    rw [List.replicate_succ, List.replicate_succ, List.flatten_cons, List.flatten_cons]
    exact Reps.append h (Reps.rep h k)
theorem Reps.at_ {ds : List D} {vs : List V} {i : Int} {d : D} (h : Reps K fa F B ds vs) (e : atI ds i = some d) : ∃ v, atI vs i = some v ∧ Rep K fa F B d v := by
  unfold atI at e ⊢
  rw [h.length]
  cases q : ixN ds.length i with
  | none => rw [q] at e; simp at e
  | some j =>
    rw [q] at e
    exact h.get (by simpa using e)
theorem Reps.cut {ds : List D} {vs : List V} (h : Reps K fa F B ds vs) (lo hi : Option Int) : Reps K fa F B (cutD ds lo hi) (cutV vs lo hi) := by
  unfold cutD cutV
  rw [h.length]
  exact (h.drop _).take _
end
end Q
end

section
set_option maxRecDepth 100000
set_option maxHeartbeats 2000000
/-! QRel: what is held of a frame's state. -/
namespace Q
open PySem PySem.Spec PyProof.Rows L2

def D.isOwn : D → Bool
  | .own _ => true | .odc _ => true | _ => false
theorem frz_of {d : D} (h : d.isOwn = false) : d.frz = d := by cases d <;> first | rfl | cases h
theorem frz_frz (d : D) : d.frz.frz = d.frz := by cases d <;> rfl
theorem frz_own (d : D) : d.frz.isOwn = false := by cases d <;> rfl

section
variable (K : PySem.W.Frag) (fa : Nat → Option Addr) (W F : Hp) (B : List Addr)
/-- a slot's value: an own list, an own dict, or a value for good -/
def SlV (H : Hp) (d : D) (v : V) : Prop := match d with
  | .own xs => ∃ p vs, v = .ref p ∧ H p = some (.lst vs) ∧ Reps K fa F B xs vs ∧ W p = none ∧ F p = none ∧ p ∉ B
  | .odc kvs => ∃ p ws, v = .ref p ∧ H p = some (.dK ws) ∧ RepK K fa F B kvs ws ∧ W p = none ∧ F p = none ∧ p ∉ B
  | d => Rep K fa F B d v
structure Rel (s : S) (σ : L2.St) (H : Hp) : Prop where
  ew : Ex W H
  ef : Ex F H
  len : σ.length = s.loc.length
  slot : ∀ i d, s.get i = some d → ∃ v, σ[i]? = some (some v) ∧ SlV K fa W F B H d v
  apart : ∀ i j d e v, i ≠ j → s.get i = some d → s.get j = some e → d.isOwn = true → e.isOwn = true → σ[i]? = some (some v) → σ[j]? = some (some v) → False
  bl : B.length = s.box.length
  bx : ∀ (k : Nat) (xs : List D), s.box[k]? = some xs → ∃ (p : Addr) (vs : List V), B[k]? = some p ∧ H p = some (.lst vs) ∧ Reps K fa F B xs vs ∧ W p = none ∧ F p = none
  bd : B.Nodup
/-- a result: if it may still change, no slot has it -/
def RR (s : S) (σ : L2.St) (H : Hp) (d : D) (v : V) : Prop :=
  SlV K fa W F B H d v ∧ (d.isOwn = true → ∀ i e, s.get i = some e → e.isOwn = true → σ[i]? ≠ some (some v))
end
structure Stp (W F : Hp) (B : List Addr) (F' : Hp) (B' : List Addr) : Prop where
  ex : Ex F F'
  gr : ∀ p o, F' p = some o → F p = some o ∨ W p = none
  bs : ∃ r, B' = B ++ r
theorem Stp.refl {W F : Hp} {B : List Addr} : Stp W F B F B := ⟨Ex.refl _, fun _ _ h => .inl h, [], by simp⟩
theorem Stp.trans {W F F1 F2 : Hp} {B B1 B2 : List Addr} (a : Stp W F B F1 B1) (b : Stp W F1 B1 F2 B2) : Stp W F B F2 B2 := by
  refine ⟨a.ex.trans b.ex, fun p o h => ?_, ?_⟩
  · rcases b.gr p o h with h | h
    · exact a.gr p o h
    · exact .inr h
  · obtain ⟨r, rfl⟩ := a.bs
    obtain ⟨q, rfl⟩ := b.bs
    exact ⟨r ++ q, by simp⟩

section
variable {K : PySem.W.Frag} {fa : Nat → Option Addr} {W F F' : Hp} {B B' : List Addr} {s s' : S} {σ : L2.St} {H H' : Hp} {d : D} {v : V}
theorem SlV.rep (h : SlV K fa W F B H d v) (o : d.isOwn = false) : Rep K fa F B d v := by
  cases d <;> first | exact h | cases o
theorem SlV.of (h : Rep K fa F B d v) : SlV K fa W F B H d v := by
  cases d <;> first | exact h | (unfold Rep at h; exact h.elim)
theorem Rep.notOwn (h : Rep K fa F B d v) : d.isOwn = false := by
  cases d <;> first | rfl | (unfold Rep at h; exact h.elim)
theorem RR.of (h : Rep K fa F B d v) : RR K fa W F B s σ H d v := ⟨SlV.of h, fun o => by rw [h.notOwn] at o; cases o⟩
theorem RR.rep (h : RR K fa W F B s σ H d v) (o : d.isOwn = false) : Rep K fa F B d v := h.1.rep o
/-- SlV under steps that leave what it leans on -/
theorem SlV.mono (h : SlV K fa W F B H d v) (e : Ex F F') (b : ∃ r, B' = B ++ r) (ho : ∀ p o, d.isOwn = true → v = .ref p → H p = some o → H' p = some o)
    (hf : ∀ p, d.isOwn = true → v = .ref p → F p = none → F' p = none) (hb : ∀ p, d.isOwn = true → v = .ref p → p ∉ B → p ∉ B') : SlV K fa W F' B' H' d v := by
  cases d with
  | own xs =>
    obtain ⟨p, vs, h1, h2, h3, h4, h5, h6⟩ := h
    exact ⟨p, vs, h1, ho p _ rfl h1 h2, Reps.mono e b _ _ h3, h4, hf p rfl h1 h5, hb p rfl h1 h6⟩
  | odc xs =>
    obtain ⟨p, vs, h1, h2, h3, h4, h5, h6⟩ := h
    exact ⟨p, vs, h1, ho p _ rfl h1 h2, RepK.mono e b _ _ h3, h4, hf p rfl h1 h5, hb p rfl h1 h6⟩
  | _ => exact Rep.mono e b _ _ h
theorem SlV.own (h : SlV K fa W F B H d v) (o : d.isOwn = true) : ∃ p u, v = .ref p ∧ H p = some u ∧ W p = none ∧ F p = none ∧ p ∉ B := by
  cases d with
  | own xs => obtain ⟨p, vs, h1, h2, _, h4, h5, h6⟩ := h; exact ⟨p, _, h1, h2, h4, h5, h6⟩
  | odc xs => obtain ⟨p, vs, h1, h2, _, h4, h5, h6⟩ := h; exact ⟨p, _, h1, h2, h4, h5, h6⟩
  | _ => cases o

/-- what is frozen and the boxes stay, own objects stay: a new heap -/
theorem Rel.grow (r : Rel K fa W F B s σ H) (st : Stp W F B F' B) (ew : Ex W H') (ef : Ex F' H')
    (ho : ∀ i e p o, s.get i = some e → e.isOwn = true → σ[i]? = some (some (.ref p)) → H p = some o → H' p = some o ∧ F' p = none)
    (hb : ∀ p o, p ∈ B → H p = some o → H' p = some o ∧ F' p = none) : Rel K fa W F' B s σ H' := by
  refine ⟨ew, ef, r.len, fun i d e => ?_, r.apart, r.bl, fun k xs e => ?_, r.bd⟩
  · obtain ⟨v, h1, h2⟩ := r.slot i d e
    refine ⟨v, h1, ?_⟩
    refine h2.mono st.ex st.bs (fun p o q1 q2 q3 => ?_) (fun p q1 q2 q3 => ?_) (fun p _ _ q => q)
    · subst q2; exact (ho i d p o e q1 h1 q3).1
    · subst q2
      obtain ⟨p', u, q5, q6, _⟩ := h2.own q1
      cases q5
      exact (ho i d p u e q1 h1 q6).2
  · obtain ⟨p, vs, h1, h2, h3, h4, h5⟩ := r.bx k xs e
    obtain ⟨h6, h7⟩ := hb p _ (List.mem_of_getElem? h1) h2
    exact ⟨p, vs, h1, h6, Reps.mono st.ex st.bs _ _ h3, h4, h7⟩
/-- a new object that stands for good -/
theorem Rel.new {p : Addr} {o : HO} (r : Rel K fa W F B s σ H) (n : H p = none) : Rel K fa W (upd F p o) B s σ (upd H p o) ∧ Stp W F B (upd F p o) B := by
  have nf : F p = none := r.ef.free n
  have nw : W p = none := r.ew.free n
  have st : Stp W F B (upd F p o) B := ⟨Ex.new nf, fun q u h => by
    by_cases e : q = p
    · subst e; exact .inr nw
    · rw [upd_ne e] at h; exact .inl h, [], by simp⟩
  refine ⟨r.grow st (r.ew.mut nw) (fun q u h => ?_) (fun i e q u h1 h2 h3 h4 => ?_) (fun q u h1 h2 => ?_), st⟩
  · by_cases e : q = p
    · subst e; rw [upd_same] at h ⊢; exact h
    · rw [upd_ne e] at h ⊢; exact r.ef _ _ h
  · have ne : q ≠ p := ne_of_none h4 n
    rw [upd_ne ne, upd_ne ne]
    obtain ⟨v, h5, h6⟩ := r.slot i e h1
    rw [h3] at h5; cases h5
    obtain ⟨q', _, h7, _, _, h8, _⟩ := h6.own h2
    cases h7
    exact ⟨h4, h8⟩
  · have ne : q ≠ p := ne_of_none h2 n
    rw [upd_ne ne, upd_ne ne]
    obtain ⟨k, hk⟩ := List.getElem?_of_mem h1
    have hk' : k < s.box.length := by rw [← r.bl]; exact (List.getElem?_eq_some_iff.mp hk).1
    obtain ⟨q', _, h3, _, _, _, h5⟩ := r.bx k s.box[k] (by simp [hk'])
    rw [hk] at h3; cases h3
    exact ⟨h2, h5⟩
/-- a new object of nobody's yet -/
theorem Rel.newO {p : Addr} {o : HO} (r : Rel K fa W F B s σ H) (n : H p = none) : Rel K fa W F B s σ (upd H p o) := by
  have nf : F p = none := r.ef.free n
  have nw : W p = none := r.ew.free n
  refine r.grow Stp.refl (r.ew.mut nw) (r.ef.mut nf) (fun i e q u h1 h2 h3 h4 => ?_) (fun q u h1 h2 => ?_)
  · have ne : q ≠ p := ne_of_none h4 n
    rw [upd_ne ne]
    obtain ⟨v, h5, h6⟩ := r.slot i e h1
    rw [h3] at h5; cases h5
    obtain ⟨q', _, h7, _, _, h8, _⟩ := h6.own h2
    cases h7
    exact ⟨h4, h8⟩
  · have ne : q ≠ p := ne_of_none h2 n
    rw [upd_ne ne]
    obtain ⟨k, hk⟩ := List.getElem?_of_mem h1
    have hk' : k < s.box.length := by rw [← r.bl]; exact (List.getElem?_eq_some_iff.mp hk).1
    obtain ⟨q', _, h3, _, _, _, h5⟩ := r.bx k s.box[k] (by simp [hk'])
    rw [hk] at h3; cases h3
    exact ⟨h2, h5⟩
theorem Rel.notB {p : Addr} (r : Rel K fa W F B s σ H) (n : H p = none) : p ∉ B := fun h => by
  obtain ⟨k, hk⟩ := List.getElem?_of_mem h
  have hk' : k < s.box.length := by rw [← r.bl]; exact (List.getElem?_eq_some_iff.mp hk).1
  obtain ⟨q', _, h3, h4, _⟩ := r.bx k s.box[k] (by simp [hk'])
  rw [hk] at h3; cases h3
  rw [n] at h4; cases h4
theorem Rel.newT {p : Addr} {ds : List D} {vs : List V} (r : Rel K fa W F B s σ H) (n : H p = none) (q : Reps K fa F B ds vs) :
    Rel K fa W (upd F p (.tup vs)) B s σ (upd H p (.tup vs)) ∧ Stp W F B (upd F p (.tup vs)) B ∧ Rep K fa (upd F p (.tup vs)) B (.tup ds) (.ref p) := by
  obtain ⟨h1, h2⟩ := r.new (o := .tup vs) n
  refine ⟨h1, h2, ?_⟩
  unfold Rep
  exact ⟨p, vs, rfl, SqT.of upd_same, Reps.mono h2.ex h2.bs _ _ q⟩
theorem Rel.newL {p : Addr} {ds : List D} {vs : List V} (r : Rel K fa W F B s σ H) (n : H p = none) (q : Reps K fa F B ds vs) :
    Rel K fa W F B s σ (upd H p (.lst vs)) ∧ RR K fa W F B s σ (upd H p (.lst vs)) (.own ds) (.ref p) := by
  refine ⟨r.newO n, ⟨p, vs, rfl, upd_same, q, r.ew.free n, r.ef.free n, r.notB n⟩, fun _ i e h1 h2 h3 => ?_⟩
  obtain ⟨v, h5, h6⟩ := r.slot i e h1
  rw [h3] at h5; cases h5
  obtain ⟨q', _, h7, h8, _⟩ := h6.own h2
  cases h7
  rw [n] at h8; cases h8
theorem Rel.newK {p : Addr} {ds : List (Key × D)} {vs : List (Key × V)} (r : Rel K fa W F B s σ H) (n : H p = none) (q : RepK K fa F B ds vs) :
    Rel K fa W F B s σ (upd H p (.dK vs)) ∧ RR K fa W F B s σ (upd H p (.dK vs)) (.odc ds) (.ref p) := by
  refine ⟨r.newO n, ⟨p, vs, rfl, upd_same, q, r.ew.free n, r.ef.free n, r.notB n⟩, fun _ i e h1 h2 h3 => ?_⟩
  obtain ⟨v, h5, h6⟩ := r.slot i e h1
  rw [h3] at h5; cases h5
  obtain ⟨q', _, h7, h8, _⟩ := h6.own h2
  cases h7
  rw [n] at h8; cases h8
/-- a fresh result is given out -/
theorem Rel.frzR (r : Rel K fa W F B s σ H) (h : RR K fa W F B s σ H d v) : ∃ F', Stp W F B F' B ∧ Rel K fa W F' B s σ H ∧ Rep K fa F' B d.frz v := by
  have key : ∀ p u, v = .ref p → H p = some u → d.isOwn = true → W p = none → F p = none → p ∉ B → Stp W F B (upd F p u) B ∧ Rel K fa W (upd F p u) B s σ H := by
    intro p u h1 h2 ho h4 h5 h6
    have st : Stp W F B (upd F p u) B := ⟨Ex.new h5, fun q o e => by
      by_cases c : q = p
      · subst c; exact .inr h4
      · rw [upd_ne c] at e; exact .inl e, [], by simp⟩
    refine ⟨st, r.grow st r.ew (fun q o e => ?_) (fun i e q o a1 a2 a3 a4 => ?_) (fun q o a1 a2 => ?_)⟩
    · by_cases c : q = p
      · subst c; rw [upd_same] at e; rw [h2]; exact e
      · rw [upd_ne c] at e; exact r.ef _ _ e
    · have ne : q ≠ p := fun c => h.2 ho i e a1 a2 (by rw [h1, ← c]; exact a3)
      rw [upd_ne ne]
      obtain ⟨v', h7, h8⟩ := r.slot i e a1
      rw [a3] at h7; cases h7
      obtain ⟨q', _, h9, _, _, h10, _⟩ := h8.own a2
      cases h9
      exact ⟨a4, h10⟩
    · have ne : q ≠ p := fun c => h6 (c ▸ a1)
      rw [upd_ne ne]
      obtain ⟨k, hk⟩ := List.getElem?_of_mem a1
      have hk' : k < s.box.length := by rw [← r.bl]; exact (List.getElem?_eq_some_iff.mp hk).1
      obtain ⟨q', _, h3, _, _, _, h5⟩ := r.bx k s.box[k] (by simp [hk'])
      rw [hk] at h3; cases h3
      exact ⟨a2, h5⟩
  cases d with
  | own xs =>
    obtain ⟨p, vs, h1, h2, h3, h4, h5, h6⟩ := h.1
    obtain ⟨st, r'⟩ := key p _ h1 h2 rfl h4 h5 h6
    refine ⟨_, st, r', ?_⟩
    show Rep K fa (upd F p (.lst vs)) B (.lst xs) v
    unfold Rep
    exact ⟨p, vs, h1, upd_same, Reps.mono st.ex st.bs _ _ h3⟩
  | odc xs =>
    obtain ⟨p, vs, h1, h2, h3, h4, h5, h6⟩ := h.1
    obtain ⟨st, r'⟩ := key p _ h1 h2 rfl h4 h5 h6
    refine ⟨_, st, r', ?_⟩
    show Rep K fa (upd F p (.dK vs)) B (.dic xs) v
    unfold Rep
    exact ⟨p, vs, h1, upd_same, RepK.mono st.ex st.bs _ _ h3⟩
  | _ => exact ⟨F, Stp.refl, r, h.1⟩

/-! ### slots -/
theorem get_put_same {s : S} {i : Nat} {d : D} (h : i < s.loc.length) : (s.put i d).get i = some d := by
  unfold S.get S.put
  simp [h]
theorem get_put_ne {s : S} {i j : Nat} {d : D} (h : j ≠ i) : (s.put i d).get j = s.get j := by
  unfold S.get S.put
  simp [List.getElem?_set_ne (Ne.symm h)]
theorem get_lt {s : S} {i : Nat} {d : D} (h : s.get i = some d) : i < s.loc.length := by
  unfold S.get at h
  cases q : s.loc[i]? with
  | none => rw [q] at h; simp at h
  | some o => exact (List.getElem?_eq_some_iff.mp q).1
theorem put_len (s : S) (i : Nat) (d : D) : (s.put i d).loc.length = s.loc.length := by unfold S.put; simp
theorem put_box (s : S) (i : Nat) (d : D) : (s.put i d).box = s.box := rfl
/-- a slot's own content is frozen -/
theorem Rel.frzS (r : Rel K fa W F B s σ H) {i : Nat} (h : s.get i = some d) : ∃ F' v, Stp W F B F' B ∧ Rel K fa W F' B (s.frz i) σ H ∧ σ[i]? = some (some v) ∧ Rep K fa F' B d.frz v := by
  obtain ⟨v, h1, h2⟩ := r.slot i d h
  by_cases ho : d.isOwn = true
  · obtain ⟨p, u, g1, g2, g3, g4, g5⟩ := h2.own ho
    have st : Stp W F B (upd F p u) B := ⟨Ex.new g4, fun q o e => by
      by_cases c : q = p
      · subst c; exact .inr g3
      · rw [upd_ne c] at e; exact .inl e, [], by simp⟩
    have hf : s.frz i = s.put i d.frz := by
      unfold S.frz
      rw [h]
      cases d <;> first | rfl | cases ho
    have rd : Rep K fa (upd F p u) B d.frz v := by
      cases d with
      | own xs =>
        obtain ⟨p', vs, a1, a2, a3, _⟩ := h2
        rw [g1] at a1; cases a1
        rw [g2] at a2; cases a2
        show Rep K fa _ B (.lst xs) v
        unfold Rep
        exact ⟨p, vs, g1, upd_same, Reps.mono st.ex st.bs _ _ a3⟩
      | odc xs =>
        obtain ⟨p', vs, a1, a2, a3, _⟩ := h2
        rw [g1] at a1; cases a1
        rw [g2] at a2; cases a2
        show Rep K fa _ B (.dic xs) v
        unfold Rep
        exact ⟨p, vs, g1, upd_same, RepK.mono st.ex st.bs _ _ a3⟩
      | _ => cases ho
    refine ⟨_, v, st, ?_, h1, rd⟩
    rw [hf]
    have hi := get_lt h
    refine ⟨r.ew, fun q o e => ?_, by rw [put_len]; exact r.len, fun j e hj => ?_, fun j k e f w hne hj hk oe of hv1 hv2 => ?_, r.bl, fun k xs e => ?_, r.bd⟩
    · by_cases c : q = p
      · subst c; rw [upd_same] at e; rw [g2]; exact e
      · rw [upd_ne c] at e; exact r.ef _ _ e
    · by_cases hji : j = i
      · subst hji
        rw [get_put_same hi] at hj; cases hj
        exact ⟨v, h1, SlV.of rd⟩
      · rw [get_put_ne hji] at hj
        obtain ⟨w, b1, b2⟩ := r.slot j e hj
        refine ⟨w, b1, b2.mono st.ex st.bs (fun _ _ _ _ q => q) (fun q q1 q2 q3 => ?_) (fun _ _ _ q => q)⟩
        have : q ≠ p := fun c => r.apart j i e d w hji hj h q1 ho b1 (by rw [q2, c, ← g1]; exact h1)
        rw [upd_ne this]; exact q3
    · have hji : j ≠ i := fun c => by subst c; rw [get_put_same hi] at hj; cases hj; rw [frz_own] at oe; cases oe
      have hki : k ≠ i := fun c => by subst c; rw [get_put_same hi] at hk; cases hk; rw [frz_own] at of; cases of
      rw [get_put_ne hji] at hj
      rw [get_put_ne hki] at hk
      exact r.apart j k e f w hne hj hk oe of hv1 hv2
    · obtain ⟨q, vs, c1, c2, c3, c4, c5⟩ := r.bx k xs e
      refine ⟨q, vs, c1, c2, Reps.mono st.ex st.bs _ _ c3, c4, ?_⟩
      have : q ≠ p := fun c => g5 (c ▸ List.mem_of_getElem? c1)
      rw [upd_ne this]; exact c5
  · have ho' : d.isOwn = false := by cases q : d.isOwn <;> simp_all
    have hf : s.frz i = s := by
      unfold S.frz
      rw [h]
      cases d <;> first | rfl | cases ho'
    rw [hf, frz_of ho']
    exact ⟨F, v, Stp.refl, r, h1, h2.rep ho'⟩
/-- a value is put into a slot -/
theorem Rel.put (r : Rel K fa W F B s σ H) {i : Nat} (hi : i < s.loc.length) (h : RR K fa W F B s σ H d v) : Rel K fa W F B (s.put i d) (σ.set i (some v)) H := by
  have hσ : i < σ.length := by rw [r.len]; exact hi
  refine ⟨r.ew, r.ef, by rw [put_len]; simpa using r.len, fun j e hj => ?_, fun j k e f w hne hj hk oe of hv1 hv2 => ?_, r.bl, r.bx, r.bd⟩
  · by_cases hji : j = i
    · subst hji
      rw [get_put_same hi] at hj; cases hj
      exact ⟨v, by simp [hσ], h.1⟩
    · rw [get_put_ne hji] at hj
      rw [List.getElem?_set_ne (Ne.symm hji)]
      exact r.slot j e hj
  · by_cases hji : j = i
    · subst hji
      have hki : k ≠ j := Ne.symm hne
      rw [get_put_same hi] at hj; cases hj
      rw [get_put_ne hki] at hk
      rw [List.getElem?_set_self hσ] at hv1; cases hv1
      rw [List.getElem?_set_ne (Ne.symm hki)] at hv2
      exact h.2 oe k f hk of hv2
    · rw [get_put_ne hji] at hj
      rw [List.getElem?_set_ne (Ne.symm hji)] at hv1
      by_cases hki : k = i
      · subst hki
        rw [get_put_same hi] at hk; cases hk
        rw [List.getElem?_set_self hσ] at hv2; cases hv2
        exact h.2 of j e hj oe hv1
      · rw [get_put_ne hki] at hk
        rw [List.getElem?_set_ne (Ne.symm hki)] at hv2
        exact r.apart j k e f w hne hj hk oe of hv1 hv2
/-- what a slot no longer has -/
theorem RR.mono' (h : RR K fa W F B s σ H d v) (st : Stp W F B F' B') (o : d.isOwn = false) : RR K fa W F' B' s' σ H' d v := RR.of (Rep.mono st.ex st.bs _ _ (h.rep o))
end
end Q
end

section
set_option maxRecDepth 100000
set_option maxHeartbeats 2000000
/-! QOps: the operations on data are the machine's. -/
namespace Q
open PySem PySem.Spec PyProof.Rows L2

theorem line_eq : sizeLine = LINE := sizeLine_eq
section
variable (K : PySem.W.Frag) (fa : Nat → Option Addr) (W F : Hp) (B : List Addr) (s : S) (σ : L2.St)
def Post (d : D) (Q : VK) : Prop := ∀ F' B' H' v, Stp W F B F' B' → Rel K fa W F' B' s σ H' → RR K fa W F' B' s σ H' d v → Q v H'
end
section
variable {K : PySem.W.Frag} {fa : Nat → Option Addr} {W F F' : Hp} {B B' : List Addr} {s s' : S} {σ : L2.St} {H H' : Hp} {d x y : D} {v u : V} {Q : VK}
theorem Post.same (p : Post K fa W F B s σ d Q) (r : Rel K fa W F B s σ H) (h : Rep K fa F B d v) : Q v H := p F B H v Stp.refl r (RR.of h)
theorem Post.tup {ds : List D} {vs : List V} (p : Post K fa W F B s σ (.tup ds) Q) (r : Rel K fa W F B s σ H) (h : Reps K fa F B ds vs) : ∀ a, H a = none → Q (.ref a) (upd H a (.tup vs)) := fun a n =>
  let ⟨r', st, h'⟩ := r.newT n h
  p _ _ _ _ st r' (RR.of h')
theorem Post.own {ds : List D} {vs : List V} (p : Post K fa W F B s σ (.own ds) Q) (r : Rel K fa W F B s σ H) (h : Reps K fa F B ds vs) : ∀ a, H a = none → Q (.ref a) (upd H a (.lst vs)) := fun a n =>
  let ⟨r', h'⟩ := r.newL n h
  p _ _ _ _ Stp.refl r' h'

theorem rep_int {i : Int} (h : Rep K fa F B (.int i) v) : v = .int i := by unfold Rep at h; exact h
theorem rep_bl {i : Bool} (h : Rep K fa F B (.bl i) v) : v = .bl i := by unfold Rep at h; exact h
theorem rep_str {i : Str} (h : Rep K fa F B (.str i) v) : v = .str i := by unfold Rep at h; exact h
theorem rep_non (h : Rep K fa F B .non v) : v = .non := by unfold Rep at h; exact h
theorem rep_tup {ds : List D} (h : Rep K fa F B (.tup ds) v) : ∃ p vs, v = .ref p ∧ SqT K F p vs ∧ Reps K fa F B ds vs := by unfold Rep at h; exact h
theorem rep_lst {ds : List D} (h : Rep K fa F B (.lst ds) v) : ∃ p vs, v = .ref p ∧ F p = some (.lst vs) ∧ Reps K fa F B ds vs := by unfold Rep at h; exact h
theorem of_int (i : Int) : Rep K fa F B (.int i) (.int i) := by unfold Rep; rfl
theorem of_bl (i : Bool) : Rep K fa F B (.bl i) (.bl i) := by unfold Rep; rfl
theorem of_str (i : Str) : Rep K fa F B (.str i) (.str i) := by unfold Rep; rfl
theorem of_non : Rep K fa F B .non .non := by unfold Rep; rfl
end

theorem mulOk_ok {i j : Int} (h : mulOk i j = true) : CMulW i j := of_decide_eq_true (p := i.natAbs.log2 + j.natAbs.log2 < 1000000) h
theorem powOk_ok {i j : Int} (h : powOk i j = true) : CPow i j := of_decide_eq_true (p := 0 ≤ j ∧ j ≤ 1000000 ∧ i.natAbs < 2 ^ 64) h
/-! ### two-place operators -/
def oB : BOp → Operator
  | .add => .Add | .sub => .Sub | .mul => .Mult | .fdiv => .FloorDiv | .mod => .Mod | .pow => .Pow | .shl => .LShift
def rDivW : R2 := rI (fun _ j => j ≠ 0 ∧ j.natAbs.log2 < 9000) fun i j => .int (i.fdiv j)
theorem op_divW {X : Cx} : OpR X (binaryOp .FloorDiv) rDivW := opI fun i j _ _ _ _ _ hc q => floordiv_int hc.1 q (.inl (PyProof.noPylong_of_log2 hc.2))
def rSubB : R2 := fun x y H Q => ∃ p q, x = .bl p ∧ y = .bl q ∧ Q (.int ((if p = true then (1 : Int) else 0) - if q = true then (1 : Int) else 0)) H
theorem op_subB {X : Cx} : OpR X (binaryOp .Sub) rSubB := by
  intro pins s σ H x y v u Q I rx ry h
  obtain ⟨i, j, rfl, rfl, q⟩ := h
  have e1 : v = .bool i := rx
  have e2 : u = .bool j := ry
  subst e1 e2
  exact PyProof.Rows.sub_bool ⟨.int _, H, I.tok _, ⟨_, rfl⟩, q⟩
def rB (K : PySem.W.Frag) : BOp → R2
  | .add => fun x y H Q => rI0 (fun i j => .int (i + j)) x y H Q ∨ (∃ i j, x = .str i ∧ y = .str j ∧ i.length + j.length ≤ sizeLine ∧ Q (.str (i ++ j)) H) ∨ rCatA K x y H Q ∨ rCat x y H Q
  | .sub => fun x y H Q => rI0 (fun i j => .int (i - j)) x y H Q ∨ rSubB x y H Q
  | .mul => fun x y H Q => rI CMulW (fun i j => .int (i * j)) x y H Q ∨ rRepT K x y H Q ∨ rRep x y H Q
  | .fdiv => rDivW
  | .mod => rI (fun _ j => j ≠ 0) fun i j => .int (i.fmod j)
  | .pow => rI CPow fun i j => .int (i ^ j.toNat)
  | .shl => rI CPow fun i j => .int (i * 2 ^ j.toNat)
theorem op_rB {X : Cx} (o : BOp) : OpR X (binaryOp (oB o)) (rB X.K o) := by
  cases o with
  | add => exact op_add.or (op_add_str.or (op_catA.or op_cat))
  | sub => exact op_sub.or op_subB
  | mul => exact op_mulW.or (op_repT.or op_rep)
  | fdiv => exact op_divW
  | mod => exact op_modN
  | pow => exact op_pow
  | shl => exact op_shl
section
variable {K : PySem.W.Frag} {fa : Nat → Option Addr} {W F F' : Hp} {B B' : List Addr} {s s' : S} {σ : L2.St} {H H' : Hp} {d x y : D} {v u : V} {Q : VK}
theorem rB_ok {o : BOp} (h : opB o x y = some d) (rx : Rep K fa F B x v) (ry : Rep K fa F B y u) (r : Rel K fa W F B s σ H) (p : Post K fa W F B s σ d Q) : rB K o v u H Q := by
  unfold opB at h
  split at h
  · cases h; rw [rep_int rx, rep_int ry]; exact .inl ⟨_, _, rfl, rfl, p.same r (of_int _)⟩
  · rename_i xs ys
    split at h <;> cases h
    rw [rep_str rx, rep_str ry]
    exact .inr (.inl ⟨_, _, rfl, rfl, by rw [line_eq]; assumption, p.same r (of_str _)⟩)
  · rename_i xs ys
    split at h <;> cases h
    rename_i hl
    obtain ⟨a, vs, rfl, q1, q2⟩ := rep_tup rx
    obtain ⟨b, ws, rfl, q3, q4⟩ := rep_tup ry
    refine .inr (.inr (.inl ⟨a, b, vs, ws, rfl, rfl, ex_t r.ef q1, ex_t r.ef q3, by rw [q2.length, q4.length, line_eq]; exact hl, fun e => ?_, fun _ e => ?_, fun _ _ => p.tup r (q2.append q4)⟩))
    · subst e
      have : xs = [] := List.eq_nil_of_length_eq_zero (by rw [← q2.length]; rfl)
      subst this
      exact p.same r ry
    · subst e
      have : ys = [] := List.eq_nil_of_length_eq_zero (by rw [← q4.length]; rfl)
      subst this
      refine p.same r ?_
      rw [List.append_nil]; exact rx
  · rename_i xs ys
    split at h <;> cases h
    rename_i hl
    obtain ⟨a, vs, rfl, q1, q2⟩ := rep_lst rx
    obtain ⟨b, ws, rfl, q3, q4⟩ := rep_lst ry
    exact .inr (.inr (.inr ⟨a, b, vs, ws, rfl, rfl, r.ef _ _ q1, r.ef _ _ q3, by rw [q2.length, q4.length, line_eq]; exact hl, p.own r (q2.append q4)⟩))
  · cases h; rw [rep_int rx, rep_int ry]; exact .inl ⟨_, _, rfl, rfl, p.same r (of_int _)⟩
  · cases h; rw [rep_bl rx, rep_bl ry]; exact .inr ⟨_, _, rfl, rfl, p.same r (of_int _)⟩
  · split at h <;> cases h
    rename_i hm
    rw [rep_int rx, rep_int ry]
    exact .inl ⟨_, _, rfl, rfl, mulOk_ok hm, p.same r (of_int _)⟩
  · rename_i xs k
    split at h <;> cases h
    rename_i hm
    obtain ⟨h1, h2, h3, h4⟩ := of_decide_eq_true hm
    obtain ⟨a, vs, rfl, q1, q2⟩ := rep_tup rx
    rw [rep_int ry]
    have hl := q2.length
    exact .inr (.inl ⟨a, k, vs, rfl, rfl, ex_t r.ef q1, fun e => by subst e; simp at hl; omega, h2, h3, by omega, p.tup r (q2.rep _)⟩)
  · rename_i xs k
    split at h <;> cases h
    rename_i hm
    obtain ⟨h1, h2, h3⟩ := of_decide_eq_true hm
    obtain ⟨a, vs, rfl, q1, q2⟩ := rep_lst rx
    rw [rep_int ry]
    exact .inr (.inr ⟨a, k, vs, rfl, rfl, r.ef _ _ q1, h1, h2, by rw [q2.length, line_eq]; exact h3, p.own r (q2.rep _)⟩)
  · split at h <;> cases h
    rename_i hm
    rw [rep_int rx, rep_int ry]
    exact ⟨_, _, rfl, rfl, of_decide_eq_true hm, p.same r (of_int _)⟩
  · split at h <;> cases h
    rename_i hm
    rw [rep_int rx, rep_int ry]
    exact ⟨_, _, rfl, rfl, hm, p.same r (of_int _)⟩
  · split at h <;> cases h
    rename_i hm
    rw [rep_int rx, rep_int ry]
    exact ⟨_, _, rfl, rfl, powOk_ok hm, p.same r (of_int _)⟩
  · split at h <;> cases h
    rename_i hm
    rw [rep_int rx, rep_int ry]
    exact ⟨_, _, rfl, rfl, powOk_ok hm, p.same r (of_int _)⟩
  · cases h
end

/-! ### comparisons -/
mutual
def pyD : D → PyData
  | .non => .none | .bl b => .bool b | .int i => .int i | .str x => .str x
  | .tup xs => .tuple (pyDs xs) | .lst xs => .list (pyDs xs)
  | _ => .none
def pyDs : List D → List PyData
  | [] => []
  | x :: xs => pyD x :: pyDs xs
end
mutual
theorem eq_py : ∀ (n m : Nat) (x y : D), shN n x = true → shN m y = true → PyData.eqv (pyD x) (pyD y) = eqD x y
  | n, m, x, y, hx, hy => by
    cases x <;> cases y <;> first
      | rfl
      | (simp only [shN] at hx; done)
      | (simp only [shN] at hy; done)
      | (cases n <;> simp [shN] at hx; done)
      | (cases m <;> simp [shN] at hy; done)
      | skip
    · rename_i xs ys
      cases n with
      | zero => simp [shN] at hx
      | succ n =>
        cases m with
        | zero => simp [shN] at hy
        | succ m =>
          simp only [shN, List.all_eq_true] at hx hy
          simp only [pyD, eqD, PyData.eqv]
          exact eq_pys n m xs ys hx hy
    · rename_i xs ys
      cases n with
      | zero => simp [shN] at hx
      | succ n =>
        cases m with
        | zero => simp [shN] at hy
        | succ m =>
          simp only [shN, List.all_eq_true] at hx hy
          simp only [pyD, eqD, PyData.eqv]
          exact eq_pys n m xs ys hx hy
theorem eq_pys : ∀ (n m : Nat) (xs ys : List D), (∀ x ∈ xs, shN n x = true) → (∀ y ∈ ys, shN m y = true) → PyData.eqvAll (pyDs xs) (pyDs ys) = eqDs xs ys
  | n, m, [], [], _, _ => rfl
  | n, m, [], _ :: _, _, _ => rfl
  | n, m, _ :: _, [], _, _ => rfl
  | n, m, x :: xs, y :: ys, hx, hy => by
    simp only [pyDs, eqDs, PyData.eqvAll]
    rw [eq_py n m x y (hx x (by simp)) (hy y (by simp)), eq_pys n m xs ys (fun z hz => hx z (by simp [hz])) (fun z hz => hy z (by simp [hz]))]
end

mutual
theorem sh_lay : ∀ (n : Nat) (d : D), shN n d = true → (pyD d).canLay0 = true ∧ (pyD d).depth ≤ n
  | n, .non, _ => ⟨rfl, Nat.zero_le _⟩
  | n, .bl _, _ => ⟨rfl, Nat.zero_le _⟩
  | n, .int _, _ => ⟨rfl, Nat.zero_le _⟩
  | n, .str x, h => ⟨by cases n <;> exact h, Nat.zero_le _⟩
  | 0, .tup xs, h => by simp [shN] at h
  | n + 1, .tup xs, h => by
    obtain ⟨h1, h2⟩ := sh_lays n xs (by simpa [shN] using h)
    exact ⟨h1, by simpa [pyD, PyData.depth] using h2⟩
  | 0, .lst xs, h => by simp [shN] at h
  | n + 1, .lst xs, h => by
    obtain ⟨h1, h2⟩ := sh_lays n xs (by simpa [shN] using h)
    exact ⟨h1, by simpa [pyD, PyData.depth] using h2⟩
  | n, .dic _, h => by cases n <;> simp [shN] at h
  | n, .own _, h => by cases n <;> simp [shN] at h
  | n, .odc _, h => by cases n <;> simp [shN] at h
  | n, .scr _, h => by cases n <;> simp [shN] at h
  | n, .box _, h => by cases n <;> simp [shN] at h
  | n, .fn _, h => by cases n <;> simp [shN] at h
theorem sh_lays : ∀ (n : Nat) (ds : List D), (∀ d ∈ ds, shN n d = true) → PyData.canLayAll0 (pyDs ds) = true ∧ PyData.depthAll (pyDs ds) ≤ n
  | n, [], _ => ⟨rfl, Nat.zero_le _⟩
  | n, d :: ds, h => by
    obtain ⟨h1, h2⟩ := sh_lay n d (h d (by simp))
    obtain ⟨h3, h4⟩ := sh_lays n ds (fun z hz => h z (by simp [hz]))
    refine ⟨by simp [pyDs, PyData.canLayAll0, h1, h3], ?_⟩
    simp only [pyDs, PyData.depthAll]
    omega
end
theorem shaped_of {d : D} (h : shN 60 d = true) : SeqAt.shaped (pyD d) = true := by
  obtain ⟨h1, h2⟩ := sh_lay 60 d h
  unfold SeqAt.shaped
  rw [h1, decide_eq_true (by omega : (pyD d).depth ≤ 64)]
  rfl
section
variable {K : PySem.W.Frag} {fa : Nat → Option Addr} {W F F' : Hp} {B B' : List Addr} {s s' : S} {σ : L2.St} {H H' : Hp} {d x y : D} {v u : V} {Q : VK}
mutual
theorem dp_of (e : Ex F H) : ∀ (n : Nat) (d : D) (v : V), shN n d = true → Rep K fa F B d v → Dp K H v (pyD d)
  | n, .non, v, _, h => by rw [rep_non h]; exact .non
  | n, .bl b, v, _, h => by rw [rep_bl h]; exact .bl b
  | n, .int i, v, _, h => by rw [rep_int h]; exact .int i
  | n, .str x, v, _, h => by rw [rep_str h]; exact .str x
  | 0, .tup xs, v, h, _ => by simp [shN] at h
  | n + 1, .tup xs, v, h, r => by
    obtain ⟨p, vs, rfl, h1, h2⟩ := rep_tup r
    exact .tup (ex_t e h1) (dps_of e n xs vs (by simpa [shN] using h) h2)
  | 0, .lst xs, v, h, _ => by simp [shN] at h
  | n + 1, .lst xs, v, h, r => by
    obtain ⟨p, vs, rfl, h1, h2⟩ := rep_lst r
    exact .lst (SqL.of (e _ _ h1)) (dps_of e n xs vs (by simpa [shN] using h) h2)
  | n, .dic _, _, h, _ => by cases n <;> simp [shN] at h
  | n, .own _, _, h, _ => by cases n <;> simp [shN] at h
  | n, .odc _, _, h, _ => by cases n <;> simp [shN] at h
  | n, .scr _, _, h, _ => by cases n <;> simp [shN] at h
  | n, .box _, _, h, _ => by cases n <;> simp [shN] at h
  | n, .fn _, _, h, _ => by cases n <;> simp [shN] at h
theorem dps_of (e : Ex F H) : ∀ (n : Nat) (ds : List D) (vs : List V), (∀ d ∈ ds, shN n d = true) → Reps K fa F B ds vs → DpAll K H vs (pyDs ds)
  | n, [], vs, _, h => by unfold Reps at h; subst h; exact .nil
  | n, d :: ds, vs, h, r => by
    unfold Reps at r
    obtain ⟨w, ws, rfl, h1, h2⟩ := r
    exact .cons (dp_of e n d w (h d (by simp)) h1) (dps_of e n ds ws (fun z hz => h z (by simp [hz])) h2)
end
theorem flat_of (h : Rep K fa F B d v) (f : d.isFlat = true) : flatV v = true := by
  cases d <;> first | (cases f; done) | skip
  · rw [rep_non h]; rfl
  · rw [rep_bl h]; rfl
  · rw [rep_int h]; rfl
  · rw [rep_str h]; rfl
theorem eqV_of (h : Rep K fa F B x v) (h' : Rep K fa F B y u) (f : x.isFlat = true) (f' : y.isFlat = true) : eqV v u = eqD x y := by
  cases x <;> first | (cases f; done) | skip
  all_goals first | have e := rep_non h | have e := rep_bl h | have e := rep_int h | have e := rep_str h
  all_goals subst e
  all_goals cases y <;> first | (cases f'; done) | skip
  all_goals first | have e := rep_non h' | have e := rep_bl h' | have e := rep_int h' | have e := rep_str h'
  all_goals subst e
  all_goals rfl
theorem flats_of : ∀ {ds : List D} {vs : List V}, Reps K fa F B ds vs → ds.all D.isFlat = true → vs.all flatV = true
  | [], vs, h, _ => by unfold Reps at h; subst h; rfl
  | d :: ds, vs, h, f => by
    unfold Reps at h
    obtain ⟨w, ws, rfl, h1, h2⟩ := h
    rw [List.all_cons, Bool.and_eq_true] at f ⊢
    exact ⟨flat_of h1 f.1, flats_of h2 f.2⟩
theorem inV_of (rx : Rep K fa F B x v) (fx : x.isFlat = true) : ∀ {ds : List D} {vs : List V}, Reps K fa F B ds vs → ds.all D.isFlat = true → inV v vs = ds.any fun y => eqD y x
  | [], vs, h, _ => by unfold Reps at h; subst h; rfl
  | d :: ds, vs, h, f => by
    unfold Reps at h
    obtain ⟨w, ws, rfl, h1, h2⟩ := h
    rw [List.all_cons, Bool.and_eq_true] at f
    show (eqV w v || inV v ws) = (eqD d x || ds.any fun y => eqD y x)
    rw [eqV_of h1 rx f.1 fx, inV_of rx fx h2 f.2]
end
theorem any_py {x : D} (hx : shN 60 x = true) : ∀ ds : List D, ds.all (shN 59) = true → (pyDs ds).any (fun z => PyData.eqv z (pyD x)) = ds.any fun y => eqD y x
  | [], _ => rfl
  | d :: ds, h => by
    rw [List.all_cons, Bool.and_eq_true] at h
    show (PyData.eqv (pyD d) (pyD x) || (pyDs ds).any fun z => PyData.eqv z (pyD x)) = (eqD d x || ds.any fun y => eqD y x)
    rw [eq_py 59 60 d x h.1 hx, any_py hx ds h.2]
/-- x in a list or a tuple of data of any depth -/
def rInX (K : PySem.W.Frag) (neg : Bool) : R2 := fun x y H Q => ∃ d ds, Dp K H x d ∧ (Dp K H y (.list ds) ∨ Dp K H y (.tuple ds)) ∧ d.canLay0 = true ∧ d.depth ≤ 60 ∧ PyData.canLayAll0 ds = true ∧ Q (.bl (if neg then !ds.any (fun z => PyData.eqv z d) else ds.any (fun z => PyData.eqv z d))) H
theorem op_inX {X : Cx} (hu : X.A.units + 64 < cLine) : OpR X (compareOp .In) (rInX X.K false) := by
  intro pins s σ H x y v u Q I rx ry h
  obtain ⟨d, ds, hd, he, sd, dd, se, q⟩ := h
  obtain ⟨as, r1⟩ := Dp.reads I d x v hd rx
  have room : X.A.units + 1 + min (PyData.depthAll ds) d.depth < cLine := by
    have := Nat.min_le_right (PyData.depthAll ds) d.depth
    omega
  rcases he with he | he
  · obtain ⟨bs, r2⟩ := Dp.reads I (.list ds) y u he ry
    exact SeqAt.in_list_reads r2 r1 se sd room ⟨.bl _, H, I, rfl, q⟩
  · obtain ⟨bs, r2⟩ := Dp.reads I (.tuple ds) y u he ry
    exact SeqAt.in_tuple_reads r2 r1 se sd room ⟨.bl _, H, I, rfl, q⟩
theorem op_notInX {X : Cx} (hu : X.A.units + 64 < cLine) : OpR X (compareOp .NotIn) (rInX X.K true) := by
  intro pins s σ H x y v u Q I rx ry h
  obtain ⟨d, ds, hd, he, sd, dd, se, q⟩ := h
  obtain ⟨as, r1⟩ := Dp.reads I d x v hd rx
  have room : X.A.units + 1 + min (PyData.depthAll ds) d.depth < cLine := by
    have := Nat.min_le_right (PyData.depthAll ds) d.depth
    omega
  rcases he with he | he
  · obtain ⟨bs, r2⟩ := Dp.reads I (.list ds) y u he ry
    exact SeqAt.notIn_list_reads r2 r1 se sd room ⟨.bl _, H, I, rfl, q⟩
  · obtain ⟨bs, r2⟩ := Dp.reads I (.tuple ds) y u he ry
    exact SeqAt.notIn_tuple_reads r2 r1 se sd room ⟨.bl _, H, I, rfl, q⟩
theorem count_py {x : D} (hx : shN 60 x = true) : ∀ ds : List D, ds.all (shN 59) = true → (pyDs ds).countP (fun z => PyData.eqv z (pyD x)) = ds.countP fun y => eqD y x
  | [], _ => rfl
  | d :: ds, h => by
    rw [List.all_cons, Bool.and_eq_true] at h
    show (pyD d :: pyDs ds).countP (fun z => PyData.eqv z (pyD x)) = _
    rw [List.countP_cons, List.countP_cons, eq_py 59 60 d x h.1 hx, count_py hx ds h.2]
/-- l.count(x), of data of any depth -/
def rCntD (K : PySem.W.Frag) : V → List V → Hp → VK → Prop := fun x xs H Q => ∃ (a : Addr) (y : V) (d : PyData) (ds : List PyData), x = V.ref a ∧ xs = [y] ∧ Dp K H (V.ref a) (.list ds) ∧ Dp K H y d ∧ d.canLay0 = true ∧ d.depth ≤ 60 ∧ PyData.canLayAll0 ds = true ∧ Q (.int ((ds.countP fun z => PyData.eqv z d : Nat) : Int)) H
theorem mt_cntD {X : Cx} (hu : X.A.units + 64 < cLine) : MtR X "list.count" (rCntD X.K) := by
  intro pins s σ H x xs v us Q I rx rxs h
  obtain ⟨a, y, d, ds, rfl, rfl, hl, hy, sd, dd, se, q⟩ := h
  cases rx
  obtain ⟨u, rfl, ru⟩ := rxs.one
  obtain ⟨bs, r1⟩ := Dp.reads I d y u hy ru
  have room : X.A.units + 1 + min (PyData.depthAll ds) d.depth < cLine := by
    have := Nat.min_le_right (PyData.depthAll ds) d.depth
    omega
  cases hl with
  | lst hs ha =>
    obtain ⟨its, rv, ⟨⟨cls, dc, data, sls⟩, n, ho, hc, hdn, hdt⟩, hlen⟩ := I.list hs
    simp only at hc hdt
    subst hc hdt
    obtain ⟨as, h4⟩ := Dp.readsAll I ds _ its ha rv
    have hmap : its.map (SeqAt.readOf s.heap) = ds := SeqAt.readsAll_map ds its as se h4
    refine call_meets PySem.F.slot_list_count ⟨_, ho, rfl⟩ PySem.F.entry_list_count (PySem.F.args_list_count_2 _ _)
      (SeqAt.list_countAt a its.toArray n dc sls u (fun w => PyData.eqv (SeqAt.readOf s.heap w) d)) ⟨ho, SeqAt.items_eqAt (vs := its.toArray) (show ReadsAll s.heap its.toArray.toList ds as from h4) r1 se sd room, ?_⟩
    have ec : its.toArray.toList.countP (fun w => PyData.eqv (SeqAt.readOf s.heap w) d) = ds.countP fun z => PyData.eqv z d := by
      rw [← hmap, List.countP_map]; rfl
    refine ⟨.int ((ds.countP fun z => PyData.eqv z d : Nat) : Int), H, I.tok _, ⟨s.toks, ?_⟩, q⟩
    show Value.int ((its.toArray.toList.countP (fun w => PyData.eqv (SeqAt.readOf s.heap w) d) : Nat) : Int) s.toks = Value.int ((ds.countP fun z => PyData.eqv z d : Nat) : Int) s.toks
    rw [ec]
def oC : COp → CmpOp
  | .eq => .Eq | .ne => .NotEq | .lt => .Lt | .le => .LtE | .gt => .Gt | .ge => .GtE | .isin => .In | .notin => .NotIn | .isN => .Is | .notN => .IsNot
def rC (K : PySem.W.Frag) : COp → R2
  | .eq => rEqD K
  | .ne => rNeD K
  | .lt => rI0 fun i j => .bl (decide (i < j))
  | .le => rI0 fun i j => .bl (decide (i ≤ j))
  | .gt => rI0 fun i j => .bl (decide (j < i))
  | .ge => rI0 fun i j => .bl (decide (j ≤ i))
  | .isin => rInX K false
  | .notin => rInX K true
  | .isN => fun x y H Q => (y = .non ∧ Q (.bl (decide (x = .non))) H) ∨ rIsB x y H Q
  | .notN => fun x y H Q => (y = .non ∧ Q (.bl (!decide (x = .non))) H) ∨ rNotB x y H Q
theorem op_rC {X : Cx} (hu : X.A.units + 64 < cLine) (o : COp) : OpR X (compareOp (oC o)) (rC X.K o) := by
  cases o with
  | eq => exact op_eqD hu
  | ne => exact op_neD hu
  | lt => exact op_lt
  | le => exact op_le
  | gt => exact op_gt
  | ge => exact op_ge
  | isin => exact op_inX hu
  | notin => exact op_notInX hu
  | isN =>
    intro pins s σ H x y v u Q I rx ry h
    rcases h with h | h
    · exact op_isN pins s σ H x y v u Q I rx ry h
    · exact op_isBl pins s σ H x y v u Q I rx ry h
  | notN =>
    intro pins s σ H x y v u Q I rx ry h
    rcases h with h | h
    · exact op_notN pins s σ H x y v u Q I rx ry h
    · exact op_notBl pins s σ H x y v u Q I rx ry h
section
variable {K : PySem.W.Frag} {fa : Nat → Option Addr} {W F F' : Hp} {B B' : List Addr} {s s' : S} {σ : L2.St} {H H' : Hp} {d x y : D} {v u : V} {Q : VK}
theorem rep_isN (h : Rep K fa F B x v) : decide (v = .non) = x.isNon := by
  cases x <;> unfold Rep at h
  · subst h; rfl
  · subst h; rfl
  · subst h; rfl
  · subst h; rfl
  · obtain ⟨p, _, rfl, _⟩ := h; rfl
  · obtain ⟨p, _, rfl, _⟩ := h; rfl
  · obtain ⟨p, _, rfl, _⟩ := h; rfl
  · exact h.elim
  · exact h.elim
  · obtain ⟨p, rfl, _⟩ := h; rfl
  · obtain ⟨p, rfl, _⟩ := h; rfl
  · obtain ⟨p, rfl, _⟩ := h; rfl
theorem rC_ok {o : COp} {b : Bool} (h : opC o x y = some b) (rx : Rep K fa F B x v) (ry : Rep K fa F B y u) (e : Ex F H) (q : Q (.bl b) H) : rC K o v u H Q := by
  unfold opC at h
  split at h
  · split at h <;> cases h
    rename_i hs
    rw [Bool.and_eq_true] at hs
    exact ⟨pyD x, pyD y, dp_of e _ _ _ hs.1 rx, dp_of e _ _ _ hs.2 ry, shaped_of hs.1, shaped_of hs.2, by rw [eq_py _ _ _ _ hs.1 hs.2]; exact q⟩
  · split at h <;> cases h
    rename_i hs
    rw [Bool.and_eq_true] at hs
    exact ⟨pyD x, pyD y, dp_of e _ _ _ hs.1 rx, dp_of e _ _ _ hs.2 ry, shaped_of hs.1, shaped_of hs.2, by rw [eq_py _ _ _ _ hs.1 hs.2]; exact q⟩
  · cases h; rw [rep_int rx, rep_int ry]; exact ⟨_, _, rfl, rfl, q⟩
  · cases h; rw [rep_int rx, rep_int ry]; exact ⟨_, _, rfl, rfl, q⟩
  · cases h; rw [rep_int rx, rep_int ry]; exact ⟨_, _, rfl, rfl, q⟩
  · cases h; rw [rep_int rx, rep_int ry]; exact ⟨_, _, rfl, rfl, q⟩
  · split at h <;> cases h
    rename_i hs
    rw [Bool.and_eq_true] at hs
    have hl := sh_lay 60 x hs.1
    have hs' : shN 60 (.tup _) = true := hs.2
    exact ⟨pyD x, pyDs _, dp_of e _ _ _ hs.1 rx, .inr (dp_of e 60 _ _ hs' ry), hl.1, hl.2, (sh_lays 59 _ (List.all_eq_true.mp hs.2)).1, by rw [any_py hs.1 _ hs.2]; exact q⟩
  · split at h <;> cases h
    rename_i hs
    rw [Bool.and_eq_true] at hs
    have hl := sh_lay 60 x hs.1
    have hs' : shN 60 (.lst _) = true := hs.2
    exact ⟨pyD x, pyDs _, dp_of e _ _ _ hs.1 rx, .inl (dp_of e 60 _ _ hs' ry), hl.1, hl.2, (sh_lays 59 _ (List.all_eq_true.mp hs.2)).1, by rw [any_py hs.1 _ hs.2]; exact q⟩
  · split at h <;> cases h
    rename_i hs
    rw [Bool.and_eq_true] at hs
    have hl := sh_lay 60 x hs.1
    have hs' : shN 60 (.tup _) = true := hs.2
    exact ⟨pyD x, pyDs _, dp_of e _ _ _ hs.1 rx, .inr (dp_of e 60 _ _ hs' ry), hl.1, hl.2, (sh_lays 59 _ (List.all_eq_true.mp hs.2)).1, by rw [any_py hs.1 _ hs.2]; exact q⟩
  · split at h <;> cases h
    rename_i hs
    rw [Bool.and_eq_true] at hs
    have hl := sh_lay 60 x hs.1
    have hs' : shN 60 (.lst _) = true := hs.2
    exact ⟨pyD x, pyDs _, dp_of e _ _ _ hs.1 rx, .inl (dp_of e 60 _ _ hs' ry), hl.1, hl.2, (sh_lays 59 _ (List.all_eq_true.mp hs.2)).1, by rw [any_py hs.1 _ hs.2]; exact q⟩
  · cases h
    refine .inl ⟨rep_non ry, ?_⟩
    rw [rep_isN rx]; exact q
  · cases h
    refine .inl ⟨rep_non ry, ?_⟩
    rw [rep_isN rx]; exact q
  · cases h
    unfold Rep at rx ry
    exact .inr ⟨_, _, rx, ry, q⟩
  · cases h
    unfold Rep at rx ry
    exact .inr ⟨_, _, rx, ry, q⟩
  · cases h
end
end Q
end

section
set_option maxRecDepth 100000
set_option maxHeartbeats 2000000
/-! QOps2: subscripts, slices, lengths, truth, built-ins on data. -/
namespace Q
open PySem PySem.Spec PyProof.Rows L2

section
variable {K : PySem.W.Frag} {fa : Nat → Option Addr} {W F F' : Hp} {B B' : List Addr} {s s' : S} {σ : L2.St} {H H' : Hp} {d x y : D} {v u : V} {Q : VK}
/-- what stands in a slot, a box, or a value: its items in the heap now -/
def SqA (K : PySem.W.Frag) (H : Hp) (v : V) (vs : List V) : Prop := ∃ p, v = .ref p ∧ (SqL K H p vs ∨ SqT K H p vs)
theorem rep_scr {ns : List Int} (h : Rep K fa F B (.scr ns) v) : ∃ p, v = .ref p ∧ SqL K F p (ns.map V.int) := by unfold Rep at h; exact h
theorem rep_dic {ns : List (Key × D)} (h : Rep K fa F B (.dic ns) v) : ∃ p ws, v = .ref p ∧ F p = some (.dK ws) ∧ RepK K fa F B ns ws := by unfold Rep at h; exact h
theorem rep_box {k : Nat} (h : Rep K fa F B (.box k) v) : ∃ p, v = .ref p ∧ B[k]? = some p := by unfold Rep at h; exact h
/-- a slot's container: what is found in it stands so in the heap -/
theorem Rel.cont (r : Rel K fa W F B s σ H) {i : Nat} (h : s.cont i = some d) : (∃ v, σ[i]? = some (some v) ∧ (Rep K fa F B d v ∨ ∃ xs, d = .own xs ∧ ∃ p vs, v = .ref p ∧ H p = some (.lst vs) ∧ Reps K fa F B xs vs)) ∨ (∃ v, σ[i]? = some (some v) ∧ ∃ xs p ws, d = .odc xs ∧ v = .ref p ∧ H p = some (.dK ws) ∧ RepK K fa F B xs ws) := by
  unfold S.cont at h
  cases q : s.get i with
  | none => rw [q] at h; simp at h
  | some e =>
    rw [q] at h
    obtain ⟨v, h1, h2⟩ := r.slot i e q
    cases e with
    | box k =>
      have h' : (s.box[k]?).map D.own = some d := h
      cases q2 : s.box[k]? with
      | none => rw [q2] at h'; cases h'
      | some xs =>
        rw [q2] at h'; cases h'
        obtain ⟨p, e1, e2⟩ := rep_box (SlV.rep h2 rfl)
        obtain ⟨p', vs, a1, a2, a3, _⟩ := r.bx k xs q2
        rw [e2] at a1; cases a1
        exact .inl ⟨v, h1, .inr ⟨xs, rfl, p, vs, e1, a2, a3⟩⟩
    | own xs =>
      cases h
      obtain ⟨p, vs, a1, a2, a3, _⟩ := h2
      exact .inl ⟨v, h1, .inr ⟨xs, rfl, p, vs, a1, a2, a3⟩⟩
    | odc xs =>
      cases h
      obtain ⟨p, vs, a1, a2, a3, _⟩ := h2
      exact .inr ⟨v, h1, xs, p, vs, rfl, a1, a2, a3⟩
    | _ => cases h; exact .inl ⟨v, h1, .inl h2⟩
theorem rIx_tup {p : Addr} {ds : List D} {vs : List V} {i : Int} (h : SqT K H p vs) (q : Reps K fa F B ds vs) (e : atI ds i = some d) (k : ∀ w, Rep K fa F B d w → Q w H) : rIx K (.ref p) (.int i) H Q := by
  obtain ⟨w, h1, h2⟩ := q.at_ e
  exact .inr (.inl ⟨p, vs, i, w, rfl, rfl, h, h1, k w h2⟩)
theorem rIx_lst {p : Addr} {ds : List D} {vs : List V} {i : Int} (h : SqL K H p vs) (q : Reps K fa F B ds vs) (e : atI ds i = some d) (k : ∀ w, Rep K fa F B d w → Q w H) : rIx K (.ref p) (.int i) H Q := by
  obtain ⟨w, h1, h2⟩ := q.at_ e
  exact .inl ⟨p, vs, i, w, rfl, rfl, h, h1, k w h2⟩
theorem rIx_ok (h : ixD x y = some d) (rx : Rep K fa F B x v) (ry : Rep K fa F B y u) (e : Ex F H) (k : ∀ w, Rep K fa F B d w → Q w H) : rIx K v u H Q := by
  unfold ixD at h
  split at h
  · obtain ⟨p, vs, rfl, h1, h2⟩ := rep_tup rx
    rw [rep_int ry]
    exact rIx_tup (ex_t e h1) h2 h k
  · obtain ⟨p, vs, rfl, h1, h2⟩ := rep_lst rx
    rw [rep_int ry]
    exact rIx_lst (SqL.of (e _ _ h1)) h2 h k
  · unfold Rep at rx; exact rx.elim
  · cases h
theorem rIx_slot {i : Nat} (r : Rel K fa W F B s σ H) (h : ((s.cont i).bind fun x => ixD x y) = some d) (hv : σ[i]? = some (some v)) (ry : Rep K fa F B y u) (k : ∀ w, Rep K fa F B d w → Q w H) : rIx K v u H Q := by
  cases q : s.cont i with
  | none => rw [q] at h; simp at h
  | some e =>
    rw [q] at h
    rcases r.cont q with ⟨w, h1, h2 | ⟨xs, rfl, p, vs, rfl, h3, h4⟩⟩ | ⟨w, h1, xs, p, ws, rfl, _⟩
    · rw [hv] at h1; cases h1
      exact rIx_ok h h2 ry r.ef k
    · rw [hv] at h1; cases h1
      have h' : ixD (.own xs) y = some d := h
      unfold ixD at h'
      split at h' <;> first | (cases h'; done) | skip
      all_goals rename_i e1
      all_goals cases e1
      rw [rep_int ry]
      exact rIx_lst (SqL.of h3) h4 h' k
    · have h' : ixD (.odc xs) y = some d := h
      unfold ixD at h'
      split at h' <;> first | (cases h'; done) | (rename_i e1; cases e1)
/-! ### slices -/
def rSl (K : PySem.W.Frag) : V → Option Int → Option Int → Hp → VK → Prop := fun x lo hi H Q => rSlL K x lo hi H Q ∨ rSlA K x lo hi H Q
theorem sl_any {X : Cx} : L2.SlR X (rSl X.K) := sl_list.or sl_tupA
theorem cut_whole {ds : List D} {lo hi : Option Int} (h1 : HT.sIx ds.length 0 lo = 0) (h2 : HT.sIx ds.length ds.length hi = ds.length) : cutD ds lo hi = ds := by
  unfold cutD
  rw [h1, h2]; simp
theorem rSl_tup {p : Addr} {ds : List D} {vs : List V} {lo hi : Option Int} (r : Rel K fa W F B s σ H) (h : SqT K H p vs) (q : Reps K fa F B ds vs) (hp : Rep K fa F B (.tup ds) (.ref p)) (k : Post K fa W F B s σ (.tup (cutD ds lo hi)) Q) : rSl K (.ref p) lo hi H Q := by
  refine .inr ⟨p, vs, rfl, h, fun e => ?_, fun _ => k.tup r (q.cut lo hi)⟩
  refine k.same r ?_
  rw [cut_whole (by rw [← q.length]; exact e.1) (by rw [← q.length]; exact e.2)]
  exact hp
theorem rSl_lst {p : Addr} {ds : List D} {vs : List V} {lo hi : Option Int} (r : Rel K fa W F B s σ H) (h : SqL K H p vs) (q : Reps K fa F B ds vs) (k : Post K fa W F B s σ (.own (cutD ds lo hi)) Q) : rSl K (.ref p) lo hi H Q :=
  .inl ⟨p, vs, rfl, h, k.own r (q.cut lo hi)⟩
theorem rSl_ok {l h' : Option Int} (h : slD x l h' = some d) (rx : Rep K fa F B x v) (r : Rel K fa W F B s σ H) (k : Post K fa W F B s σ d Q) : rSl K v l h' H Q := by
  unfold slD at h
  cases x <;> first | (cases h; done) | skip
  · cases h
    obtain ⟨p, vs, rfl, h1, h2⟩ := rep_tup rx
    exact rSl_tup r (ex_t r.ef h1) h2 rx k
  · cases h
    obtain ⟨p, vs, rfl, h1, h2⟩ := rep_lst rx
    exact rSl_lst r (SqL.of (r.ef _ _ h1)) h2 k
  · unfold Rep at rx; exact rx.elim
  · cases h
    obtain ⟨p, rfl, h1⟩ := rep_scr rx
    exact rSl_lst r (ex_l r.ef h1) (Reps.ints _) k
theorem rSl_slot {i : Nat} {l h' : Option Int} (r : Rel K fa W F B s σ H) (h : ((s.cont i).bind fun x => slD x l h') = some d) (hv : σ[i]? = some (some v)) (k : Post K fa W F B s σ d Q) : rSl K v l h' H Q := by
  cases q : s.cont i with
  | none => rw [q] at h; simp at h
  | some e =>
    rw [q] at h
    rcases r.cont q with ⟨w, h1, h2 | ⟨xs, rfl, p, vs, rfl, h3, h4⟩⟩ | ⟨w, h1, xs, p, ws, rfl, _⟩
    · rw [hv] at h1; cases h1
      exact rSl_ok h h2 r k
    · rw [hv] at h1; cases h1
      have h1 : slD (.own xs) l h' = some d := h
      cases h1
      exact rSl_lst r (SqL.of h3) h4 k
    · have h1 : slD (.odc xs) l h' = some d := h
      cases h1
/-! ### truth -/
theorem empty_of {ds : List D} {vs : List V} (h : Reps K fa F B ds vs) : (!vs.isEmpty) = !ds.isEmpty := by
  have e := h.length
  cases ds <;> cases vs <;> first | rfl | simp at e
theorem emptyK_of : ∀ {ds : List (Key × D)} {vs : List (Key × V)}, RepK K fa F B ds vs → vs.length = ds.length
  | [], vs, h => by unfold RepK at h; subst h; rfl
  | (k, d) :: ds, vs, h => by
    unfold RepK at h
    obtain ⟨w, ws, rfl, _, h2⟩ := h
    simp [emptyK_of h2]
theorem empty_ofK {ds : List (Key × D)} {vs : List (Key × V)} (h : RepK K fa F B ds vs) : (!vs.isEmpty) = !ds.isEmpty := by
  have e := emptyK_of h
  cases ds <;> cases vs <;> first | rfl | simp at e
theorem tru_rep {b : Bool} (h : truD d = some b) (r : SlV K fa W F B H d v) (e : Ex F H) : TruV K v H b := by
  cases d with
  | non => cases h; rw [rep_non (r.rep rfl)]; rfl
  | bl k => cases h; rw [rep_bl (r.rep rfl)]; rfl
  | int k => cases h; rw [rep_int (r.rep rfl)]; rfl
  | str x =>
    rw [rep_str (r.rep rfl)]
    have h' : (if x.length ≤ LINE then some (x.length != 0) else none) = some b := h
    split at h'
    · rename_i hl
      cases h'
      refine ⟨by rw [line_eq]; exact hl, ?_⟩
      rw [Bool.eq_iff_iff]
      simp
    · cases h'
  | tup xs =>
    cases h
    obtain ⟨p, vs, rfl, h1, h2⟩ := rep_tup (r.rep rfl)
    exact .inr (.inl ⟨vs, ex_t e h1, (empty_of h2).symm⟩)
  | lst xs =>
    cases h
    obtain ⟨p, vs, rfl, h1, h2⟩ := rep_lst (r.rep rfl)
    exact .inl ⟨vs, SqL.of (e _ _ h1), (empty_of h2).symm⟩
  | own xs =>
    cases h
    obtain ⟨p, vs, rfl, h1, h2, _⟩ := r
    exact .inl ⟨vs, SqL.of h1, (empty_of h2).symm⟩
  | dic xs =>
    cases h
    obtain ⟨p, vs, rfl, h1, h2⟩ := rep_dic (r.rep rfl)
    exact .inr (.inr ⟨vs, e _ _ h1, (empty_ofK h2).symm⟩)
  | odc xs =>
    cases h
    obtain ⟨p, vs, rfl, h1, h2, _⟩ := r
    exact .inr (.inr ⟨vs, h1, (empty_ofK h2).symm⟩)
  | _ => cases h
/-! ### isinstance -/
def tyN : Ty → String
  | .int => "int" | .bool => "bool" | .tuple => "tuple" | .list => "list" | .str => "str" | .dict => "dict"
def tyD : D → Option String
  | .non => some "NoneType" | .bl _ => some "bool" | .int _ => some "int" | .str _ => some "str" | .tup _ => some "tuple" | .lst _ => some "list" | .own _ => some "list"
  | .dic _ => some "dict" | .odc _ => some "dict" | .scr _ => some "list" | .box _ => some "list" | .fn _ => none
theorem kit_tab (t : Ty) : (kitB "NoneType" (tyN t) = some (isTy .non t)) ∧ (kitB "bool" (tyN t) = some (isTy (.bl true) t)) ∧ (kitB "int" (tyN t) = some (isTy (.int 0) t)) ∧ (kitB "str" (tyN t) = some (isTy (.str "") t)) ∧
    (kitB "tuple" (tyN t) = some (isTy (.tup []) t)) ∧ (kitB "list" (tyN t) = some (isTy (.lst []) t)) ∧ (kitB "dict" (tyN t) = some (isTy (.dic []) t)) := by
  cases t <;> decide +kernel
theorem kit_of' {n : String} (h : tyD d = some n) (t : Ty) : kitB n (tyN t) = some (isTy d.frz t) := by
  obtain ⟨h1, h2, h3, h4, h5, h6, h7⟩ := kit_tab t
  cases d <;> cases h <;> cases t <;> assumption
theorem tyX_of {n : String} (h : tyD d = some n) (r : Rel K fa W F B s σ H) (q : Rep K fa F B d v) : TyX K H v (.type n) := by
  cases d with
  | non => cases h; rw [rep_non q]; exact .base .non
  | bl k => cases h; rw [rep_bl q]; exact .base (.bl _)
  | int k => cases h; rw [rep_int q]; exact .base (.int _)
  | str x => cases h; rw [rep_str q]; exact .base (.str _)
  | tup xs =>
    cases h
    obtain ⟨p, vs, rfl, h1, h2⟩ := rep_tup q
    rcases ex_t r.ef h1 with (h3 | ⟨o, h3⟩) | ⟨o, its, k, h3, h4, _⟩
    · exact .base (.tup h3)
    · exact .fTuple h3
    · exact .kTuple h3 h4
  | lst xs =>
    cases h
    obtain ⟨p, vs, rfl, h1, h2⟩ := rep_lst q
    exact .base (.lst (r.ef _ _ h1))
  | dic xs =>
    cases h
    obtain ⟨p, vs, rfl, h1, h2⟩ := rep_dic q
    exact .base (.dK (r.ef _ _ h1))
  | scr xs =>
    cases h
    obtain ⟨p, rfl, h1⟩ := rep_scr q
    rcases ex_l r.ef h1 with (h3 | ⟨o, h3⟩) | ⟨o, its, k, h3, h4, _⟩
    · exact .base (.lst h3)
    · exact .base (.frz h3)
    · exact .kList h3 h4
  | box k =>
    cases h
    obtain ⟨p, rfl, h1⟩ := rep_box q
    have hk : k < s.box.length := by rw [← r.bl]; exact (List.getElem?_eq_some_iff.mp h1).1
    obtain ⟨p', vs, a1, a2, _⟩ := r.bx k s.box[k] (by simp [hk])
    rw [h1] at a1; cases a1
    exact .base (.lst a2)
  | fn k => cases h
  | own xs => unfold Rep at q; exact q.elim
  | odc xs => unfold Rep at q; exact q.elim
theorem kitAny_of {n : String} (h : tyD d = some n) : ∀ ts : List Ty, PySem.W.kitAny K (.type n) (ts.map fun t => Value.type (tyN t)) = some (ts.any (isTy d.frz))
  | [] => rfl
  | t :: ts => kitAny_cons (kit_ty (kit_of' h t)) (fun e => by rw [kitAny_of h ts, List.any_cons, e]; rfl) (fun e => by rw [List.any_cons, e]; rfl)
/-! ### built-ins -/
theorem allB_ok : ∀ {ds : List D} {bs : List Bool} {vs : List V}, allB ds = some bs → Reps K fa F B ds vs → vs = bs.map V.bl
  | [], bs, vs, h, r => by cases h; unfold Reps at r; exact r
  | d :: ds, bs, vs, h, r => by
    unfold Reps at r
    obtain ⟨w, ws, rfl, h1, h2⟩ := r
    cases d <;> first | (cases h; done) | skip
    rename_i b
    have h' : (allB ds).map (b :: ·) = some bs := h
    cases q : allB ds with
    | none => rw [q] at h'; cases h'
    | some cs =>
      rw [q] at h'; cases h'
      rw [rep_bl h1, allB_ok q h2]; rfl
theorem allI_ok : ∀ {ds : List D} {bs : List Int} {vs : List V}, allI ds = some bs → Reps K fa F B ds vs → vs = bs.map V.int
  | [], bs, vs, h, r => by cases h; unfold Reps at r; exact r
  | d :: ds, bs, vs, h, r => by
    unfold Reps at r
    obtain ⟨w, ws, rfl, h1, h2⟩ := r
    cases d <;> first | (cases h; done) | skip
    rename_i b
    have h' : (allI ds).map (b :: ·) = some bs := h
    cases q : allI ds with
    | none => rw [q] at h'; cases h'
    | some cs =>
      rw [q] at h'; cases h'
      rw [rep_int h1, allI_ok q h2]; rfl
theorem minL_uni : ∀ {ns : List Int} {m : Int}, m ∈ ns → (∀ y, y ∈ ns → m ≤ y) → minL ns = m
  | [], m, h, _ => by cases h
  | [a], m, h, _ => by simp at h; subst h; rfl
  | a :: b :: r, m, h, k => by
    show (if a ≤ minL (b :: r) then a else minL (b :: r)) = m
    have ex : ∀ (l : List Int), l ≠ [] → minL l ∈ l ∧ ∀ y ∈ l, minL l ≤ y := by
      intro l
      induction l with
      | nil => intro h; exact absurd rfl h
      | cons c t ih =>
        intro _
        cases t with
        | nil => exact ⟨by simp [minL], fun y hy => by simp at hy; subst hy; exact Int.le_refl _⟩
        | cons e t =>
          obtain ⟨i1, i2⟩ := ih (by simp)
          show (if c ≤ minL (e :: t) then c else minL (e :: t)) ∈ _ ∧ ∀ y ∈ _, (if c ≤ minL (e :: t) then c else minL (e :: t)) ≤ y
          split
          · refine ⟨by simp, fun y hy => ?_⟩
            rcases List.mem_cons.mp hy with rfl | hy
            · exact Int.le_refl _
            · have := i2 y hy; omega
          · refine ⟨List.mem_cons_of_mem _ i1, fun y hy => ?_⟩
            rcases List.mem_cons.mp hy with rfl | hy
            · omega
            · exact i2 y hy
    obtain ⟨i1, i2⟩ := ex (b :: r) (by simp)
    split
    · rename_i c
      have := k a (by simp)
      rcases List.mem_cons.mp h with rfl | h'
      · rfl
      · have := i2 m h'; omega
    · rename_i c
      have := k _ (List.mem_cons_of_mem a i1)
      rcases List.mem_cons.mp h with rfl | h'
      · omega
      · have := i2 m h'; omega
theorem maxL_uni : ∀ {ns : List Int} {m : Int}, m ∈ ns → (∀ y, y ∈ ns → y ≤ m) → maxL ns = m
  | [], m, h, _ => by cases h
  | [a], m, h, _ => by simp at h; subst h; rfl
  | a :: b :: r, m, h, k => by
    show (if maxL (b :: r) ≤ a then a else maxL (b :: r)) = m
    have ex : ∀ (l : List Int), l ≠ [] → maxL l ∈ l ∧ ∀ y ∈ l, y ≤ maxL l := by
      intro l
      induction l with
      | nil => intro h; exact absurd rfl h
      | cons c t ih =>
        intro _
        cases t with
        | nil => exact ⟨by simp [maxL], fun y hy => by simp at hy; subst hy; exact Int.le_refl _⟩
        | cons e t =>
          obtain ⟨i1, i2⟩ := ih (by simp)
          show (if maxL (e :: t) ≤ c then c else maxL (e :: t)) ∈ _ ∧ ∀ y ∈ _, y ≤ (if maxL (e :: t) ≤ c then c else maxL (e :: t))
          split
          · refine ⟨by simp, fun y hy => ?_⟩
            rcases List.mem_cons.mp hy with rfl | hy
            · exact Int.le_refl _
            · have := i2 y hy; omega
          · refine ⟨List.mem_cons_of_mem _ i1, fun y hy => ?_⟩
            rcases List.mem_cons.mp hy with rfl | hy
            · omega
            · exact i2 y hy
    obtain ⟨i1, i2⟩ := ex (b :: r) (by simp)
    split
    · rename_i c
      have := k a (by simp)
      rcases List.mem_cons.mp h with rfl | h'
      · rfl
      · have := i2 m h'; omega
    · rename_i c
      have := k _ (List.mem_cons_of_mem a i1)
      rcases List.mem_cons.mp h with rfl | h'
      · omega
      · have := i2 m h'; omega
end
end Q
end

section
set_option maxRecDepth 100000
set_option maxHeartbeats 4000000
/-! QSort: sorted(x) of ints, x a list or a tuple. -/
namespace Q
open PySem PySem.Spec PySem.Calls PyProof.Rows L2
section
variable {prog : Program} {w : World} {A : Around} {E : Value → Shared → Prop} {s : Shared}
/-- a tuple collected -/
theorem collect_tup {l : Addr} {vs : List Value} {Q : List Value → Shared → Prop} (hl : IsTup s.heap l vs.toArray)
    (h : Q vs { s with heap := (s.heap.push (seqObj "list" #[] 0)).update s.heap.objs.size (Obj.mapSeq (· ++ vs.toArray)) }) (hsz : vs.length ≤ sizeLine) :
    wpAny (model prog w) A (collect (.ref l)) Q E s := by
  obtain ⟨o, ho, hc, n, hd⟩ := id hl
  unfold collect
  refine wpAny_bind (wpAny_runValue (codeAny_builtin entry_proto_collect' ?_))
  show wpAny _ _ (do again (.builtin "list.__iadd__" ⟨[← newList [], .ref l], []⟩)) _ _ s
  refine wpAny_bind (wpAny_newList (wpAny_pure ⟨Code.quiet_builtin _ (by decide +kernel), codeAny_builtin entry_list_iadd' ?_⟩))
  show wpAny _ _ (Builtin.List.listExtendWith (.ref s.heap.objs.size) (.ref l) (.ref s.heap.objs.size)) _ _ { s with heap := s.heap.push (seqObj "list" #[] 0) }
  unfold Builtin.List.listExtendWith
  have ho' : (s.heap.push (seqObj "list" #[] 0)).get? l = some o := Heap.get?_push_of_some _ ho
  refine wpAny_bind (wpAny_typeOf (T := "tuple") ⟨o, ho', hc⟩ ?_)
  rw [if_pos (by first | rfl | decide | simp)]
  refine wpAny_bind (listItems_at ho' hd ?_)
  refine wpAny_bind (listItems_at (xs := #[]) (n := 0) (Heap.get?_push_size _ rfl) rfl ?_)
  rw [if_neg (by simp)]
  refine wpAny_bind (listUpdate_at (xs := #[]) (n := 0) (Heap.get?_push_size _ rfl) rfl ?_ (Nat.zero_le _) (by show (#[] ++ vs.toArray).size ≤ sizeLine + 1; simp only [Array.size_append, List.size_toArray, List.length_nil]; omega))
  refine wpAny_pure ?_
  show wpAny (model prog w) A (do
      let o ← load s.heap.objs.size
      match o.data with
      | .seq xs _ => pure xs.toList
      | _ => unsupported "internal:collect") Q E { s with heap := (s.heap.push (seqObj "list" #[] 0)).update s.heap.objs.size (Obj.mapSeq (· ++ vs.toArray)) }
  refine wpAny_bind (wpAny_load (get?_update_seq (Heap.get?_push_size _ rfl) _) ?_)
  show wpAny _ _ (pure ((#[] : Array Value) ++ vs.toArray).toList) Q E _
  rw [show ((#[] : Array Value) ++ vs.toArray).toList = vs by simp]
  exact wpAny_pure h
/-- sorted of a tuple -/
theorem sorted_tup {l : Addr} {vs : List Value} {ltv : Value → Value → Bool} {Q : Value → Shared → Prop} (O : SrtO.Swo ltv) (hl : IsTup s.heap l vs.toArray) (hz : vs.length ≤ sizeLine)
    (hS : 2 ≤ vs.length → ∀ (h₁ : Heap) (a : Addr), h₁.get? a = some (seqObj "list" vs.toArray 0) → (∀ b o, s.heap.get? b = some o → b ≠ a ∧ h₁.get? b = some o) → SrtO.SortableO prog w A.in1.in1 { s with heap := h₁ } a vs ltv)
    (h : ∀ out : List Value, SrtO.Srtd ltv out → SrtO.Stb ltv out vs → Q (.ref (s.heap.objs.size + 1)) { s with heap := sortedAll s.heap vs out.toArray }) :
    wpAny (model prog w) A (call (.builtin "sorted") [.ref l]) Q E s := by
  refine Calls.call_function_entry kind_sorted plain_sorted entry_sorted (args_sorted1 _) ?_
  unfold Builtin.«sorted»
  refine wpAny_bind (m := checkCount "sorted" 1 1 _) (wpAny_pure ?_)
  refine wpAny_bind (collect_tup hl ?_ hz)
  refine wpAny_bind (wpAny_newList ?_ hz)
  have hsz : ((s.heap.push (seqObj "list" #[] 0)).update s.heap.objs.size (Obj.mapSeq (· ++ vs.toArray))).objs.size = s.heap.objs.size + 1 := by
    rw [Heap.size_update, size_push']
  have hoL : (((s.heap.push (seqObj "list" #[] 0)).update s.heap.objs.size (Obj.mapSeq (· ++ vs.toArray))).push (seqObj "list" vs.toArray 0)).get? (s.heap.objs.size + 1) = some (seqObj "list" vs.toArray 0) := by
    rw [← hsz]; exact Heap.get?_push_size _ rfl
  have keep : ∀ b o, s.heap.get? b = some o → b ≠ s.heap.objs.size + 1 ∧ (((s.heap.push (seqObj "list" #[] 0)).update s.heap.objs.size (Obj.mapSeq (· ++ vs.toArray))).push (seqObj "list" vs.toArray 0)).get? b = some o := fun b o q => by
    have hlt : b < s.heap.objs.size := Heap.lt_size q
    refine ⟨Nat.ne_of_lt (Nat.lt_succ_of_lt hlt), Heap.get?_push_of_some _ ?_⟩
    rw [Heap.get?_update_ne _ _ _ _ (Nat.ne_of_lt hlt)]
    exact Heap.get?_push_of_some _ q
  show wpAny _ _ _ _ _ { s with heap := ((s.heap.push (seqObj "list" #[] 0)).update s.heap.objs.size (Obj.mapSeq (· ++ vs.toArray))).push (seqObj "list" vs.toArray 0) }
  rw [hsz]
  refine wpAny_bind (wpAny_holding (wpAny_call_entry slot_list_sort ⟨_, hoL, rfl⟩ entry_list_sort (SrtO.list_sort_ord O hoL hz (fun h2 => hS h2 _ _ hoL keep) fun out hs hb => ⟨_, rfl, ?_⟩) (args_list_sort _)))
  exact wpAny_pure ⟨_, rfl, h out hs hb⟩
end
section
variable {X : Cx}
/-- sorted(x), x a list or a tuple of ints -/
def rSrt (K : PySem.W.Frag) : List V → Hp → VK → Prop := fun vs H Q => ∃ (a : Addr) (ns : List Int), vs = [V.ref a] ∧ (SqL K H a (ns.map V.int) ∨ SqT K H a (ns.map V.int)) ∧
  ∀ (ns' : List Int) (p : Addr), ns'.Perm ns → ns'.Pairwise (· ≤ ·) → H p = none → Q (.ref p) (upd H p (.lst (ns'.map V.int)))
theorem cr_srt : CallR X (.builtin "sorted") (rSrt X.K) := by
  intro pins s σ H vs us Q I r h
  obtain ⟨a, ns, rfl, hs, q⟩ := h
  rcases hs with hs | hs
  · exact cr_sortedI pins s σ H _ us Q I r ⟨a, ns, rfl, hs, q⟩
  · obtain ⟨its, rv, ht, hz⟩ := I.tuple hs
    rw [Vals.ref1 r]
    have hi := rv.ints
    refine sorted_tup SrtO.swo_int ht (by rw [← rv.length]; exact hz) (fun h2 h₁ a' _ _ => SrtO.ints_sortable hi h2) fun out h1 h2 => ?_
    obtain ⟨k1, k2, k3⟩ := SrtO.ints_out hi h1 h2
    obtain ⟨ep, he'⟩ := PyProof.Rows.sortedAll_at s.heap its out.toArray
    have hlen : ((out.map SrtO.iv).map V.int).length ≤ sizeLine := by
      rw [List.length_map, k2.length_eq]
      rw [List.length_map] at hz
      exact hz
    exact ⟨.ref _, upd H (s.heap.objs.size + 1) (.lst ((out.map SrtO.iv).map V.int)), I.laid (t' := s.toks) (fun _ _ => PyProof.Rows.sortedAll_old) (Nat.le_succ _) ⟨hlen, out, ep, vals_of_ints k1, he'⟩, rfl, q _ _ k2 k3 (I.hok.fresh (Nat.le_succ _))⟩
end
theorem srtI_uni {ns ns' : List Int} (h : ns'.Perm ns) (hs : ns'.Pairwise (· ≤ ·)) : ns' = srtI ns := by
  have h1 : (srtI ns).Perm ns := List.mergeSort_perm _ _
  have h2 : (srtI ns).Pairwise (fun a b => decide (a ≤ b) = true) := List.pairwise_mergeSort (fun a b c hab hbc => by simp at *; omega) (fun a b => by simp; omega) ns
  refine List.Perm.eq_of_pairwise (le := (· ≤ ·)) (fun a b _ _ h1 h2 => Int.le_antisymm h1 h2) hs (h2.imp fun {a b} h => by simpa using h) (h.trans h1.symm)
end Q
end

section
set_option maxRecDepth 100000
set_option maxHeartbeats 2000000
/-! QExp: expressions of the small language against the machine's. -/
namespace Q
open PySem PySem.Spec PyProof.Rows L2

theorem bnd_inv {α β : Type} {r : Res α} {f : α → S → Res β} {b : β} {s : S} (h : r.bnd f = .ok b s) : ∃ a s1, r = .ok a s1 ∧ f a s1 = .ok b s := by
  cases r with
  | ok a s1 => exact ⟨a, s1, rfl, h⟩
  | exc d s1 => cases h
  | bad => cases h
theorem opt_inv {α : Type} {o : Option α} {a : α} {s s' : S} (h : Res.opt o s = .ok a s') : o = some a ∧ s' = s := by
  cases o with
  | some b => cases h; exact ⟨rfl, rfl⟩
  | none => cases h
theorem map_inv {α β : Type} {o : Option α} {f : α → β} {b : β} (h : o.map f = some b) : ∃ a, o = some a ∧ f a = b := by
  cases o with
  | some a => cases h; exact ⟨a, rfl, rfl⟩
  | none => cases h
theorem bind_inv {α β : Type} {o : Option α} {f : α → Option β} {b : β} (h : o.bind f = some b) : ∃ a, o = some a ∧ f a = some b := by
  cases o with
  | some a => exact ⟨a, rfl, h⟩
  | none => cases h
theorem pe_w {X : Cx} {e : Expr} {t t' : TE} (h : PE X e t) (w : ∀ σ H Q, t' σ H Q → t σ H Q) : PE X e t' := ⟨fun pins s σ H Q I q => h.run pins s σ H Q I (w σ H Q q)⟩
theorem pt_w {X : Cx} {e : Expr} {t t' : TT} (h : PT X e t) (w : ∀ σ H Q, t' σ H Q → t σ H Q) : PT X e t' := ⟨fun pins s σ H Q I q => h.run pins s σ H Q I (w σ H Q q)⟩
theorem pw_w {X : Cx} {e : Expr} {t t' : TT} (h : PW X e t) (w : ∀ σ H Q, t' σ H Q → t σ H Q) : PW X e t' := ⟨fun wh pins s σ H Q I q => h.run wh pins s σ H Q I (w σ H Q q)⟩
theorem pa_w {X : Cx} {e : List Expr} {t t' : TA} (h : PA X e t) (w : ∀ σ H Q, t' σ H Q → t σ H Q) : PA X e t' := ⟨fun pos pins s σ H Q I q => h.run pos pins s σ H Q I (w σ H Q q)⟩
theorem ps_w {X : Cx} {e : Stmt} {t t' : TS} (h : PS X e t) (w : ∀ D σ H, t' D σ H → t D σ H) : PS X e t' := ⟨fun pins s σ H D I q => h.run pins s σ H D I (w D σ H q)⟩
theorem pss_w {X : Cx} {e : List Stmt} {t t' : TS} (h : PSs X e t) (w : ∀ D σ H, t' D σ H → t D σ H) : PSs X e t' := ⟨fun pins s σ H D I q => h.run pins s σ H D I (w D σ H q)⟩

section
variable (K : PySem.W.Frag) (fa : Nat → Option Addr) (c : Env)
def tE (e : E) : TE := fun σ H Q => ∃ W F B s d s', Rel K fa W F B s σ H ∧ evE c e s = .ok d s' ∧ ∀ F' B' H' v, Stp W F B F' B' → Rel K fa W F' B' s' σ H' → RR K fa W F' B' s' σ H' d v → Q v H'
def tT (e : E) : TT := fun σ H Q => ∃ W F B s d s', Rel K fa W F B s σ H ∧ evT c e s = .ok d s' ∧ ∀ F' B' H', Stp W F B F' B' → Rel K fa W F' B' s' σ H' → Q d H'
def tA (e : E) : TA := fun σ H Q => ∃ W F B s ds s', Rel K fa W F B s σ H ∧ evA c e s = .ok ds s' ∧ ∀ F' B' H' vs, Stp W F B F' B' → Rel K fa W F' B' s' σ H' → Reps K fa F' B' ds vs → Q vs H'
end
section
variable {K : PySem.W.Frag} {fa : Nat → Option Addr} {c : Env} {W F F' : Hp} {B B' : List Addr} {s s1 : S} {σ : L2.St} {H H' : Hp} {d x y : D} {v u : V} {Q : VK} {e : E}
theorem Rep.stp (h : Rep K fa F B d v) (st : Stp W F B F' B') : Rep K fa F' B' d v := Rep.mono st.ex st.bs _ _ h
theorem Reps.stp {ds : List D} {vs : List V} (h : Reps K fa F B ds vs) (st : Stp W F B F' B') : Reps K fa F' B' ds vs := Reps.mono st.ex st.bs _ _ h
/-- an operand: its value for good -/
theorem tE_use (r : Rel K fa W F B s σ H) (h : evE c e s = .ok d s1) (k : ∀ F1 B1 H1 v, Stp W F B F1 B1 → Rel K fa W F1 B1 s1 σ H1 → Rep K fa F1 B1 d.frz v → Q v H1) : tE K fa c e σ H Q :=
  ⟨W, F, B, s, d, s1, r, h, fun F' B' H' v st r' rr => let ⟨F2, st2, r2, rp⟩ := r'.frzR rr; k F2 B' H' v (st.trans st2) r2 rp⟩
theorem tE_res (r : Rel K fa W F B s σ H) (h : evE c e s = .ok d s1) (k : ∀ F1 B1 H1 v, Stp W F B F1 B1 → Rel K fa W F1 B1 s1 σ H1 → RR K fa W F1 B1 s1 σ H1 d v → Q v H1) : tE K fa c e σ H Q := ⟨W, F, B, s, d, s1, r, h, k⟩
theorem tT_use {b : Bool} {Q : Bool → Hp → Prop} (r : Rel K fa W F B s σ H) (h : evT c e s = .ok b s1) (k : ∀ F1 B1 H1, Stp W F B F1 B1 → Rel K fa W F1 B1 s1 σ H1 → Q b H1) : tT K fa c e σ H Q := ⟨W, F, B, s, b, s1, r, h, k⟩
theorem tA_use {ds : List D} {Q : List V → Hp → Prop} (r : Rel K fa W F B s σ H) (h : evA c e s = .ok ds s1) (k : ∀ F1 B1 H1 vs, Stp W F B F1 B1 → Rel K fa W F1 B1 s1 σ H1 → Reps K fa F1 B1 ds vs → Q vs H1) : tA K fa c e σ H Q := ⟨W, F, B, s, ds, s1, r, h, k⟩
theorem post_of {s1 : S} {F1 : Hp} {B1 : List Addr} (st : Stp W F B F1 B1) (k : ∀ F' B' H' v, Stp W F B F' B' → Rel K fa W F' B' s1 σ H' → RR K fa W F' B' s1 σ H' d v → Q v H') : Post K fa W F1 B1 s1 σ d Q := fun F' B' H' v st' r rr => k F' B' H' v (st.trans st') r rr
end

section
variable {X : Cx} {fa : Nat → Option Addr} {c : Env} {a b d : Expr} {es : List Expr} {ea eb ed ee : E} {pos : Pos}
theorem e_var {i : Nat} {x : Str} (h : PE X (.Name x pos) (tVar i)) : PE X (.Name x pos) (tE X.K fa c (.var i)) :=
  pe_w h fun σ H Q ⟨W, F, B, s, d, s', r, h, k⟩ => by
    obtain ⟨h1, rfl⟩ := opt_inv h
    obtain ⟨d0, h2, rfl⟩ := map_inv h1
    obtain ⟨F', v, st, r', hv, rp⟩ := r.frzS h2
    exact ⟨v, hv, k F' B H v st r' (RR.of rp)⟩
theorem e_cst {e : Expr} {d : D} {v : V} (h : PE X e (tC v)) (hr : ∀ F B, Rep X.K fa F B d v) : PE X e (tE X.K fa c (.cst d)) :=
  pe_w h fun σ H Q ⟨W, F, B, s, d', s', r, h, k⟩ => by
    cases h
    exact k F B H v Stp.refl r (RR.of (hr _ _))
theorem e_glb {e : Expr} {d : D} {v : V} {g : Nat} (h : PE X e (tC v)) (hg : c.glb g = some d) (hr : ∀ F B, Rep X.K fa F B d v) : PE X e (tE X.K fa c (.glb g)) :=
  pe_w h fun σ H Q ⟨W, F, B, s, d', s', r, h, k⟩ => by
    obtain ⟨h1, rfl⟩ := opt_inv h
    rw [hg] at h1; cases h1
    exact k F B H v Stp.refl r (RR.of (hr _ _))
theorem e_fnc {e : Expr} {p : Addr} {g : Nat} (h : PE X e (tC (.ref p))) (hg : fa g = some p) : PE X e (tE X.K fa c (.fnc g)) :=
  pe_w h fun σ H Q ⟨W, F, B, s, d', s', r, h, k⟩ => by
    cases h
    exact k F B H _ Stp.refl r (RR.of (by unfold Rep; exact ⟨p, rfl, hg⟩))
theorem e_bin (o : BOp) (ha : PE X a (tE X.K fa c ea)) (hb : PE X b (tE X.K fa c eb)) : PE X (.BinOp a (oB o) b pos) (tE X.K fa c (.bin o ea eb)) :=
  pe_w (pe_op (op_rB o) ha hb) fun σ H Q ⟨W, F, B, s, d, s', r, h, k⟩ => by
    obtain ⟨x, s1, h1, h⟩ := bnd_inv h
    obtain ⟨y, s2, h2, h⟩ := bnd_inv h
    obtain ⟨q, rfl⟩ := opt_inv h
    exact tE_use r h1 fun F1 B1 H1 v1 st1 r1 rx => tE_use r1 h2 fun F2 B2 H2 v2 st2 r2 ry => rB_ok q (rx.stp st2) ry r2 (post_of (st1.trans st2) k)
theorem e_cmp (hu : X.A.units + 64 < cLine) (o : COp) (ha : PE X a (tE X.K fa c ea)) (hb : PE X b (tE X.K fa c eb)) (hm : behindInMarks (oC o) b = false) : PE X (.Compare a [oC o] [b] pos) (tE X.K fa c (.cmp o ea eb)) :=
  pe_w (pe_cmpR (op_rC hu o) ha hb hm) fun σ H Q ⟨W, F, B, s, d, s', r, h, k⟩ => by
    obtain ⟨x, s1, h1, h⟩ := bnd_inv h
    obtain ⟨y, s2, h2, h⟩ := bnd_inv h
    obtain ⟨q, rfl⟩ := opt_inv h
    obtain ⟨z, q2, rfl⟩ := map_inv q
    exact tE_use r h1 fun F1 B1 H1 v1 st1 r1 rx => tE_use r1 h2 fun F2 B2 H2 v2 st2 r2 ry => rC_ok q2 (rx.stp st2) ry r2.ef (k F2 B2 H2 _ (st1.trans st2) r2 (RR.of (of_bl z)))
theorem t_cmp (hu : X.A.units + 64 < cLine) (o : COp) (ha : PE X a (tE X.K fa c ea)) (hb : PE X b (tE X.K fa c eb)) (hm : behindInMarks (oC o) b = false) : PT X (.Compare a [oC o] [b] pos) (tT X.K fa c (.tru (.cmp o ea eb))) :=
  pt_w (pt_cmpR (op_rC hu o) ha hb hm) fun σ H Q ⟨W, F, B, s, d, s', r, h, k⟩ => by
    obtain ⟨w, s0, h0, h⟩ := bnd_inv h
    obtain ⟨q, rfl⟩ := opt_inv h
    obtain ⟨x, s1, h1, h0⟩ := bnd_inv h0
    obtain ⟨y, s2, h2, h0⟩ := bnd_inv h0
    obtain ⟨q0, rfl⟩ := opt_inv h0
    obtain ⟨z, q2, rfl⟩ := map_inv q0
    cases q
    exact tE_use r h1 fun F1 B1 H1 v1 st1 r1 rx => tE_use r1 h2 fun F2 B2 H2 v2 st2 r2 ry => rC_ok q2 (rx.stp st2) ry r2.ef ⟨_, rfl, k F2 B2 H2 (st1.trans st2) r2⟩
theorem e_chn (hu : X.A.units + 64 < cLine) (o p : COp) (ha : PE X a (tE X.K fa c ea)) (hb : PE X b (tE X.K fa c eb)) (hd : PE X d (tE X.K fa c ed)) (hm : lastMarks [oC o, oC p] [b, d] = false) : PE X (.Compare a [oC o, oC p] [b, d] pos) (tE X.K fa c (.chn o p ea eb ed)) :=
  pe_w (pe_chain (op_rC hu o) (op_rC hu p) ha hb hd hm) fun σ H Q ⟨W, F, B, s, d, s', r, h, k⟩ => by
    obtain ⟨x, s1, h1, h⟩ := bnd_inv h
    obtain ⟨y, s2, h2, h⟩ := bnd_inv h
    obtain ⟨z, s3, h3, h⟩ := bnd_inv h
    obtain ⟨q3, rfl⟩ := opt_inv h3
    refine tE_use r h1 fun F1 B1 H1 v1 st1 r1 rx => tE_use r1 h2 fun F2 B2 H2 v2 st2 r2 ry => rC_ok q3 (rx.stp st2) ry r2.ef ⟨z, rfl, ?_⟩
    cases z with
    | false =>
      cases h
      exact iteF (k F2 B2 H2 _ (st1.trans st2) r2 (RR.of (of_bl false)))
    | true =>
      obtain ⟨w, s4, h4, h⟩ := bnd_inv h
      obtain ⟨q, rfl⟩ := opt_inv h
      obtain ⟨z, q2, rfl⟩ := map_inv q
      exact iteT (tE_use r2 h4 fun F3 B3 H3 v3 st3 r3 rz => rC_ok q2 (ry.stp st3) rz r3.ef (k F3 B3 H3 _ ((st1.trans st2).trans st3) r3 (RR.of (of_bl z))))
theorem t_chn (hu : X.A.units + 64 < cLine) (o p : COp) (ha : PE X a (tE X.K fa c ea)) (hb : PE X b (tE X.K fa c eb)) (hd : PE X d (tE X.K fa c ed)) (hm : lastMarks [oC o, oC p] [b, d] = false) : PT X (.Compare a [oC o, oC p] [b, d] pos) (tT X.K fa c (.tru (.chn o p ea eb ed))) :=
  pt_w (pt_chain (op_rC hu o) (op_rC hu p) ha hb hd hm) fun σ H Q ⟨W, F, B, s, d, s', r, h, k⟩ => by
    obtain ⟨w, s0, h0, h⟩ := bnd_inv h
    obtain ⟨q, rfl⟩ := opt_inv h
    obtain ⟨x, s1, h1, h0⟩ := bnd_inv h0
    obtain ⟨y, s2, h2, h0⟩ := bnd_inv h0
    obtain ⟨z, s3, h3, h0⟩ := bnd_inv h0
    obtain ⟨q3, rfl⟩ := opt_inv h3
    refine tE_use r h1 fun F1 B1 H1 v1 st1 r1 rx => tE_use r1 h2 fun F2 B2 H2 v2 st2 r2 ry => rC_ok q3 (rx.stp st2) ry r2.ef ⟨z, rfl, ?_⟩
    cases z with
    | false =>
      cases h0; cases q
      exact iteF ⟨_, rfl, k F2 B2 H2 (st1.trans st2) r2⟩
    | true =>
      obtain ⟨w, s4, h4, h0⟩ := bnd_inv h0
      obtain ⟨q0, rfl⟩ := opt_inv h0
      obtain ⟨z, q2, rfl⟩ := map_inv q0
      cases q
      exact iteT (tE_use r2 h4 fun F3 B3 H3 v3 st3 r3 rz => rC_ok q2 (ry.stp st3) rz r3.ef ⟨_, rfl, k F3 B3 H3 ((st1.trans st2).trans st3) r3⟩)
/-! ### words -/
theorem e_and (ha : PE X a (tE X.K fa c ea)) (hb : PE X (.BoolOp .And (b :: es) pos) (tE X.K fa c eb)) : PE X (.BoolOp .And (a :: b :: es) pos) (tE X.K fa c (.and ea eb)) :=
  pe_w (pe_and ha hb) fun σ H Q ⟨W, F, B, s, d, s', r, h, k⟩ => by
    obtain ⟨x, s1, h1, h⟩ := bnd_inv h
    cases x <;> first | (cases h; done) | skip
    rename_i z
    refine tE_use r h1 fun F1 B1 H1 v1 st1 r1 rx => ⟨z, rep_bl rx, ?_⟩
    cases z with
    | false => cases h; exact iteF (k F1 B1 H1 _ st1 r1 (RR.of (of_bl false)))
    | true =>
      obtain ⟨y, s2, h2, h⟩ := bnd_inv h
      cases h
      exact iteT (tE_use r1 h2 fun F2 B2 H2 v2 st2 r2 ry => k F2 B2 H2 v2 (st1.trans st2) r2 (RR.of ry))
theorem e_or (ha : PE X a (tE X.K fa c ea)) (hb : PE X (.BoolOp .Or (b :: es) pos) (tE X.K fa c eb)) : PE X (.BoolOp .Or (a :: b :: es) pos) (tE X.K fa c (.or ea eb)) :=
  pe_w (pe_or ha hb) fun σ H Q ⟨W, F, B, s, d, s', r, h, k⟩ => by
    obtain ⟨x, s1, h1, h⟩ := bnd_inv h
    cases x <;> first | (cases h; done) | skip
    rename_i z
    refine tE_use r h1 fun F1 B1 H1 v1 st1 r1 rx => ⟨z, rep_bl rx, ?_⟩
    cases z with
    | true => cases h; exact iteT (k F1 B1 H1 _ st1 r1 (RR.of (of_bl true)))
    | false =>
      obtain ⟨y, s2, h2, h⟩ := bnd_inv h
      cases h
      exact iteF (tE_use r1 h2 fun F2 B2 H2 v2 st2 r2 ry => k F2 B2 H2 v2 (st1.trans st2) r2 (RR.of ry))
theorem e_not (ha : PE X a (tE X.K fa c ea)) : PE X (.UnaryOp .Not a pos) (tE X.K fa c (.not ea)) :=
  pe_w (pe_not ha) fun σ H Q ⟨W, F, B, s, d, s', r, h, k⟩ => by
    obtain ⟨x, s1, h1, h⟩ := bnd_inv h
    cases x <;> first | (cases h; done) | skip
    rename_i z
    cases h
    exact tE_use r h1 fun F1 B1 H1 v1 st1 r1 rx => ⟨z, rep_bl rx, k F1 B1 H1 _ st1 r1 (RR.of (of_bl _))⟩
theorem e_neg (ha : PE X a (tE X.K fa c ea)) : PE X (.UnaryOp .USub a pos) (tE X.K fa c (.neg ea)) :=
  pe_w (pe_un un_neg ha) fun σ H Q ⟨W, F, B, s, d, s', r, h, k⟩ => by
    obtain ⟨x, s1, h1, h⟩ := bnd_inv h
    cases x <;> first | (cases h; done) | skip
    rename_i z
    cases h
    exact tE_use r h1 fun F1 B1 H1 v1 st1 r1 rx => ⟨z, rep_int rx, k F1 B1 H1 _ st1 r1 (RR.of (of_int _))⟩
theorem e_ite (hd : PT X d (tT X.K fa c ed)) (ha : PE X a (tE X.K fa c ea)) (hb : PE X b (tE X.K fa c eb)) : PE X (.IfExp d a b pos) (tE X.K fa c (.ite ed ea eb)) :=
  pe_w (pe_ifExp hd ha hb) fun σ H Q ⟨W, F, B, s, d, s', r, h, k⟩ => by
    obtain ⟨x, s1, h1, h⟩ := bnd_inv h
    refine tT_use r h1 fun F1 B1 H1 st1 r1 => ?_
    cases x with
    | true =>
      obtain ⟨y, s2, h2, h⟩ := bnd_inv h
      cases h
      exact iteT (tE_use r1 h2 fun F2 B2 H2 v2 st2 r2 ry => k F2 B2 H2 v2 (st1.trans st2) r2 (RR.of ry))
    | false =>
      obtain ⟨y, s2, h2, h⟩ := bnd_inv h
      cases h
      exact iteF (tE_use r1 h2 fun F2 B2 H2 v2 st2 r2 ry => k F2 B2 H2 v2 (st1.trans st2) r2 (RR.of ry))
theorem t_and (ha : PT X a (tT X.K fa c ea)) (hb : PW X (.BoolOp .And (b :: es) pos) (tT X.K fa c eb)) : PW X (.BoolOp .And (a :: b :: es) pos) (tT X.K fa c (.and ea eb)) :=
  pw_w (pw_and ha hb) fun σ H Q ⟨W, F, B, s, d, s', r, h, k⟩ => by
    obtain ⟨x, s1, h1, h⟩ := bnd_inv h
    refine tT_use r h1 fun F1 B1 H1 st1 r1 => ?_
    cases x with
    | true => exact iteT (tT_use r1 h fun F2 B2 H2 st2 r2 => k F2 B2 H2 (st1.trans st2) r2)
    | false => cases h; exact iteF (k F1 B1 H1 st1 r1)
theorem t_or (ha : PT X a (tT X.K fa c ea)) (hb : PW X (.BoolOp .Or (b :: es) pos) (tT X.K fa c eb)) : PW X (.BoolOp .Or (a :: b :: es) pos) (tT X.K fa c (.or ea eb)) :=
  pw_w (pw_or ha hb) fun σ H Q ⟨W, F, B, s, d, s', r, h, k⟩ => by
    obtain ⟨x, s1, h1, h⟩ := bnd_inv h
    refine tT_use r h1 fun F1 B1 H1 st1 r1 => ?_
    cases x with
    | true => cases h; exact iteT (k F1 B1 H1 st1 r1)
    | false => exact iteF (tT_use r1 h fun F2 B2 H2 st2 r2 => k F2 B2 H2 (st1.trans st2) r2)
theorem t_not (ha : PT X a (tT X.K fa c ea)) : PT X (.UnaryOp .Not a pos) (tT X.K fa c (.not ea)) :=
  pt_w (pt_not ha) fun σ H Q ⟨W, F, B, s, d, s', r, h, k⟩ => by
    obtain ⟨x, s1, h1, h⟩ := bnd_inv h
    cases h
    exact tT_use r h1 fun F1 B1 H1 st1 r1 => k F1 B1 H1 st1 r1
/-- any other expression in a test's place: by its truth -/
theorem t_tru (ha : PE X a (tE X.K fa c ea)) (he : ∀ whole, isTrue a X.env whole = (do let v ← whole; standAt a.pos; holding [v] (truthy v))) : PT X a (tT X.K fa c (.tru ea)) :=
  pt_w (pt_truth ha he) fun σ H Q ⟨W, F, B, s, d, s', r, h, k⟩ => by
    obtain ⟨x, s1, h1, h⟩ := bnd_inv h
    obtain ⟨q, rfl⟩ := opt_inv h
    exact ⟨W, F, B, s, x, s', r, h1, fun F1 B1 H1 v st1 r1 rr => ⟨d, tru_rep q rr.1 r1.ef, k F1 B1 H1 st1 r1⟩⟩
theorem t_trv {i : Nat} {x : Str} (ha : PE X (.Name x pos) (tVar i)) : PT X (.Name x pos) (tT X.K fa c (.trv i)) :=
  pt_w (pt_truth ha (by intro _; rfl)) fun σ H Q ⟨W, F, B, s, d, s', r, h, k⟩ => by
    obtain ⟨q, rfl⟩ := opt_inv h
    obtain ⟨x, h1, q⟩ := bind_inv q
    obtain ⟨v, h2, h3⟩ := r.slot i x h1
    exact ⟨v, h2, d, tru_rep q h3 r.ef, k F B H Stp.refl r⟩
/-! ### displays, arguments -/
theorem a_nil : PA X [] (tA X.K fa c .nil) := pa_w pa_nil fun σ H Q ⟨W, F, B, s, d, s', r, h, k⟩ => by
  cases h
  exact k F B H [] Stp.refl r Reps.nil
theorem a_cons (ha : PE X a (tE X.K fa c ea)) (hr : PA X es (tA X.K fa c ee)) (hs : starEach (a :: es) X.env = (false, eval a X.env) :: starEach es X.env) : PA X (a :: es) (tA X.K fa c (.cons ea ee)) :=
  pa_w (pa_cons ha hr hs) fun σ H Q ⟨W, F, B, s, d, s', r, h, k⟩ => by
    obtain ⟨x, s1, h1, h⟩ := bnd_inv h
    obtain ⟨xs, s2, h2, h⟩ := bnd_inv h
    cases h
    exact tE_use r h1 fun F1 B1 H1 v1 st1 r1 rx => tA_use r1 h2 fun F2 B2 H2 vs st2 r2 rs => k F2 B2 H2 _ (st1.trans st2) r2 (.cons (rx.stp st2) rs)
theorem e_tup {n : Nat} (h : PA X es (tA X.K fa c ee)) : PE X (.Tuple es n pos) (tE X.K fa c (.tup ee)) :=
  pe_w (pe_tup h) fun σ H Q ⟨W, F, B, s, d, s', r, h, k⟩ => by
    obtain ⟨xs, s1, h1, h⟩ := bnd_inv h
    split at h <;> cases h
    rename_i hl
    exact tA_use r h1 fun F1 B1 H1 vs st1 r1 rs => ⟨by rw [rs.length, line_eq]; exact hl, (post_of st1 k).tup r1 rs⟩
theorem e_lst (h : PA X es (tA X.K fa c ee)) : PE X (.List es pos) (tE X.K fa c (.lst ee)) :=
  pe_w (pe_lst h) fun σ H Q ⟨W, F, B, s, d, s', r, h, k⟩ => by
    obtain ⟨xs, s1, h1, h⟩ := bnd_inv h
    split at h <;> cases h
    rename_i hl
    exact tA_use r h1 fun F1 B1 H1 vs st1 r1 rs => ⟨by rw [rs.length, line_eq]; exact hl, (post_of st1 k).own r1 rs⟩
/-! ### subscripts, slices -/
theorem e_idx (ha : PE X a (tE X.K fa c ea)) (hb : PE X b (tE X.K fa c eb)) (hp : PlainIx b) : PE X (.Subscript a b pos) (tE X.K fa c (.idx ea eb)) :=
  pe_w (pe_ix ix_seq ha hb hp) fun σ H Q ⟨W, F, B, s, d, s', r, h, k⟩ => by
    obtain ⟨x, s1, h1, h⟩ := bnd_inv h
    obtain ⟨y, s2, h2, h⟩ := bnd_inv h
    obtain ⟨q, rfl⟩ := opt_inv h
    exact tE_use r h1 fun F1 B1 H1 v1 st1 r1 rx => tE_use r1 h2 fun F2 B2 H2 v2 st2 r2 ry => rIx_ok q (rx.stp st2) ry r2.ef fun w rw => k F2 B2 H2 w (st1.trans st2) r2 (RR.of rw)
theorem isSome_inv {α : Type} {o : Option α} (h : o.isSome = true) : ∃ a, o = some a := by
  cases o with
  | some a => exact ⟨a, rfl⟩
  | none => cases h
theorem e_ixv {i : Nat} {x : Str} {p : Pos} (ha : PE X (.Name x p) (tVar i)) (hb : PE X b (tE X.K fa c eb)) (hp : PlainIx b) : PE X (.Subscript (.Name x p) b pos) (tE X.K fa c (.ixv i eb)) :=
  pe_w (pe_ix ix_seq ha hb hp) fun σ H Q ⟨W, F, B, s, d, s', r, h, k⟩ => by
    have h' : (if (s.get i).isSome then (evE c eb s).bnd fun y s1 => Res.opt ((s1.cont i).bind fun x => ixD x y.frz) s1 else .bad) = .ok d s' := h
    split at h' <;> first | (cases h'; done) | skip
    rename_i hs
    obtain ⟨d0, hd⟩ := isSome_inv hs
    obtain ⟨v, hv, _⟩ := r.slot i d0 hd
    obtain ⟨y, s2, h2, h3⟩ := bnd_inv h'
    obtain ⟨q, rfl⟩ := opt_inv h3
    exact ⟨v, hv, tE_use r h2 fun F2 B2 H2 v2 st2 r2 ry => rIx_slot r2 q hv ry fun w rw => k F2 B2 H2 w st2 r2 (RR.of rw)⟩
/-- a part of a slice -/
def tO (K : PySem.W.Frag) (fa : Nat → Option Addr) (c : Env) (e : E) : TO := fun σ H Q => ∃ W F B s o s', Rel K fa W F B s σ H ∧ evO c e s = .ok o s' ∧ ∀ F' B' H', Stp W F B F' B' → Rel K fa W F' B' s' σ H' → Q o H'
theorem po_w {e : Option Expr} {t t' : TO} (h : PO X e t) (w : ∀ σ H Q, t' σ H Q → t σ H Q) : PO X e t' := ⟨fun pins s σ H Q I q => h.run pins s σ H Q I (w σ H Q q)⟩
theorem o_none : PO X none (tO X.K fa c .nil) := po_w po_none fun σ H Q ⟨W, F, B, s, o, s', r, h, k⟩ => by
  cases h
  exact k F B H Stp.refl r
theorem o_some {e : Expr} {ee : E} (he : PE X e (tE X.K fa c ee)) : PO X (some e) (tO X.K fa c (.prt ee)) := po_w (po_some he) fun σ H Q ⟨W, F, B, s, o, s', r, h, k⟩ => by
  obtain ⟨x, s1, h1, h2⟩ := bnd_inv h
  cases x <;> first | (cases h2; done) | skip
  cases h2
  exact tE_use r h1 fun F1 B1 H1 v st r1 rp => ⟨_, rep_int rp, k F1 B1 H1 st r1⟩
theorem tO_use {e : E} {W F B s s1 σ H} {o : Option Int} {Q : Option Int → Hp → Prop} (r : Rel X.K fa W F B s σ H) (h : evO c e s = .ok o s1) (k : ∀ F1 B1 H1, Stp W F B F1 B1 → Rel X.K fa W F1 B1 s1 σ H1 → Q o H1) : tO X.K fa c e σ H Q := ⟨W, F, B, s, o, s1, r, h, k⟩
theorem e_slc {lo hi : Option Expr} {el eh : E} {p2 : Pos} (ha : PE X a (tE X.K fa c ea)) (hl : PO X lo (tO X.K fa c el)) (hh : PO X hi (tO X.K fa c eh)) : PE X (.Subscript a (.Slice lo hi none p2) pos) (tE X.K fa c (.slc ea el eh)) :=
  pe_w (pe_slice sl_any ha hl hh) fun σ H Q ⟨W, F, B, s, d, s', r, h, k⟩ => by
    obtain ⟨x, s1, h1, h⟩ := bnd_inv h
    obtain ⟨l, s2, h2, h⟩ := bnd_inv h
    obtain ⟨m, s3, h3, h⟩ := bnd_inv h
    obtain ⟨q, rfl⟩ := opt_inv h
    exact tE_use r h1 fun F1 B1 H1 v1 st1 r1 rx => tO_use r1 h2 fun F2 B2 H2 st2 r2 => tO_use r2 h3 fun F3 B3 H3 st3 r3 => rSl_ok q ((rx.stp st2).stp st3) r3 (post_of ((st1.trans st2).trans st3) k)
theorem e_slv {i : Nat} {x : Str} {p p2 : Pos} {lo hi : Option Expr} {el eh : E} (ha : PE X (.Name x p) (tVar i)) (hl : PO X lo (tO X.K fa c el)) (hh : PO X hi (tO X.K fa c eh)) : PE X (.Subscript (.Name x p) (.Slice lo hi none p2) pos) (tE X.K fa c (.slv i el eh)) :=
  pe_w (pe_slice sl_any ha hl hh) fun σ H Q ⟨W, F, B, s, d, s', r, h, k⟩ => by
    have h' : (if (s.get i).isSome then (evO c el s).bnd fun l s2 => (evO c eh s2).bnd fun h s3 => Res.opt ((s3.cont i).bind fun x => slD x l h) s3 else .bad) = .ok d s' := h
    split at h' <;> first | (cases h'; done) | skip
    rename_i hs
    obtain ⟨d0, hd⟩ := isSome_inv hs
    obtain ⟨v, hv, _⟩ := r.slot i d0 hd
    obtain ⟨l, s2, h2, h3⟩ := bnd_inv h'
    obtain ⟨m, s3, h3, h4⟩ := bnd_inv h3
    obtain ⟨q, rfl⟩ := opt_inv h4
    exact ⟨v, hv, tO_use r h2 fun F2 B2 H2 st2 r2 => tO_use r2 h3 fun F3 B3 H3 st3 r3 => rSl_slot r3 q hv (post_of (st2.trans st3) k)⟩
/-! ### built-ins -/
def vBlt : Blt → Value
  | .len => .builtin "len" | .abs => .builtin "abs" | .int => .type "int" | .min => .builtin "min" | .max => .builtin "max" | .sum => .builtin "sum" | .any => .builtin "any" | .all => .builtin "all"
  | .tuple => .type "tuple" | .list => .type "list" | .sorted => .builtin "sorted"
def rBlt (K : PySem.W.Frag) : Blt → List V → Hp → VK → Prop
  | .len => fun xs H Q => (∃ x n, xs = [x] ∧ LenV K x H n ∧ Q (.int n) H) ∨ ∃ a kvs, xs = [V.ref a] ∧ H a = some (.dK kvs) ∧ Q (.int kvs.length) H
  | .abs => fun xs H Q => ∃ i, xs = [.int i] ∧ Q (.int (if i < 0 then -i else i)) H
  | .int => fun xs H Q => (∃ i, xs = [.int i] ∧ Q (.int i) H) ∨ ∃ k, xs = [.bl k] ∧ Q (.int (if k then 1 else 0)) H
  | .min => fun xs H Q => (∃ i j, xs = [.int i, .int j] ∧ Q (.int (if j < i then j else i)) H) ∨ rMin K xs H Q
  | .max => fun xs H Q => (∃ i j, xs = [.int i, .int j] ∧ Q (.int (if j > i then j else i)) H) ∨ rMax K xs H Q
  | .sum => rSum K
  | .any => rAny K
  | .all => rAll K
  | .tuple => fun xs H Q => ∃ p ys, xs = [.ref p] ∧ ((SqL K H p ys ∧ ∀ l, H l = none → Q (.ref l) (upd H l (.tup ys))) ∨ (SqT K H p ys ∧ Q (.ref p) H))
  | .list => fun xs H Q => ∃ p ys, xs = [.ref p] ∧ (SqL K H p ys ∨ SqT K H p ys) ∧ ∀ l, H l = none → Q (.ref l) (upd H l (.lst ys))
  | .sorted => rSrt K
theorem call_rBlt (hc : X.calm = true) (b : Blt) : CallR X (vBlt b) (rBlt X.K b) := by
  cases b with
  | len => exact call_len.or call_lenD
  | abs => exact call_abs
  | int => exact call_int1
  | min => exact (call_min2 hc).or (cr_min hc)
  | max => exact (call_max2 hc).or (cr_max hc)
  | sum => exact cr_sum hc
  | any => exact cr_any hc
  | all => exact cr_all hc
  | tuple => exact call_tuple_of
  | list => exact call_list_of
  | sorted => exact cr_srt
end
section
variable {K : PySem.W.Frag} {fa : Nat → Option Addr} {c : Env} {W F F' : Hp} {B B' : List Addr} {s s1 : S} {σ : L2.St} {H H' : Hp} {d x y : D} {v u : V} {Q : VK} {e : E}
theorem reps1 {x : D} {vs : List V} (h : Reps K fa F B [x] vs) : ∃ v, vs = [v] ∧ Rep K fa F B x v := by
  unfold Reps at h
  obtain ⟨w, ws, rfl, h1, h2⟩ := h
  unfold Reps at h2
  subst h2
  exact ⟨w, rfl, h1⟩
theorem reps2 {x y : D} {vs : List V} (h : Reps K fa F B [x, y] vs) : ∃ v w, vs = [v, w] ∧ Rep K fa F B x v ∧ Rep K fa F B y w := by
  unfold Reps at h
  obtain ⟨w, ws, rfl, h1, h2⟩ := h
  obtain ⟨u, rfl, h3⟩ := reps1 h2
  exact ⟨w, u, rfl, h1, h3⟩
theorem reps3 {x y z : D} {vs : List V} (h : Reps K fa F B [x, y, z] vs) : ∃ u v w, vs = [u, v, w] ∧ Rep K fa F B x u ∧ Rep K fa F B y v ∧ Rep K fa F B z w := by
  unfold Reps at h
  obtain ⟨w, ws, rfl, h1, h2⟩ := h
  obtain ⟨u, v, rfl, h3, h4⟩ := reps2 h2
  exact ⟨w, u, v, rfl, h1, h3, h4⟩
theorem reps_int : ∀ ns : List Int, Reps K fa F B (ns.map D.int) (ns.map V.int)
  | [] => by unfold Reps; rfl
  | n :: ns => by
    unfold Reps
    exact ⟨_, _, rfl, by unfold Rep; rfl, reps_int ns⟩
theorem reps_rng (i j : Int) : Reps K fa F B (rangeD i (j - i).toNat) (rgV i j) := by
  have e1 : rangeD i (j - i).toNat = ((List.range (j - i).toNat).map fun k => i + (k : Nat)).map D.int := by unfold rangeD; rw [List.map_map]; rfl
  have e2 : rgV i j = ((List.range (j - i).toNat).map fun k => i + (k : Nat)).map V.int := by unfold rgV; rw [List.map_map]; rfl
  rw [e1, e2]
  exact reps_int _
theorem rgOk_of {i j : Int} (h : rngOk i j = true) : RgOk i j := by
  unfold rngOk at h
  have t := of_decide_eq_true h
  exact ⟨t.1, t.2.1, t.2.2.1, t.2.2.2.1, t.2.2.2.2⟩
theorem rBlt_ok {b : Blt} {xs : List D} {vs : List V} (h : bltD b xs = some d) (rx : Reps K fa F B xs vs) (r : Rel K fa W F B s σ H) (k : Post K fa W F B s σ d Q) : rBlt K b vs H Q := by
  unfold bltD at h
  split at h
  · obtain ⟨n, h1, rfl⟩ := map_inv h
    obtain ⟨v, rfl, rv⟩ := reps1 rx
    have kk : Q (.int n) H := k.same r (of_int _)
    rename_i d0
    cases d0 <;> first | (cases h1; done) | skip
    · rename_i z
      have h2 : (if z.length ≤ LINE then some z.length else none) = some n := h1
      split at h2 <;> cases h2
      rename_i hl
      rw [rep_str rv]
      exact .inl ⟨_, _, rfl, ⟨by rw [line_eq]; exact hl, rfl⟩, kk⟩
    · cases h1
      obtain ⟨p, ws, rfl, h2, h3⟩ := rep_tup rv
      exact .inl ⟨_, _, rfl, .inr ⟨ws, ex_t r.ef h2, h3.length.symm⟩, kk⟩
    · cases h1
      obtain ⟨p, ws, rfl, h2, h3⟩ := rep_lst rv
      exact .inl ⟨_, _, rfl, .inl ⟨ws, SqL.of (r.ef _ _ h2), h3.length.symm⟩, kk⟩
    · cases h1
      obtain ⟨p, ws, rfl, h2, h3⟩ := rep_dic rv
      refine .inr ⟨_, _, rfl, r.ef _ _ h2, ?_⟩
      rw [emptyK_of h3]; exact kk
    · unfold Rep at rv; exact rv.elim
    · unfold Rep at rv; exact rv.elim
    · cases h1
      obtain ⟨p, rfl, h2⟩ := rep_scr rv
      exact .inl ⟨_, _, rfl, .inl ⟨_, ex_l r.ef h2, by simp⟩, kk⟩
  · cases h
    obtain ⟨v, rfl, rv⟩ := reps1 rx
    rw [rep_int rv]
    exact ⟨_, rfl, k.same r (of_int _)⟩
  · cases h
    obtain ⟨v, rfl, rv⟩ := reps1 rx
    rw [rep_int rv]
    exact .inl ⟨_, rfl, k.same r (of_int _)⟩
  · cases h
    obtain ⟨v, rfl, rv⟩ := reps1 rx
    rw [rep_bl rv]
    exact .inr ⟨_, rfl, k.same r (of_int _)⟩
  · cases h
    obtain ⟨v, w, rfl, rv, rw_⟩ := reps2 rx
    rw [rep_int rv, rep_int rw_]
    exact .inl ⟨_, _, rfl, k.same r (of_int _)⟩
  · cases h
    obtain ⟨v, w, rfl, rv, rw_⟩ := reps2 rx
    rw [rep_int rv, rep_int rw_]
    exact .inl ⟨_, _, rfl, k.same r (of_int _)⟩
  · obtain ⟨ns, h1, h2⟩ := bind_inv h
    split at h2 <;> cases h2
    rename_i hn
    obtain ⟨v, rfl, rv⟩ := reps1 rx
    obtain ⟨p, ws, rfl, h2, h3⟩ := rep_lst rv
    rw [allI_ok h1 h3] at h2
    exact .inr ⟨p, ns, rfl, SqL.of (r.ef _ _ h2), hn, fun m q1 q2 => by rw [← minL_uni q1 q2]; exact k.same r (of_int _)⟩
  · obtain ⟨ns, h1, h2⟩ := bind_inv h
    split at h2 <;> cases h2
    rename_i hn
    obtain ⟨v, rfl, rv⟩ := reps1 rx
    obtain ⟨p, ws, rfl, h2, h3⟩ := rep_lst rv
    rw [allI_ok h1 h3] at h2
    exact .inr ⟨p, ns, rfl, SqL.of (r.ef _ _ h2), hn, fun m q1 q2 => by rw [← maxL_uni q1 q2]; exact k.same r (of_int _)⟩
  · obtain ⟨ns, h1, rfl⟩ := map_inv h
    obtain ⟨v, rfl, rv⟩ := reps1 rx
    obtain ⟨p, ws, rfl, h2, h3⟩ := rep_lst rv
    rw [allI_ok h1 h3] at h2
    exact ⟨p, ns, rfl, SqL.of (r.ef _ _ h2), k.same r (of_int _)⟩
  · obtain ⟨ns, h1, rfl⟩ := map_inv h
    obtain ⟨v, rfl, rv⟩ := reps1 rx
    obtain ⟨p, ws, rfl, h2, h3⟩ := rep_lst rv
    rw [allB_ok h1 h3] at h2
    exact ⟨p, ns, rfl, SqL.of (r.ef _ _ h2), k.same r (of_bl _)⟩
  · obtain ⟨ns, h1, rfl⟩ := map_inv h
    obtain ⟨v, rfl, rv⟩ := reps1 rx
    obtain ⟨p, ws, rfl, h2, h3⟩ := rep_lst rv
    rw [allB_ok h1 h3] at h2
    exact ⟨p, ns, rfl, SqL.of (r.ef _ _ h2), k.same r (of_bl _)⟩
  · cases h
    obtain ⟨v, rfl, rv⟩ := reps1 rx
    obtain ⟨p, ws, rfl, h2, h3⟩ := rep_lst rv
    exact ⟨p, ws, rfl, .inl ⟨SqL.of (r.ef _ _ h2), k.tup r h3⟩⟩
  · cases h
    obtain ⟨v, rfl, rv⟩ := reps1 rx
    obtain ⟨p, ws, rfl, h2, h3⟩ := rep_tup rv
    exact ⟨p, ws, rfl, .inr ⟨ex_t r.ef h2, k.same r rv⟩⟩
  · cases h
    obtain ⟨v, rfl, rv⟩ := reps1 rx
    obtain ⟨p, ws, rfl, h2, h3⟩ := rep_lst rv
    exact ⟨p, ws, rfl, .inl (SqL.of (r.ef _ _ h2)), k.own r h3⟩
  · cases h
    obtain ⟨v, rfl, rv⟩ := reps1 rx
    obtain ⟨p, ws, rfl, h2, h3⟩ := rep_tup rv
    exact ⟨p, ws, rfl, .inr (ex_t r.ef h2), k.own r h3⟩
  · obtain ⟨ns, h1, rfl⟩ := map_inv h
    obtain ⟨v, rfl, rv⟩ := reps1 rx
    obtain ⟨p, ws, rfl, h2, h3⟩ := rep_lst rv
    rw [allI_ok h1 h3] at h2
    exact ⟨p, ns, rfl, .inl (SqL.of (r.ef _ _ h2)), fun ns' q q1 q2 hq => by rw [srtI_uni q1 q2]; exact k.own r (reps_int _) q hq⟩
  · obtain ⟨ns, h1, rfl⟩ := map_inv h
    obtain ⟨v, rfl, rv⟩ := reps1 rx
    obtain ⟨p, ws, rfl, h2, h3⟩ := rep_tup rv
    rw [allI_ok h1 h3] at h2
    exact ⟨p, ns, rfl, .inr (ex_t r.ef h2), fun ns' q q1 q2 hq => by rw [srtI_uni q1 q2]; exact k.own r (reps_int _) q hq⟩
  · cases h
end
section
variable {X : Cx} {fa : Nat → Option Addr} {c : Env} {a b d : Expr} {es : List Expr} {ea eb ed ee : E} {pos : Pos}
theorem e_blt {e : Expr} (bt : Blt) (h : PE X e (tCB (rBlt X.K bt) (tA X.K fa c ee))) : PE X e (tE X.K fa c (.blt bt ee)) :=
  pe_w h fun σ H Q ⟨W, F, B, s, d, s', r, h, k⟩ => by
    obtain ⟨xs, s1, h1, h⟩ := bnd_inv h
    obtain ⟨q, rfl⟩ := opt_inv h
    exact tA_use r h1 fun F1 B1 H1 vs st1 r1 rs => rBlt_ok q rs r1 (post_of st1 k)
/-- list(range ..), tuple(range ..) -/
theorem e_rgl1 {t : Bool} {e : Expr} (h : PE X e (if t then tTupRg (tRg1 (tE X.K fa c ea)) else tLstRg (tRg1 (tE X.K fa c ea)))) : PE X e (tE X.K fa c (.rgl t (.rng1 ea))) :=
  pe_w h fun σ H Q ⟨W, F, B, s, d, s', r, h, k⟩ => by
    obtain ⟨ds, s1, h1, h2⟩ := bnd_inv h
    split at h2 <;> cases h2
    obtain ⟨x, s2, h3, h4⟩ := bnd_inv h1
    cases x <;> first | (cases h4; done) | skip
    rename_i j
    have h5 : (if rngOk 0 j then Res.ok (rangeD 0 j.toNat) s2 else .bad) = .ok ds s' := h4
    by_cases hj : rngOk 0 j = true
    case neg => rw [if_neg hj] at h5; cases h5
    rw [if_pos hj] at h5
    cases h5
    have ez : rangeD 0 j.toNat = rangeD 0 (j - 0).toNat := by rw [Int.sub_zero]
    have hr : ∀ {K fa F B}, Reps K fa F B (rangeD 0 j.toNat) (rgV 0 j) := by rw [ez]; exact reps_rng 0 j
    cases t with
    | true => exact tE_use r h3 fun F1 B1 H1 u st r1 ru => ⟨j, ru, rgOk_of hj, (post_of st k).tup r1 hr⟩
    | false => exact tE_use r h3 fun F1 B1 H1 u st r1 ru => ⟨j, ru, rgOk_of hj, (post_of st k).own r1 hr⟩
theorem e_rgl2 {t : Bool} {e : Expr} (h : PE X e (if t then tTupRg (tRg2 (tE X.K fa c ea) (tE X.K fa c eb)) else tLstRg (tRg2 (tE X.K fa c ea) (tE X.K fa c eb)))) : PE X e (tE X.K fa c (.rgl t (.rng2 ea eb))) :=
  pe_w h fun σ H Q ⟨W, F, B, s, d, s', r, h, k⟩ => by
    obtain ⟨ds, s1, h1, h2⟩ := bnd_inv h
    split at h2 <;> cases h2
    obtain ⟨x, s2, h3, h4⟩ := bnd_inv h1
    obtain ⟨y, s3, h5, h6⟩ := bnd_inv h4
    cases x <;> cases y <;> first | (cases h6; done) | skip
    rename_i i j
    have h7 : (if rngOk i j then Res.ok (rangeD i (j - i).toNat) s3 else .bad) = .ok ds s' := h6
    by_cases hj : rngOk i j = true
    case neg => rw [if_neg hj] at h7; cases h7
    rw [if_pos hj] at h7
    cases h7
    cases t with
    | true => exact tE_use r h3 fun F1 B1 H1 u st r1 ru => tE_use r1 h5 fun F2 B2 H2 w st2 r2 rw_ => ⟨i, j, ru, rw_, rgOk_of hj, (post_of (st.trans st2) k).tup r2 (reps_rng i j)⟩
    | false => exact tE_use r h3 fun F1 B1 H1 u st r1 ru => tE_use r1 h5 fun F2 B2 H2 w st2 r2 rw_ => ⟨i, j, ru, rw_, rgOk_of hj, (post_of (st.trans st2) k).own r2 (reps_rng i j)⟩
/-- len of a slot's own content -/
theorem e_lenv {e : Expr} {i : Nat} (h : PE X e (tCB (rBlt X.K .len) (tCons (tVar i) tNil))) : PE X e (tE X.K fa c (.lenv i)) :=
  pe_w h fun σ H Q ⟨W, F, B, s, d, s', r, h, k⟩ => by
    obtain ⟨q, rfl⟩ := opt_inv h
    obtain ⟨n, q1, rfl⟩ := map_inv q
    obtain ⟨x, q2, q3⟩ := bind_inv q1
    have kk : Q (.int n) H := k F B H _ Stp.refl r (RR.of (of_int _))
    rcases r.cont q2 with ⟨v, h1, h2 | ⟨xs, rfl, p, vs, rfl, h3, h4⟩⟩ | ⟨v, h1, xs, p, ws, rfl, rfl, h3, h4⟩
    · refine ⟨v, h1, ?_⟩
      exact rBlt_ok (b := .len) (xs := [x]) (by show (lenD x).map _ = _; rw [q3]; rfl) (.cons h2 .nil) r (post_of Stp.refl k)
    · refine ⟨_, h1, .inl ⟨_, n, rfl, .inl ⟨vs, SqL.of h3, ?_⟩, kk⟩⟩
      cases q3; exact h4.length.symm
    · refine ⟨_, h1, .inr ⟨p, ws, rfl, h3, ?_⟩⟩
      cases q3
      rw [emptyK_of h4]; exact kk
end
end Q
end

section
set_option maxRecDepth 100000
set_option maxHeartbeats 2000000
/-! QCall: isinstance, methods of lists, calls of defs. -/
namespace Q
open PySem PySem.Spec PyProof.Rows L2

section
variable {X : Cx} {fa : Nat → Option Addr} {c : Env} {a b d : Expr} {es : List Expr} {ea eb ed ee : E} {pos : Pos}
/-! ### isinstance -/
theorem tyD_ok {d : D} (h : isTyOk d = true) : ∃ n, tyD d.frz = some n := by
  cases d <;> first | exact ⟨_, rfl⟩ | cases h
theorem isi_ok {W F : Hp} {B : List Addr} {s : S} {σ : L2.St} {H : Hp} {x : D} {v : V} {t : Ty} {Q : VK} (h : isTyOk x = true) (r : Rel X.K fa W F B s σ H) (rx : Rep X.K fa F B x.frz v) (q : Q (.bl (isTy x.frz t)) H) : rIsi X.K [v, .ty (tyN t)] H Q := by
  obtain ⟨n, hn⟩ := tyD_ok h
  refine ⟨v, .ty (tyN t), .type n, .type (tyN t), _, rfl, .ty _, tyX_of hn r rx, kit_ty (kit_of' hn t), ?_⟩
  rw [frz_frz]; exact q
theorem e_isi1 {e : Expr} {t : Ty} (h : PE X e (tCB (rIsi X.K) (tCons (tE X.K fa c ea) (tCons (tC (.ty (tyN t))) tNil)))) : PE X e (tE X.K fa c (.isi ea [t])) :=
  pe_w h fun σ H Q ⟨W, F, B, s, d, s', r, h, k⟩ => by
    obtain ⟨x, s1, h1, h⟩ := bnd_inv h
    split at h <;> cases h
    rename_i hx
    exact tE_use r h1 fun F1 B1 H1 v1 st1 r1 rx => isi_ok hx r1 rx (k F1 B1 H1 _ st1 r1 (RR.of (by rw [List.any_cons, List.any_nil, Bool.or_false]; exact of_bl _)))
def tTys (ts : List Ty) : TA := fun σ H Q => Q (ts.map fun t => V.ty (tyN t)) H
theorem clsV_all : ∀ ts : List Ty, Paired ClsV (ts.map fun t => V.ty (tyN t)) (ts.map fun t => Value.type (tyN t))
  | [] => .nil
  | t :: ts => .cons (.ty _) (clsV_all ts)
theorem e_isiT {e : Expr} {ts : List Ty} (hl : ts.length ≤ 10) (h : PE X e (tCB (rIsiT X.K) (tCons (tE X.K fa c ea) (tCons (tTup (tTys ts)) tNil)))) : PE X e (tE X.K fa c (.isi ea ts)) :=
  pe_w h fun σ H Q ⟨W, F, B, s, d, s', r, h, k⟩ => by
    obtain ⟨x, s1, h1, h⟩ := bnd_inv h
    split at h <;> cases h
    rename_i hx
    obtain ⟨n, hn⟩ := tyD_ok hx
    refine tE_use r h1 fun F1 B1 H1 v1 st1 r1 rx => ⟨by rw [List.length_map, line_eq]; exact Nat.le_trans hl (by decide), fun p hp => ?_⟩
    obtain ⟨r2, st2⟩ := r1.new (o := .tup (ts.map fun t => V.ty (tyN t))) hp
    refine ⟨v1, p, _, .type n, _, _, rfl, upd_same, clsV_all ts, tyX_of hn r2 (rx.stp st2), kitAny_of hn ts, ?_⟩
    rw [frz_frz]
    exact k _ B1 _ _ (st1.trans st2) r2 (RR.of (of_bl _))
/-! ### methods of a slot's own list -/
section
variable {W F : Hp} {B : List Addr} {s : S} {σ : L2.St} {H : Hp} {Q : VK}
/-- a slot's own list is another one now -/
theorem Rel.setOwn {K : PySem.W.Frag} {i : Nat} {xs ys : List D} {p : Addr} {vs ws : List V} (r : Rel K fa W F B s σ H) (h : s.get i = some (.own xs)) (hv : σ[i]? = some (some (.ref p))) (hp : H p = some (.lst vs)) (q : Reps K fa F B ys ws) :
    Rel K fa W F B (s.put i (.own ys)) σ (upd H p (.lst ws)) := by
  obtain ⟨v, h1, h2⟩ := r.slot i _ h
  rw [hv] at h1; cases h1
  obtain ⟨p', vs', a1, a2, a3, a4, a5, a6⟩ := h2
  cases a1
  have hi := get_lt h
  have r1 : Rel K fa W F B s σ H := r
  refine ⟨r.ew.mut a4, r.ef.mut a5, by rw [put_len]; exact r.len, fun j e hj => ?_, fun j k e f w hne hj hk oe of h1 h2 => ?_, r.bl, fun k zs hk => ?_, r.bd⟩
  · by_cases hji : j = i
    · subst hji
      rw [get_put_same hi] at hj; cases hj
      exact ⟨_, hv, p, ws, rfl, upd_same, q, a4, a5, a6⟩
    · rw [get_put_ne hji] at hj
      obtain ⟨w, b1, b2⟩ := r.slot j e hj
      refine ⟨w, b1, b2.mono (Ex.refl _) ⟨[], by simp⟩ (fun x o q1 q2 q3 => ?_) (fun _ _ _ z => z) (fun _ _ _ z => z)⟩
      have : x ≠ p := fun e' => r.apart j i e (.own xs) w hji hj h q1 rfl b1 (by rw [q2, e']; exact hv)
      rw [upd_ne this]; exact q3
  · have ow : ∀ j e, (s.put i (.own ys)).get j = some e → e.isOwn = true → ∃ e', s.get j = some e' ∧ e'.isOwn = true := by
      intro j e hj oe
      by_cases hji : j = i
      · subst hji; exact ⟨_, h, rfl⟩
      · rw [get_put_ne hji] at hj; exact ⟨e, hj, oe⟩
    obtain ⟨e', g1, g2⟩ := ow j e hj oe
    obtain ⟨f', g3, g4⟩ := ow k f hk of
    exact r.apart j k e' f' w hne g1 g3 g2 g4 h1 h2
  · obtain ⟨x, us, b1, b2, b3, b4, b5⟩ := r.bx k zs hk
    have : x ≠ p := fun e => a6 (e ▸ List.mem_of_getElem? b1)
    exact ⟨x, us, b1, by rw [upd_ne this]; exact b2, b3, b4, b5⟩
end
def rMut (K : PySem.W.Frag) : Mth → V → List V → Hp → VK → Prop
  | .append => rAppend
  | .extend => rExtend
  | .pop => fun x vs H Q => rPop x vs H Q ∨ rPopAt x vs H Q
  | .count => rCntD K
theorem own_inv {s : S} {v : Nat} {β : Type} {f : D → Option β} {b : β} (h : (s.get v).bind f = some b) : ∃ d, s.get v = some d ∧ f d = some b := bind_inv h
theorem mut_ok {W F : Hp} {B : List Addr} {s : S} {σ : L2.St} {H : Hp} {m : Mth} {i : Nat} {xs : List D} {vs : List V} {v : V} {Q : VK} {x : D} {s' : S} (h : mutD s i m xs = some (x, s')) (r : Rel X.K fa W F B s σ H) (hv : σ[i]? = some (some v)) (rs : Reps X.K fa F B xs vs)
    (k : ∀ H' w, Rel X.K fa W F B s' σ H' → RR X.K fa W F B s' σ H' x w → Q w H') : rMut X.K m v vs H Q := by
  unfold mutD at h
  split at h
  · obtain ⟨d, h1, h2⟩ := own_inv h
    cases d <;> first | (cases h2; done) | skip
    rename_i y ys
    have h3 : (if ys.length < LINE then some (D.non, s.put i (.own (ys ++ [y]))) else none) = some (x, s') := h2
    split at h3 <;> cases h3
    rename_i hl
    obtain ⟨w, b1, p, us, rfl, b2, b3, _⟩ := r.slot i _ h1
    rw [hv] at b1; cases b1
    obtain ⟨z, rfl, rz⟩ := reps1 rs
    exact ⟨p, us, z, rfl, rfl, b2, by rw [b3.length, line_eq]; exact hl, k _ _ (r.setOwn h1 hv b2 (b3.append (.one rz))) (RR.of of_non)⟩
  · obtain ⟨d, h1, h2⟩ := own_inv h
    cases d <;> first | (cases h2; done) | skip
    rename_i zs ys
    have h3 : (if ys.length + zs.length ≤ LINE then some (D.non, s.put i (.own (ys ++ zs))) else none) = some (x, s') := h2
    split at h3 <;> cases h3
    rename_i hl
    obtain ⟨w, b1, p, us, rfl, b2, b3, _⟩ := r.slot i _ h1
    rw [hv] at b1; cases b1
    obtain ⟨z, rfl, rz⟩ := reps1 rs
    obtain ⟨p2, us2, rfl, b4, b5⟩ := rep_lst rz
    exact ⟨p, p2, us, us2, rfl, rfl, b2, r.ef _ _ b4, by rw [b3.length, b5.length, line_eq]; exact hl, k _ _ (r.setOwn h1 hv b2 (b3.append b5)) (RR.of of_non)⟩
  · obtain ⟨d, h1, h2⟩ := own_inv h
    cases d <;> first | (cases h2; done) | skip
    rename_i ys
    obtain ⟨y, h3, h4⟩ := map_inv (show (ys[ys.length - 1]?).map (fun y => (y, s.put i (.own ys.dropLast))) = some (x, s') from h2)
    cases h4
    obtain ⟨w, b1, p, us, rfl, b2, b3, _⟩ := r.slot i _ h1
    rw [hv] at b1; cases b1
    have : vs = [] := by unfold Reps at rs; exact rs
    subst this
    obtain ⟨z, c1, c2⟩ := b3.get h3
    have e1 : us.dropLast = us.take (us.length - 1) := List.dropLast_eq_take
    have e2 : ys.dropLast = ys.take (ys.length - 1) := List.dropLast_eq_take
    refine .inl ⟨p, us, z, rfl, rfl, b2, by rw [b3.length]; exact c1, k _ _ (r.setOwn h1 hv b2 ?_) (RR.of c2)⟩
    rw [e1, e2, b3.length]
    exact b3.take _
  · obtain ⟨d, h1, h2⟩ := own_inv h
    cases d <;> first | (cases h2; done) | skip
    rename_i n ys
    have h3 : (if -(2 ^ 63) ≤ n ∧ n < 2 ^ 63 then (ixN ys.length n).bind fun k => (ys[k]?).map fun y => (y, s.put i (.own (ys.eraseIdx k))) else none) = some (x, s') := h2
    split at h3 <;> first | (cases h3; done) | skip
    rename_i hn
    obtain ⟨j, h4, h5⟩ := bind_inv h3
    obtain ⟨y, h6, h7⟩ := map_inv h5
    cases h7
    obtain ⟨w, b1, p, us, rfl, b2, b3, _⟩ := r.slot i _ h1
    rw [hv] at b1; cases b1
    obtain ⟨z, rfl, rz⟩ := reps1 rs
    obtain ⟨z2, c1, c2⟩ := b3.get h6
    exact .inr ⟨p, us, n, j, z2, rfl, by rw [rep_int rz], b2, hn.1, hn.2, by rw [b3.length]; exact (ixN_seq h4).1, c1, k _ _ (r.setOwn h1 hv b2 (b3.eraseIdx j)) (RR.of c2)⟩
  · obtain ⟨d, h1, h2⟩ := own_inv h
    cases d <;> first | (cases h2; done) | skip
    rename_i y ys
    have h3 : (if shN 60 y && ys.all (shN 59) then some (D.int ((ys.countP fun z => eqD z y : Nat) : Int), s) else none) = some (x, s') := h2
    split at h3 <;> cases h3
    rename_i hs
    rw [Bool.and_eq_true] at hs
    obtain ⟨w, b1, p, us, rfl, b2, b3, _⟩ := r.slot i _ h1
    rw [hv] at b1; cases b1
    obtain ⟨z, rfl, rz⟩ := reps1 rs
    have hl := sh_lay 60 y hs.1
    refine ⟨p, z, pyD y, pyDs ys, rfl, rfl, .lst (SqL.of b2) (dps_of r.ef 59 ys us (List.all_eq_true.mp hs.2) b3), dp_of r.ef _ _ _ hs.1 rz, hl.1, hl.2, (sh_lays 59 _ (List.all_eq_true.mp hs.2)).1, ?_⟩
    rw [count_py hs.1 _ hs.2]
    exact k _ _ r (RR.of (of_int _))
  · cases h
theorem e_mut {e : Expr} {m : Mth} {i : Nat} (h : PE X e (tBM X.K "list" (rMut X.K m) (tVar i) (tA X.K fa c ee))) : PE X e (tE X.K fa c (.mut m i ee)) :=
  pe_w h fun σ H Q ⟨W, F, B, s, d, s', r, h, k⟩ => by
    have h' : (if ownL s i then (evA c ee s).bnd fun xs s1 => (Res.opt (mutD s1 i m xs) s1).bnd fun p _ => .ok p.1 p.2 else .bad) = Res.ok d s' := h
    split at h' <;> first | (cases h'; done) | skip
    rename_i ho
    obtain ⟨xs, s1, h1, h2⟩ := bnd_inv h'
    obtain ⟨p, s2, h3, h4⟩ := bnd_inv h2
    obtain ⟨q, rfl⟩ := opt_inv h3
    cases h4
    unfold ownL at ho
    cases hg : s.get i with
    | none => rw [hg] at ho; cases ho
    | some d0 =>
      rw [hg] at ho
      cases d0 <;> first | (cases ho; done) | skip
      obtain ⟨v, b1, p0, us, rfl, b2, b3, _⟩ := r.slot i _ hg
      exact ⟨_, b1, .inl ⟨rfl, us, SqL.of b2⟩, tA_use r h1 fun F1 B1 H1 vs st1 r1 rs => mut_ok q r1 b1 rs fun H' w r2 rr => k F1 B1 H' w st1 r2 rr⟩
theorem e_mut0 {e : Expr} {m : Mth} {i : Nat} (h : PE X e (tBM0 X.K "list" (rMut X.K m) (tVar i))) : PE X e (tE X.K fa c (.mut m i .nil)) :=
  pe_w h fun σ H Q ⟨W, F, B, s, d, s', r, h, k⟩ => by
    have h' : (if ownL s i then (evA c .nil s).bnd fun xs s1 => (Res.opt (mutD s1 i m xs) s1).bnd fun p _ => .ok p.1 p.2 else .bad) = Res.ok d s' := h
    split at h' <;> first | (cases h'; done) | skip
    rename_i ho
    obtain ⟨xs, s1, h1, h2⟩ := bnd_inv h'
    obtain ⟨p, s2, h3, h4⟩ := bnd_inv h2
    obtain ⟨q, rfl⟩ := opt_inv h3
    cases h4
    cases h1
    unfold ownL at ho
    cases hg : s.get i with
    | none => rw [hg] at ho; cases ho
    | some d0 =>
      rw [hg] at ho
      cases d0 <;> first | (cases ho; done) | skip
      obtain ⟨v, b1, p0, us, rfl, b2, b3, _⟩ := r.slot i _ hg
      exact ⟨_, b1, .inl ⟨rfl, us, SqL.of b2⟩, mut_ok q r b1 .nil fun H' w r2 rr => k F B H' w Stp.refl r2 rr⟩
end

/-! ### calls -/
/-- all that stands but the boxes -/
def below (H : Hp) (B : List Addr) : Hp := fun a => if a ∈ B then none else H a
theorem below_of {H : Hp} {B : List Addr} {p : Addr} (h : p ∉ B) : below H B p = H p := by unfold below; rw [if_neg h]
theorem below_in {H : Hp} {B : List Addr} {p : Addr} (h : p ∈ B) : below H B p = none := by unfold below; rw [if_pos h]
section
variable (K : PySem.W.Frag) (fa : Nat → Option Addr)
/-- what a def keeps to: what the evaluator tells of it -/
def spF (call : Nat → List D → List (List D) → CR) (np k : Nat) : Sp := fun vs H Q _ => vs.length = np ∧ ∃ W F B xs box d box', Rel K fa W F B ⟨[], box⟩ [] H ∧ Reps K fa F B xs vs ∧ call k xs box = .ok d box' ∧
  (∀ a o, H a = some o → a ∉ B → W a = some o) ∧ ∀ F' B' H' v, Stp W F B F' B' → Rel K fa W F' B' ⟨[], box'⟩ [] H' → RR K fa W F' B' ⟨[], box'⟩ [] H' d v → Q v H'
end
section
variable {K : PySem.W.Frag} {fa : Nat → Option Addr} {W F F' : Hp} {B B' : List Addr} {s : S} {σ : L2.St} {H H' : Hp} {d : D} {v : V}
theorem get_nil (i : Nat) (b : List (List D)) : (S.mk [] b).get i = none := by unfold S.get; simp
theorem Rel.toCall (r : Rel K fa W F B s σ H) : Rel K fa (below H B) F B ⟨[], s.box⟩ [] H := by
  refine ⟨fun a o e => ?_, r.ef, rfl, (fun i d h => by rw [get_nil] at h; cases h), (fun i j d e v _ h _ _ _ _ _ => by rw [get_nil] at h; cases h), r.bl, fun k xs h => ?_, r.bd⟩
  · by_cases hb : a ∈ B
    · rw [below_in hb] at e; cases e
    · rw [below_of hb] at e; exact e
  · obtain ⟨p, vs, h1, h2, h3, h4, h5⟩ := r.bx k xs h
    exact ⟨p, vs, h1, h2, h3, below_in (List.mem_of_getElem? h1), h5⟩
theorem Rel.ofCall {b' : List (List D)} (r : Rel K fa W F B s σ H) (st : Stp (below H B) F B F' B') (r' : Rel K fa (below H B) F' B' ⟨[], b'⟩ [] H') (rr : RR K fa (below H B) F' B' ⟨[], b'⟩ [] H' d v) :
    Stp W F B F' B' ∧ Rel K fa W F' B' { s with box := b' } σ H' ∧ RR K fa W F' B' { s with box := b' } σ H' d v := by
  have wle : ∀ a, below H B a = none → W a = none := fun a h => by
    cases q : W a with
    | none => rfl
    | some o =>
      have h1 := r.ew a o q
      by_cases hb : a ∈ B
      · obtain ⟨k, hk⟩ := List.getElem?_of_mem hb
        have hk' : k < s.box.length := by rw [← r.bl]; exact (List.getElem?_eq_some_iff.mp hk).1
        obtain ⟨p, vs, h2, h3, _, h4, _⟩ := r.bx k s.box[k] (by simp [hk'])
        rw [hk] at h2; cases h2
        rw [h4] at q; cases q
      · rw [below_of hb] at h; rw [h] at h1; cases h1
  have st' : Stp W F B F' B' := ⟨st.ex, fun p o h => (st.gr p o h).imp id (wle p), st.bs⟩
  have newB : ∀ p ∈ B', below H B p = none := fun p hp => by
    obtain ⟨k, hk⟩ := List.getElem?_of_mem hp
    have hk' : k < b'.length := by have := r'.bl; simp at this; rw [← this]; exact (List.getElem?_eq_some_iff.mp hk).1
    obtain ⟨p', vs, h2, h3, _, h4, _⟩ := r'.bx k b'[k] (by simp [hk'])
    rw [hk] at h2; cases h2
    exact h4
  have own : ∀ i e p u, s.get i = some e → e.isOwn = true → σ[i]? = some (some (.ref p)) → H p = some u → below H B p = some u ∧ F p = none := fun i e p u h1 h2 h3 h4 => by
    obtain ⟨w, h5, h6⟩ := r.slot i e h1
    rw [h3] at h5; cases h5
    obtain ⟨p', u', h7, h8, _, h9, h10⟩ := h6.own h2
    cases h7
    exact ⟨by rw [below_of h10]; exact h4, h9⟩
  refine ⟨st', ⟨fun a o e => r'.ew a o ?_, r'.ef, r.len, fun i e h => ?_, r.apart, r'.bl, fun k xs h => ?_, r'.bd⟩, ?_⟩
  · cases q : below H B a with
    | none => rw [wle a q] at e; cases e
    | some o' =>
      have h1 := r.ew a o e
      by_cases hb : a ∈ B
      · rw [below_in hb] at q; cases q
      · rw [below_of hb, h1] at q; exact q.symm
  · obtain ⟨w, h1, h2⟩ := r.slot i e h
    refine ⟨w, h1, h2.mono st.ex st.bs (fun p u q1 q2 q3 => ?_) (fun p q1 q2 q3 => ?_) (fun p q1 q2 q3 => ?_)⟩
    · subst q2
      exact r'.ew _ _ (own i e p u h q1 h1 q3).1
    · subst q2
      obtain ⟨p', u', h7, h8, _⟩ := h2.own q1
      cases h7
      cases q : F' p with
      | none => rfl
      | some o =>
        rcases st.gr p o q with h9 | h9
        · rw [q3] at h9; cases h9
        · rw [(own i e p u' h q1 h1 h8).1] at h9; cases h9
    · subst q2
      obtain ⟨p', u', h7, h8, _⟩ := h2.own q1
      cases h7
      intro hp
      have := newB p hp
      rw [(own i e p u' h q1 h1 h8).1] at this; cases this
  · obtain ⟨p, vs, h1, h2, h3, h4, h5⟩ := r'.bx k xs h
    exact ⟨p, vs, h1, h2, h3, wle p h4, h5⟩
  · refine ⟨?_, fun ho i e h1 h2 h3 => ?_⟩
    · have := rr.1
      cases d with
      | own xs => obtain ⟨p, vs, a1, a2, a3, a4, a5, a6⟩ := this; exact ⟨p, vs, a1, a2, a3, wle p a4, a5, a6⟩
      | odc xs => obtain ⟨p, vs, a1, a2, a3, a4, a5, a6⟩ := this; exact ⟨p, vs, a1, a2, a3, wle p a4, a5, a6⟩
      | _ => exact this
    · obtain ⟨p, u, a1, a2, a3, _⟩ := rr.1.own ho
      subst a1
      obtain ⟨w, b1, b2⟩ := r.slot i e h1
      have h3' : σ[i]? = some (some (V.ref p)) := h3
      rw [h3'] at b1; cases b1
      obtain ⟨p', u', h7, h8, _⟩ := b2.own h2
      cases h7
      rw [(own i e p u' h1 h2 h3' h8).1] at a3; cases a3
end
section
variable {X : Cx} {fa : Nat → Option Addr} {c : Env} {ee : E}
theorem e_call {e : Expr} {k np : Nat} {E : XK} (h : PE X e (tCall (spF X.K fa c.call np k) [] E (tA X.K fa c ee))) (hn : ∀ s s' xs, evA c ee s = .ok xs s' → xs.length = np) : PE X e (tE X.K fa c (.call k ee)) :=
  pe_w h fun σ H Q ⟨W, F, B, s, d, s', r, h, kk⟩ => by
    obtain ⟨xs, s1, h1, h2⟩ := bnd_inv h
    refine tA_use r h1 fun F1 B1 H1 vs st1 r1 rs => ?_
    rw [List.append_nil]
    unfold callR at h2
    split at h2 <;> cases h2
    rename_i b hc
    refine ⟨by rw [rs.length]; exact hn _ _ _ h1, below H1 B1, F1, B1, xs, s1.box, d, b, r1.toCall, rs, hc, fun a o e nb => by rw [below_of nb]; exact e, fun F' B' H' v st r' rr => ?_⟩
    obtain ⟨q1, q2, q3⟩ := r1.ofCall st r' rr
    exact kk F' B' H' v (st1.trans q1) q2 q3
end
end Q
end

section
set_option maxRecDepth 100000
set_option maxHeartbeats 2000000
/-! QZip: zip over lists and tuples in any mix (true: a tuple). -/
namespace Q
open PySem PySem.Spec PyProof.Rows L2

def SqB (t : Bool) (K : PySem.W.Frag) (H : Hp) (p : Addr) (xs : List V) : Prop := match t with
  | true => SqT K H p xs
  | false => SqL K H p xs
def ItB (t : Bool) (h : Heap) (i p : Addr) (n : Nat) : Prop := match t with
  | true => h.IsTupleIter i p n
  | false => h.IsListIter i p n
def HsB (t : Bool) (h : Heap) (p : Addr) (xs : Array Value) : Prop := match t with
  | true => h.IsTuple p xs
  | false => h.IsList p xs
def obB (t : Bool) (p : Addr) : Obj := match t with
  | true => { cls := .type "tuple_iterator", data := .fields #[.ref p, .int 0 0] }
  | false => { cls := .type "list_iterator", data := .fields #[.ref p, .int 0 0] }
theorem drawsB (t : Bool) {prog : Program} {w : World} {A : Around} (hh : A.handled = none) (i p : Addr) (ne : p ≠ i) (xs : Array Value) :
    Draws prog w A i [i, p] xs.size (fun n v => xs[n]? = some v) (fun n h => ItB t h i p n ∧ HsB t h p xs) := by
  cases t
  · exact Draws.list hh i p ne xs
  · exact Draws.tuple hh i p ne xs
theorem beginsB (t : Bool) (p : Addr) (xs : Array Value) : Begins (.ref p) (obB t p) (fun h => HsB t h p xs) := by
  cases t
  · exact begins_list p xs
  · exact begins_tuple p xs
theorem itB0 {t : Bool} {h : Heap} {i p : Addr} (e : h.get? i = some (obB t p)) : ItB t h i p 0 := by
  cases t
  · exact ⟨_, e, rfl, rfl⟩
  · exact ⟨_, e, rfl, rfl⟩
theorem itB_at {t : Bool} {h h' : Heap} {i p : Addr} {n : Nat} (q : ItB t h i p n) (k : ∀ o, h.get? i = some o → h'.get? i = some o) : ItB t h' i p n := by
  cases t
  · exact Heap.IsListIter.at q k
  · exact Heap.IsTupleIter.at q k
theorem itB_obj {t : Bool} {h : Heap} {i p : Addr} {n : Nat} (q : ItB t h i p n) : ∃ o vs, h.get? i = some o ∧ o.data = .fields vs := by
  cases t
  · obtain ⟨o, e, _, d⟩ := q; exact ⟨o, _, e, d⟩
  · obtain ⟨o, e, _, d⟩ := q; exact ⟨o, _, e, d⟩
section
variable {X : Cx} {pins : List (Addr × Obj)} {σ : L2.St} {H : Hp} {s : Shared} {p : Addr} {xs ys : List V} {t : Bool}
theorem inB (I : Inv X pins σ H s) (q : SqB t X.K H p xs) : ∃ its : List Value, Vals xs its ∧ HsB t s.heap p its.toArray ∧ p < s.heap.objs.size := by
  cases t
  · obtain ⟨its, r, p1, _⟩ := I.list q
    exact ⟨its, r, p1.isList, p1.lt⟩
  · obtain ⟨its, r, p1, _⟩ := I.tuple q
    obtain ⟨o, e, _⟩ := id p1
    exact ⟨its, r, p1, Heap.lt_size e⟩
theorem injB (I : Inv X pins σ H s) (q : SqB t X.K H p xs) (q' : SqB t X.K H p ys) : xs = ys := by
  cases t
  · exact I.list_inj q q'
  · exact I.tuple_inj q q'
end
/-- what stands at a and b at each turn, the items in new pairs -/
def ItzB (K : PySem.W.Frag) (t u : Bool) (a b : Addr) : It :=
  ⟨fun i H => ∃ (xs ys : List V) (x y : V), SqB t K H a xs ∧ SqB u K H b ys ∧ xs[i]? = some x ∧ ys[i]? = some y,
    fun i H v H' => ∃ T x y, v = .ref T ∧ H T = none ∧ H' = upd H T (.tup [x, y]) ∧ (∀ xs, SqB t K H a xs → xs[i]? = some x) ∧ ∀ ys, SqB u K H b ys → ys[i]? = some y,
    fun i H => ∃ xs ys : List V, SqB t K H a xs ∧ SqB u K H b ys ∧ (i = xs.length ∧ i ≤ ys.length ∨ i ≤ xs.length ∧ i = ys.length)⟩
theorem sepOf {z TI TO i1 i2 a b : Addr} (D : ZipApart z TI TO i1 i2 a b) : ZipSep2 z TI TO i1 i2 [i1, a] [i2, b] where
  TIz := D.TIz
  TOz := D.TOz
  TITO := D.TITO
  TIi1 := D.TIi1
  mem1 := by simp
  zf1 := by simp; exact ⟨D.i1z.symm, D.l1z.symm⟩
  Tf1 := by simp; exact ⟨D.TOi1, D.l1TO.symm⟩
  TIi2 := D.TIi2
  mem2 := by simp
  zf2 := by simp; exact ⟨D.i2z.symm, D.l2z.symm⟩
  Tf2 := by simp; exact ⟨D.TOi2, D.l2TO.symm⟩
  sep1_2 := by simp; exact ⟨D.i12, D.l2i1.symm⟩
  sep2_1 := by simp; exact ⟨D.i12.symm, D.l1i2.symm⟩
theorem turn_zipB {P : Program} {w : World} {K : PySem.W.Frag} {elts : List Expr} {kk : Nat} {tpos : Pos} {t u : Bool} {a b z TI TO i1 i2 : Addr} (D : ZipApart z TI TO i1 i2 a b) :
    Turn P w K (.Tuple elts kk tpos) (ItzB K t u a b) [z, TI, TO, i1, i2] z (fun i h => IsZip h z TI TO .none ∧ IsPair h TI (.ref i1) (.ref i2) ∧ (∃ x y, IsPair h TO x y) ∧ ItB t h i1 a i ∧ ItB u h i2 b i) where
  mem := by simp
  obj := fun i h st c hc => by
    obtain ⟨hz, hTI, ⟨x, y, hTO⟩, h1, h2⟩ := st
    obtain ⟨o1, vs1, e1, d1⟩ := itB_obj h1
    obtain ⟨o2, vs2, e2, d2⟩ := itB_obj h2
    have e' : c = z ∨ c = TI ∨ c = TO ∨ c = i1 ∨ c = i2 := by simpa using hc
    rcases e' with q | q | q | q | q
    · rw [q]; exact ⟨_, hz, fun v q => nomatch q⟩
    · rw [q]; exact ⟨_, hTI, fun v q => nomatch q⟩
    · rw [q]; exact ⟨_, hTO, fun v q => nomatch q⟩
    · rw [q]; exact ⟨o1, e1, fun v q => by rw [d1] at q; cases q⟩
    · rw [q]; exact ⟨o2, e2, fun v q => by rw [d2] at q; cases q⟩
  keep := fun i h h' st k => by
    obtain ⟨hz, hTI, ⟨x, y, hTO⟩, h1, h2⟩ := st
    exact ⟨k z (by simp) _ hz, k TI (by simp) _ hTI, ⟨x, y, k TO (by simp) _ hTO⟩, itB_at h1 fun o q => k i1 (by simp) o q, itB_at h2 fun o q => k i2 (by simp) o q⟩
  item := by
    intro X hP hw hK hc i pins s σ H E I hf st hg
    subst hP hw hK
    obtain ⟨hz, hTI, ⟨x0, y0, hTO⟩, h1, h2⟩ := st
    obtain ⟨xs, ys, x, y, hqx, hqy, hx, hy⟩ := hg
    obtain ⟨its, rv, p, _⟩ := inB I hqx
    obtain ⟨its2, rv2, p2, _⟩ := inB I hqy
    obtain ⟨v, hu, ru⟩ := rv.get hx
    obtain ⟨v2, hu2, ru2⟩ := rv2.get hy
    have hh : X.A.in1.handled = none := I.ok.hd hc
    have hzl : z < s.heap.objs.size := Heap.lt_size hz
    have l1 : i < its.toArray.size := by simpa using (List.getElem?_eq_some_iff.mp hu).1
    have l2 : i < its2.toArray.size := by simpa using (List.getElem?_eq_some_iff.mp hu2).1
    refine wpAny_pyNext_zipD2_item (sepOf D) (drawsB t hh i1 a D.l1i1 its.toArray) (drawsB u hh i2 b D.l2i2 its2.toArray) hz hTI hTO ⟨h1, p⟩ ⟨h2, p2⟩ l1 l2 fun x1 x2 h' tk hx1 hx2 z' TO' st1 st2 hT hsz hk => ?_
    have hx1' : x1 = v := by have := hx1; simp [hu] at this; exact this.symm
    have hx2' : x2 = v2 := by have := hx2; simp [hu2] at this; exact this.symm
    subst hx1' hx2'
    refine ⟨_, rfl, wpAny_letOwnedTupleGo_zip (s := { s with heap := h', toks := tk }) z' fun h'' z'' sb => ?_⟩
    have hT2 : h''.get? s.heap.objs.size = some { cls := .type "tuple", data := .seq #[x1, x2] } := (sb.2 _ (Nat.ne_of_gt hzl)).trans hT
    have new : ObjOk X.prog X.w (upd H s.heap.objs.size (.tup [x, y])) h'' s.heap.objs.size (.tup [x, y]) :=
      ⟨by show 2 ≤ sizeLine; decide, [x1, x2], .cons ru (.cons ru2 .nil), ⟨_, hT2, rfl, _, rfl⟩⟩
    have I1 : Inv X pins σ (upd H s.heap.objs.size (.tup [x, y])) { s with heap := h'', toks := tk } :=
      I.turnedNew (t' := tk) (ch := [z, TI, TO, i1, i2]) (fun c o hb q => (sb.2 c (fun q' => hb (by simp [q']))).trans (hk c o (fun q' => hb (by simp [q'])) (fun q' => hb (by simp [q'])) (fun q' => hb (by simp [q'])) (fun q' => hb (by simp [q'])) q)) hf (Nat.le_refl _) new
    refine ⟨.ref s.heap.objs.size, _, I1, rfl, ⟨_, x, y, rfl, I.hok.fresh (Nat.le_refl _), rfl, fun l hl => by rw [injB I hl hqx]; exact hx, fun l hl => by rw [injB I hl hqy]; exact hy⟩, ⟨z'', ?_, ⟨x1, x2, ?_⟩, ?_, ?_⟩, fun c hcm => ?_⟩
    · exact (sb.2 _ D.TIz).trans (hk _ _ D.TIz D.TITO D.TIi1 D.TIi2 hTI)
    · exact (sb.2 _ D.TOz).trans TO'
    · exact itB_at st1.1 fun o q => (sb.2 _ D.i1z).trans q
    · exact itB_at st2.1 fun o q => (sb.2 _ D.i2z).trans q
    · have hlt : c < s.heap.objs.size := by
        obtain ⟨o1, vs1, e1, d1⟩ := itB_obj h1
        obtain ⟨o2, vs2, e2, d2⟩ := itB_obj h2
        have e' : c = z ∨ c = TI ∨ c = TO ∨ c = i1 ∨ c = i2 := by simpa using hcm
        rcases e' with q | q | q | q | q
        · rw [q]; exact hzl
        · rw [q]; exact Heap.lt_size hTI
        · rw [q]; exact Heap.lt_size hTO
        · rw [q]; exact Heap.lt_size e1
        · rw [q]; exact Heap.lt_size e2
      rw [upd_ne (Nat.ne_of_lt hlt)]
      exact (hf c hcm).1
  done := by
    intro X hP hw hK hc i pins s σ H E I hf st hg
    subst hP hw hK
    obtain ⟨hz, hTI, ⟨x0, y0, hTO⟩, h1, h2⟩ := st
    obtain ⟨xs, ys, hqx, hqy, hend⟩ := hg
    obtain ⟨its, rv, p, _⟩ := inB I hqx
    obtain ⟨its2, rv2, p2, _⟩ := inB I hqy
    have l1 := rv.length
    have l2 := rv2.length
    have hh : X.A.in1.handled = none := I.ok.hd hc
    exact wpAny_pyNext_zipD2_end (sepOf D) (drawsB t hh i1 a D.l1i1 its.toArray) (drawsB u hh i2 b D.l2i2 its2.toArray) hz hTI hTO ⟨h1, p⟩ ⟨h2, p2⟩ (by simp; omega) (by simp; omega) (by simp; omega) fun h' tk hk => ⟨rfl, I.turnedL (t' := tk) (ch := [z, TI, TO, i1, i2]) (fun c o hb q =>
      hk c o (fun q' => hb (by simp [q'])) (fun q' => hb (by simp [q'])) (fun q' => hb (by simp [q'])) (fun q' => hb (by simp [q'])) q) hf⟩
  self := fun A i s Q E st h => wpAny_pyIter_zip st.1 h
def iZipB (K : PySem.W.Frag) (ta : TA) : TI := fun σ H R => ta σ H fun vs H1 => ∃ t u a b xs ys, vs = [.ref a, .ref b] ∧ SqB t K H1 a xs ∧ SqB u K H1 b ys ∧ R (ItzB K t u a b) H1
theorem pi_zipB {X : Cx} {e e2 : Expr} {ta : TA} {p pos tpos : Pos} {elts : List Expr} {kk : Nat} (hg : Gl X "zip") (hm : X.mg "zip" = none) (ha : PA X [e, e2] ta)
    (hs : starEach [e, e2] X.env = (false, eval e X.env) :: starEach [e2] X.env) (hpl : (backTo pos (starEach [e2] X.env)).any (·.1) = false) :
    PI X (.Tuple elts kk tpos) (.Call (.Name "zip" p) [e, e2] [] pos) (iZipB X.K ta) := by
  refine ⟨fun pins s σ H R I h => ?_⟩
  refine Call_ (ld_blt I hg hm PyProof.Rows.boot_zip (PyProof.Rows.callWith_type1 (thn (ha.run pos pins s σ H _ I h) fun us s1 ⟨vs, H1, I1, r1, q1⟩ => ?_) hs hpl))
  obtain ⟨t, u, a, b, xs, ys, ex, hqx, hqy, q⟩ := q1
  subst ex
  cases r1 with
  | cons r rr =>
    cases rr with
    | cons r' rr =>
      cases rr
      cases r
      cases r'
      have fresh5 : ∀ c, c ∈ [s1.heap.objs.size + 4, s1.heap.objs.size + 2, s1.heap.objs.size + 3, s1.heap.objs.size, s1.heap.objs.size + 1] → FpOk X pins H1 c := fun c hcm => by
        have e' : c = s1.heap.objs.size + 4 ∨ c = s1.heap.objs.size + 2 ∨ c = s1.heap.objs.size + 3 ∨ c = s1.heap.objs.size ∨ c = s1.heap.objs.size + 1 := by simpa using hcm
        have hle : s1.heap.objs.size ≤ c := by omega
        exact I1.fpOk hle (I1.hok.fresh hle)
      obtain ⟨its, rv, p1, lt1⟩ := inB I1 hqx
      obtain ⟨its2, rv2, p2, lt2⟩ := inB I1 hqy
      refine zip_begins2 (beginsB t a its.toArray) (beginsB u b its2.toArray) p1 p2 fun h' hz hTI hTO h1 h2 hsz hk => wpAny_pyIter_zip hz ?_
      have I2 : Inv X pins σ H1 { s1 with heap := h' } := I1.kept (t' := s1.toks) hk
      exact ⟨s1.heap.objs.size + 4, [s1.heap.objs.size + 4, s1.heap.objs.size + 2, s1.heap.objs.size + 3, s1.heap.objs.size, s1.heap.objs.size + 1], _, _, H1, rfl, I2, turn_zipB (PySem.W.ktu_apart s1.heap.objs.size a b lt1 lt2), ⟨hz, hTI, ⟨_, _, hTO⟩, itB0 h1, itB0 h2⟩, fresh5, q⟩
theorem walk_zipB {K : PySem.W.Frag} {t u : Bool} {a b : Addr} {xs ys : List V} {n : Nat} (hn : n = min xs.length ys.length) :
    Walk (ItzB K t u a b) n (fun H => SqB t K H a xs ∧ SqB u K H b ys) (YPair (fun i => xs[i]?) (fun i => ys[i]?)) := by
  subst hn
  refine ⟨fun i _ hi q => ?_, fun _ q => ⟨xs, ys, q.1, q.2, by omega⟩, fun i H v H' _ q y => ?_⟩
  · have h1 : i < xs.length := by omega
    have h2 : i < ys.length := by omega
    exact ⟨xs, ys, xs[i], ys[i], q.1, q.2, by simp [h1], by simp [h2]⟩
  · obtain ⟨T, x, z, h1, h2, h3, h4, h5⟩ := y
    exact ⟨T, x, z, h1, h2, h3, h4 xs q.1, h5 ys q.2⟩
end Q
end

section
set_option maxRecDepth 100000
set_option maxHeartbeats 2000000
/-! QIter: what loops and comprehensions walk; targets. -/
namespace Q
open PySem PySem.Spec PyProof.Rows L2

section
variable (K : PySem.W.Frag) (fa : Nat → Option Addr) (F : Hp) (B : List Addr)
/-- an item: a value for good, or a new tuple of such -/
def Yk (H1 : Hp) (d : D) (x : V) (H2 : Hp) : Prop := (H2 = H1 ∧ Rep K fa F B d x) ∨ ∃ T vs es, x = .ref T ∧ H1 T = none ∧ H2 = upd H1 T (.tup vs) ∧ d = .tup es ∧ Reps K fa F B es vs
def Wk (H : Hp) (J : It) (ds : List D) : Prop := ∃ (G : Hp → Prop) (Y : Nat → Hp → V → Hp → Prop), Walk J ds.length G Y ∧ (∀ H1, Ex F H1 → G H1) ∧ ∀ (i : Nat) H1 x H2, i < ds.length → Ex F H1 → Y i H1 x H2 → ∃ d, ds[i]? = some d ∧ Yk K fa F B H1 d x H2
def wI (c : Env) (e : E) : TI := fun σ H R => ∃ W F B s ds s', Rel K fa W F B s σ H ∧ evI c e s = .ok ds s' ∧ ∀ F' B' H' J, Stp W F B F' B' → Rel K fa W F' B' s' σ H' → Wk K fa F' B' H' J ds → R J H'
end
theorem pi_w {X : Cx} {tg e : Expr} {t t' : TI} (h : PI X tg e t) (w : ∀ σ H R, t' σ H R → t σ H R) : PI X tg e t' := ⟨fun pins s σ H R I q => h.run pins s σ H R I (w σ H R q)⟩
section
variable {K : PySem.W.Frag} {fa : Nat → Option Addr} {F : Hp} {B : List Addr} {H : Hp} {ds es : List D} {vs ws : List V} {p q : Addr}
theorem wk_tup (h : SqT K F p vs) (r : Reps K fa F B ds vs) : Wk K fa F B H (Itt K p) ds := by
  refine ⟨fun H => SqT K H p vs, YAt vs, by rw [← r.length]; exact walk_tup, fun H1 e => ex_t e h, fun i H1 x H2 hi e y => ?_⟩
  obtain ⟨d, hd⟩ : ∃ d, ds[i]? = some d := ⟨ds[i], by simp [hi]⟩
  obtain ⟨v, h1, h2⟩ := r.get hd
  have := y.2
  rw [h1] at this; cases this
  exact ⟨d, hd, .inl ⟨y.1, h2⟩⟩
theorem wk_lst (h : SqL K F p vs) (r : Reps K fa F B ds vs) : Wk K fa F B H (Itl K p) ds := by
  refine ⟨fun H => SqL K H p vs, YAt vs, by rw [← r.length]; exact walk_list, fun H1 e => ex_l e h, fun i H1 x H2 hi e y => ?_⟩
  obtain ⟨d, hd⟩ : ∃ d, ds[i]? = some d := ⟨ds[i], by simp [hi]⟩
  obtain ⟨v, h1, h2⟩ := r.get hd
  have := y.2
  rw [h1] at this; cases this
  exact ⟨d, hd, .inl ⟨y.1, h2⟩⟩
theorem range_get {lo : Int} {n i : Nat} (h : i < n) : (rangeD lo n)[i]? = some (.int (lo + (i : Nat))) := by
  unfold rangeD
  simp [h]
theorem range_len (lo : Int) (n : Nat) : (rangeD lo n).length = n := by unfold rangeD; simp
theorem wk_range {lo : Int} {n : Nat} : Wk K fa F B H (Itr lo n) (rangeD lo n) := by
  refine ⟨fun _ => True, YFn fun i => .int (lo + i), by rw [range_len]; exact walk_range, fun _ _ => trivial, fun i H1 x H2 hi e y => ?_⟩
  rw [range_len] at hi
  exact ⟨_, range_get hi, .inl ⟨y.1, by rw [y.2]; exact of_int _⟩⟩
theorem zip_len : ∀ (xs ys : List D), (zipD xs ys).length = min xs.length ys.length
  | [], ys => by simp [zipD]
  | x :: xs, [] => by simp [zipD]
  | x :: xs, y :: ys => by simp [zipD, zip_len xs ys]
theorem zip_get : ∀ {xs ys : List D} {i : Nat} {x y : D}, xs[i]? = some x → ys[i]? = some y → (zipD xs ys)[i]? = some (.tup [x, y])
  | [], ys, i, x, y, h, _ => by simp at h
  | x0 :: xs, [], i, x, y, _, h => by simp at h
  | x0 :: xs, y0 :: ys, 0, x, y, h, h' => by simp at h h'; subst h h'; rfl
  | x0 :: xs, y0 :: ys, i + 1, x, y, h, h' => by simp at h h'; simpa [zipD] using zip_get h h'
theorem yk_pair {xs ys : List D} {us vs : List V} {i : Nat} {H1 H2 : Hp} {x : V} (r : Reps K fa F B xs us) (r' : Reps K fa F B ys vs) (hi : i < (zipD xs ys).length) (y : YPair (fun i => us[i]?) (fun i => vs[i]?) i H1 x H2) :
    ∃ d, (zipD xs ys)[i]? = some d ∧ Yk K fa F B H1 d x H2 := by
  rw [zip_len] at hi
  obtain ⟨d, hd⟩ : ∃ d, xs[i]? = some d := ⟨xs[i]'(by omega), by simp <;> omega⟩
  obtain ⟨e, he⟩ : ∃ d, ys[i]? = some d := ⟨ys[i]'(by omega), by simp <;> omega⟩
  obtain ⟨T, a, b, h1, h2, h3, h4, h5⟩ := y
  obtain ⟨a', g1, g2⟩ := r.get hd
  obtain ⟨b', g3, g4⟩ := r'.get he
  have h4' : us[i]? = some a := h4
  have h5' : vs[i]? = some b := h5
  rw [g1] at h4'; cases h4'
  rw [g3] at h5'; cases h5'
  exact ⟨_, zip_get hd he, .inr ⟨T, _, _, h1, h2, h3, rfl, .cons g2 (.one g4)⟩⟩
theorem sqB_ex {t : Bool} {H1 : Hp} {xs : List V} (e : Ex F H1) (h : SqB t K F p xs) : SqB t K H1 p xs := by
  cases t
  · exact ex_l e h
  · exact ex_t e h
theorem wk_zip {t u : Bool} (h : SqB t K F p vs) (h' : SqB u K F q ws) (r : Reps K fa F B ds vs) (r' : Reps K fa F B es ws) : Wk K fa F B H (ItzB K t u p q) (zipD ds es) := by
  refine ⟨_, _, walk_zipB (K := K) (t := t) (u := u) (a := p) (b := q) (xs := vs) (ys := ws) (by rw [zip_len, r.length, r'.length]), fun H1 e => ⟨sqB_ex e h, sqB_ex e h'⟩, fun i H1 x H2 hi e y => yk_pair r r' hi y⟩
theorem enum_len : ∀ (n : Nat) (xs : List D), (enumD n xs).length = xs.length
  | n, [] => rfl
  | n, x :: xs => by simp [enumD, enum_len (n + 1) xs]
theorem enum_get : ∀ {n : Nat} {xs : List D} {i : Nat} {x : D}, xs[i]? = some x → (enumD n xs)[i]? = some (.tup [.int ((n + i : Nat) : Int), x])
  | n, [], i, x, h => by simp at h
  | n, x0 :: xs, 0, x, h => by simp at h; subst h; rfl
  | n, x0 :: xs, i + 1, x, h => by
    simp at h
    have := enum_get (n := n + 1) h
    rw [show n + 1 + i = n + (i + 1) by omega] at this
    simpa [enumD] using this
theorem wk_enum (h : SqL K F p vs) (r : Reps K fa F B ds vs) : Wk K fa F B H (Ite K p) (enumD 0 ds) := by
  refine ⟨_, _, by rw [enum_len, ← r.length]; exact walk_enum (K := K) (a := p) (xs := vs), fun H1 e => ex_l e h, fun i H1 x H2 hi e y => ?_⟩
  rw [enum_len] at hi
  obtain ⟨d, hd⟩ : ∃ d, ds[i]? = some d := ⟨ds[i], by simp [hi]⟩
  obtain ⟨T, a, b, h1, h2, h3, h4, h5⟩ := y
  obtain ⟨b', g3, g4⟩ := r.get hd
  have h5' : vs[i]? = some b := h5
  rw [g3] at h5'; cases h5'
  cases h4
  refine ⟨_, enum_get hd, .inr ⟨T, _, _, h1, h2, h3, rfl, .cons ?_ (.one g4)⟩⟩
  rw [Nat.zero_add]; exact of_int _
end
section
variable {X : Cx} {fa : Nat → Option Addr} {c : Env} {a b d tg : Expr} {es : List Expr} {ea eb ed ee : E} {pos p tpos : Pos}
theorem i_its (ha : PE X a (tE X.K fa c ea)) : PI X tg a (wI X.K fa c (.its ea)) := ⟨fun pins s0 σ H R I ⟨W, F, B, s, ds, s', r, h, k⟩ => by
  obtain ⟨x, s1, h1, h2⟩ := bnd_inv h
  obtain ⟨q, rfl⟩ := opt_inv h2
  cases hx : x.frz <;> rw [hx] at q <;> first | (cases q; done) | skip
  · cases q
    refine (pi_tup ha).run pins s0 σ H R I (tE_use r h1 fun F1 B1 H1 v st r1 rx => ?_)
    rw [hx] at rx
    obtain ⟨p, vs, rfl, g1, g2⟩ := rep_tup rx
    exact ⟨p, rfl, ⟨vs, ex_t r1.ef g1⟩, k F1 B1 H1 _ st r1 (wk_tup g1 g2)⟩
  · cases q
    refine (pi_list ha).run pins s0 σ H R I (tE_use r h1 fun F1 B1 H1 v st r1 rx => ?_)
    rw [hx] at rx
    obtain ⟨p, vs, rfl, g1, g2⟩ := rep_lst rx
    exact ⟨p, rfl, ⟨vs, SqL.of (r1.ef _ _ g1)⟩, k F1 B1 H1 _ st r1 (wk_lst (SqL.of g1) g2)⟩
  · cases x <;> cases hx⟩
theorem rngOk_ok {i j : Int} (h : rngOk i j = true) : -(2 ^ 62) ≤ i ∧ i < 2 ^ 62 ∧ -(2 ^ 62) ≤ j ∧ j < 2 ^ 62 ∧ (j - i).toNat ≤ LINE := of_decide_eq_true (p := -(2 ^ 62) ≤ i ∧ i < 2 ^ 62 ∧ -(2 ^ 62) ≤ j ∧ j < 2 ^ 62 ∧ (j - i).toNat ≤ LINE) h
theorem i_rng1 {it : Expr} (h : PI X tg it (iRng1 (tA X.K fa c (.cons ea .nil)))) : PI X tg it (wI X.K fa c (.rng1 ea)) := pi_w h fun σ H R ⟨W, F, B, s, ds, s', r, h, k⟩ => by
  obtain ⟨x, s1, h1, h2⟩ := bnd_inv h
  cases x <;> first | (cases h2; done) | skip
  rename_i j
  have h3 : (if rngOk 0 j then Res.ok (rangeD 0 j.toNat) s1 else .bad) = .ok ds s' := h2
  split at h3 <;> cases h3
  rename_i hj
  obtain ⟨_, _, q1, q2, _⟩ := rngOk_ok hj
  have he : evA c (.cons ea .nil) s = .ok [.int j] s' := by
    show ((evE c ea s).bnd fun x s1 => (Res.ok [] s1).bnd fun xs s2 => .ok (x.frz :: xs) s2) = _
    rw [h1]; rfl
  refine tA_use r he fun F1 B1 H1 vs st r1 rs => ?_
  obtain ⟨v, rfl, rv⟩ := reps1 rs
  exact ⟨j, by rw [rep_int rv], q1, q2, k F1 B1 H1 _ st r1 wk_range⟩
theorem i_rng2 {it : Expr} (h : PI X tg it (iRng2 (tA X.K fa c (.cons ea (.cons eb .nil))))) : PI X tg it (wI X.K fa c (.rng2 ea eb)) := pi_w h fun σ H R ⟨W, F, B, s, ds, s', r, h, k⟩ => by
  obtain ⟨x, s1, h1, h2⟩ := bnd_inv h
  obtain ⟨y, s2, h3, h4⟩ := bnd_inv h2
  cases x <;> cases y <;> first | (cases h4; done) | skip
  rename_i i j
  have h5 : (if rngOk i j then Res.ok (rangeD i (j - i).toNat) s2 else .bad) = .ok ds s' := h4
  split at h5 <;> cases h5
  rename_i hj
  obtain ⟨q1, q2, q3, q4, _⟩ := rngOk_ok hj
  have he : evA c (.cons ea (.cons eb .nil)) s = .ok [.int i, .int j] s' := by
    show ((evE c ea s).bnd fun x s1 => ((evE c eb s1).bnd fun x s1 => (Res.ok [] s1).bnd fun xs s2 => .ok (x.frz :: xs) s2).bnd fun xs s2 => .ok (x.frz :: xs) s2) = _
    rw [h1, Res.bnd_ok, h3]; rfl
  refine tA_use r he fun F1 B1 H1 vs st r1 rs => ?_
  obtain ⟨v, w, rfl, rv, rw_⟩ := reps2 rs
  exact ⟨i, j, by rw [rep_int rv, rep_int rw_], ⟨q1, q2, q3, q4⟩, k F1 B1 H1 _ st r1 wk_range⟩
theorem items_inv {x : D} {ds : List D} (h : x.frz.items = some ds) : x.frz = .tup ds ∨ x.frz = .lst ds := by
  cases x <;> cases h <;> first | exact .inl rfl | exact .inr rfl
theorem items_of {F : Hp} {B : List Addr} {x : D} {v : V} {ds : List D} (h : x.frz.items = some ds) (r : Rep X.K fa F B x.frz v) : ∃ t p vs, v = .ref p ∧ SqB t X.K F p vs ∧ Reps X.K fa F B ds vs := by
  rcases items_inv h with e | e
  · rw [e] at r
    obtain ⟨p, vs, h1, h2, h3⟩ := rep_tup r
    exact ⟨true, p, vs, h1, h2, h3⟩
  · rw [e] at r
    obtain ⟨p, vs, h1, h2, h3⟩ := rep_lst r
    exact ⟨false, p, vs, h1, SqL.of h2, h3⟩
theorem i_zip {it : Expr} (h : PI X tg it (iZipB X.K (tA X.K fa c (.cons ea (.cons eb .nil))))) : PI X tg it (wI X.K fa c (.zip ea eb)) := pi_w h fun σ H R ⟨W, F, B, s, ds, s', r, h, k⟩ => by
  obtain ⟨x, s1, h1, h2⟩ := bnd_inv h
  obtain ⟨y, s2, h3, h4⟩ := bnd_inv h2
  cases hx : x.frz.items with
  | none => rw [hx] at h4; cases h4
  | some xs =>
    cases hy : y.frz.items with
    | none => rw [hx, hy] at h4; cases h4
    | some ys =>
      rw [hx, hy] at h4
      cases h4
      have he : evA c (.cons ea (.cons eb .nil)) s = .ok [x.frz, y.frz] s' := by
        show ((evE c ea s).bnd fun x s1 => ((evE c eb s1).bnd fun x s1 => (Res.ok [] s1).bnd fun xs s2 => .ok (x.frz :: xs) s2).bnd fun xs s2 => .ok (x.frz :: xs) s2) = _
        rw [h1, Res.bnd_ok, h3]; rfl
      refine tA_use r he fun F1 B1 H1 vs st r1 rs => ?_
      obtain ⟨v, w, rfl, rv, rw_⟩ := reps2 rs
      obtain ⟨t, p, us, rfl, q1, q2⟩ := items_of hx rv
      obtain ⟨u, q, ws, rfl, q3, q4⟩ := items_of hy rw_
      exact ⟨t, u, p, q, us, ws, rfl, sqB_ex r1.ef q1, sqB_ex r1.ef q3, k F1 B1 H1 _ st r1 (wk_zip q1 q3 q2 q4)⟩
end
end Q
end

section
set_option maxRecDepth 100000
set_option maxHeartbeats 2000000
/-! QEnum: enumerate over a list or a tuple. -/
namespace Q
open PySem PySem.Spec PyProof.Rows L2

theorem meets_enumerate_new1 {v : Value} {o : Obj} {H : Heap → Prop} (B : Begins v o H) :
    Meets (Builtin.«enumerate.__new__» ⟨[.type "enumerate", v], []⟩) (fun _ R s => H s.heap ∧
      R (.ok (.ret (.ref (s.heap.push o).objs.size))) { s with heap := (s.heap.push o).push { cls := .type "enumerate", data := .fields #[.none, .bool false, .ref s.heap.objs.size, rawInt 0, .none, .none] } }) :=
  .of_wp fun prog w A R s h => by
    obtain ⟨hp, g, d, tk, os⟩ := s; obtain ⟨h1, h⟩ := h
    have hsub := sub_enumerate
    have q1 : ∀ {A' : Around} {E : Value → Shared → Prop} {Q : Value → Shared → Prop}, Q (.ref hp.objs.size) ⟨hp.push o, g, d, tk, os⟩ → wpAny (model prog w) A' (pyIter v) Q E ⟨hp, g, d, tk, os⟩ :=
      fun q => B.iter prog w _ _ ⟨hp, g, d, tk, os⟩ _ h1 q
    wp_walk using q1
    refine wpAny_stack_any fun st => wpAny_pure ?_
    split
    · rename_i c _ _ _ _ _
      cases (c == Value.type "enumerate")
      · wp_walk using q1
        exact ⟨_, rfl, h⟩
      · wp_walk using q1
        exact ⟨_, rfl, h⟩
    · wp_walk using q1
      exact ⟨_, rfl, h⟩
theorem enum_begins1 {prog : Program} {w : World} {A : Around} {E : Value → Shared → Prop} {s : Shared} {v : Value} {o : Obj} {H : Heap → Prop} {Q : Value → Shared → Prop} (B : Begins v o H) (h1 : H s.heap)
    (h : ∀ h', IsEnum h' (s.heap.objs.size + 1) s.heap.objs.size 0 .none → h'.get? s.heap.objs.size = some o → h'.objs.size = s.heap.objs.size + 2 →
      (∀ b o, s.heap.get? b = some o → h'.get? b = some o) → Q (.ref (s.heap.objs.size + 1)) { s with heap := h' }) :
    wpAny (model prog w) A (call (.type "enumerate") [v]) Q E s := by
  refine callType_new F.called_enumerate (by decide) (F.typeCall_enumerate_1 _) (F.newCall_enumerate_1 _) (fun obj => F.args_object_init_2 obj _) F.entry_enumerate_new
    (meets_enumerate_new1 B) ⟨h1, ?_⟩
  have hz : (s.heap.push o).objs.size = s.heap.objs.size + 1 := Heap.size_push ..
  show _ ∧ _
  rw [hz]
  have he : IsEnum ((s.heap.push o).push { cls := .type "enumerate", data := .fields #[.none, .bool false, .ref s.heap.objs.size, rawInt 0, .none, .none] }) (s.heap.objs.size + 1) s.heap.objs.size 0 .none := by
    have := Heap.get?_push_size (s.heap.push o) (o := { cls := .type "enumerate", data := .fields #[.none, .bool false, .ref s.heap.objs.size, rawInt 0, .none, .none] }) rfl
    rw [hz] at this; exact this
  refine ⟨⟨_, he, rfl⟩, h _ he (Heap.get?_push_of_some _ (Heap.get?_push_size _ B.free)) (by rw [Heap.size_push, hz]) fun b o x => Heap.get?_push_of_some _ (Heap.get?_push_of_some _ x)⟩
/-- what stands at a at each turn, each item in a new pair -/
def IteB (K : PySem.W.Frag) (t : Bool) (a : Addr) : It :=
  ⟨fun i H => ∃ (xs : List V) (x : V), SqB t K H a xs ∧ xs[i]? = some x, fun i H v H' => ∃ T x, v = .ref T ∧ H T = none ∧ H' = upd H T (.tup [.int (i : Nat), x]) ∧ ∀ xs, SqB t K H a xs → xs[i]? = some x, fun i H => ∃ xs : List V, SqB t K H a xs ∧ xs.length = i⟩
theorem turn_enumB {P : Program} {w : World} {K : PySem.W.Frag} {elts : List Expr} {kk : Nat} {tpos : Pos} {t : Bool} (a e it : Addr) (hne : e ≠ it) (hae : a ≠ e) (hai : a ≠ it) :
    Turn P w K (.Tuple elts kk tpos) (IteB K t a) [e, it] e (fun i h => (∃ old, IsEnum h e it ((i : Nat) : Int) old) ∧ ItB t h it a i) where
  mem := by simp
  obj := fun i h st b hb => by
    obtain ⟨⟨old, he⟩, hit⟩ := st
    obtain ⟨o, vs, ho, hd⟩ := itB_obj hit
    have e' : b = e ∨ b = it := by simpa using hb
    rcases e' with z | z
    · rw [z]; exact ⟨_, he, fun v q => nomatch q⟩
    · rw [z]; exact ⟨o, ho, fun v q => by rw [hd] at q; cases q⟩
  keep := fun i h h' st k => let ⟨⟨old, he⟩, hi⟩ := st; ⟨⟨old, k e (by simp) _ he⟩, itB_at hi fun o q => k it (by simp) o q⟩
  item := by
    intro X hP hw hK hc i pins s σ H E I hf st hg
    subst hP hw hK
    obtain ⟨⟨old, he⟩, hit⟩ := st
    obtain ⟨xs, x, hq, hx⟩ := hg
    obtain ⟨its, rv, p, hz⟩ := inB I hq
    obtain ⟨u, hu, ru⟩ := rv.get hx
    have hel : e < s.heap.objs.size := Heap.lt_size he
    have hil : it < s.heap.objs.size := by obtain ⟨o, _, q, _⟩ := itB_obj hit; exact Heap.lt_size q
    have hh : X.A.in1.handled = none := I.ok.hd hc
    have l1 : i < its.toArray.size := by simpa using (List.getElem?_eq_some_iff.mp hu).1
    refine wpAny_pyNext_enum_itemD (drawsB t hh it a hai its.toArray) he ⟨hit, p⟩ l1 hne (by simp; exact ⟨hne, hae.symm⟩) fun x1 h' tk hx1 ho st1 hT hsz hk => ?_
    have hx1' : x1 = u := by have := hx1; simp [hu] at this; exact this.symm
    subst hx1'
    refine ⟨_, rfl, wpAny_letOwnedTupleGo_enum (s := { s with heap := h', toks := tk + 1 }) ho fun h'' he' sb => ?_⟩
    have hT2 : h''.get? s.heap.objs.size = some { cls := .type "tuple", data := .seq #[.int i tk, x1] } := (sb.2 _ (Nat.ne_of_gt hel)).trans hT
    have new : ObjOk X.prog X.w (upd H s.heap.objs.size (.tup [.int (i : Nat), x])) h'' s.heap.objs.size (.tup [.int (i : Nat), x]) :=
      ⟨by show 2 ≤ sizeLine; decide, [.int i tk, x1], .cons ⟨_, rfl⟩ (.cons ru .nil), ⟨_, hT2, rfl, _, rfl⟩⟩
    have I1 : Inv X pins σ (upd H s.heap.objs.size (.tup [.int (i : Nat), x])) { s with heap := h'', toks := tk + 1 } :=
      I.turnedNew (t' := tk + 1) (ch := [e, it]) (fun b ob hb q => (sb.2 b (fun z => hb (by simp [z]))).trans (hk b ob (fun z => hb (by simp [z])) (fun z => hb (by simp [z])) q)) hf (Nat.le_refl _) new
    refine ⟨.ref s.heap.objs.size, _, I1, rfl, ⟨_, x, rfl, I.hok.fresh (Nat.le_refl _), rfl, fun ys hy => by rw [injB I hy hq]; exact hx⟩, ⟨⟨x1, ?_⟩, itB_at st1.1 fun o q => (sb.2 it (Ne.symm hne)).trans q⟩, fun b hb => ?_⟩
    · have e1 : ((i + 1 : Nat) : Int) = (i : Int) + 1 := by omega
      rw [e1]; exact he'
    · have hb' : b < s.heap.objs.size := by
        have e' : b = e ∨ b = it := by simpa using hb
        rcases e' with z | z
        · rw [z]; exact hel
        · rw [z]; exact hil
      rw [upd_ne (Nat.ne_of_lt hb')]
      exact (hf b hb).1
  done := by
    intro X hP hw hK hc i pins s σ H E I hf st hg
    subst hP hw hK
    obtain ⟨⟨old, he⟩, hit⟩ := st
    obtain ⟨xs, hq, hx⟩ := hg
    obtain ⟨its, rv, p, hz⟩ := inB I hq
    obtain ⟨f0, f1, f2, f3, f4, f5⟩ := hf it (by simp)
    have hl := rv.length
    have hh : X.A.in1.handled = none := I.ok.hd hc
    have hn : i = its.toArray.size := by simp; omega
    subst hn
    exact wpAny_pyNext_enum_endD (drawsB t hh it a hai its.toArray) he ⟨hit, p⟩ fun h' eb => ⟨rfl, I.turned (t' := s.toks) (fun b o hb q => eb b o hb q) f0 f1 f3 f4 f5⟩
  self := fun A i s Q E st h => let ⟨⟨_, he⟩, _⟩ := st; wpAny_pyIter_enum he h
def iEnumB (K : PySem.W.Frag) (ta : TA) : TI := fun σ H R => ta σ H fun vs H1 => ∃ t a xs, vs = [.ref a] ∧ SqB t K H1 a xs ∧ R (IteB K t a) H1
theorem pi_enumB {X : Cx} {e : Expr} {ta : TA} {p pos tpos : Pos} {elts : List Expr} {kk : Nat} (hg : Gl X "enumerate") (hm : X.mg "enumerate" = none) (ha : PA X [e] ta) (hs : starEach [e] X.env = [(false, eval e X.env)]) :
    PI X (.Tuple elts kk tpos) (.Call (.Name "enumerate" p) [e] [] pos) (iEnumB X.K ta) := by
  refine ⟨fun pins s σ H R I h => ?_⟩
  refine Call_ (ld_blt I hg hm PyProof.Rows.boot_enumerate (PyProof.Rows.callWith_type1 (thn (ha.run pos pins s σ H _ I h) fun us s1 ⟨vs, H1, I1, r1, q1⟩ => ?_) hs rfl))
  obtain ⟨t, a, xs, ex, hq, q⟩ := q1
  subst ex
  cases r1 with
  | cons r rr =>
    cases rr
    cases r
    obtain ⟨its, rv, p', hz⟩ := inB I1 hq
    refine enum_begins1 (beginsB t a its.toArray) p' fun h' he hit hsz hk => wpAny_pyIter_enum he ?_
    have I2 : Inv X pins σ H1 { s1 with heap := h' } := I1.kept (t' := s1.toks) hk
    refine ⟨s1.heap.objs.size + 1, [s1.heap.objs.size + 1, s1.heap.objs.size], _, _, H1, rfl, I2, turn_enumB a (s1.heap.objs.size + 1) s1.heap.objs.size (Nat.succ_ne_self _) (Nat.ne_of_lt (Nat.lt_succ_of_lt hz)) (Nat.ne_of_lt hz), ⟨⟨.none, he⟩, itB0 hit⟩, fun b hb => ?_, q⟩
    have e' : b = s1.heap.objs.size + 1 ∨ b = s1.heap.objs.size := by simpa using hb
    have hle : s1.heap.objs.size ≤ b := by
      rcases e' with z | z
      · rw [z]; exact Nat.le_add_right _ _
      · rw [z]; exact Nat.le_refl _
    exact I1.fpOk hle (I1.hok.fresh hle)
section
variable {K : PySem.W.Frag} {fa : Nat → Option Addr} {F : Hp} {B : List Addr} {H : Hp} {ds : List D} {vs : List V} {p : Addr} {t : Bool}
theorem walk_enumB : Walk (IteB K t p) vs.length (fun H => SqB t K H p vs) (YPair (fun i => some (.int (i : Nat))) (fun i => vs[i]?)) := by
  refine ⟨fun i _ hi q => ⟨vs, vs[i], q, by simp [hi]⟩, fun _ q => ⟨vs, q, rfl⟩, fun i H v H' _ q y => ?_⟩
  obtain ⟨T, x, h1, h2, h3, h4⟩ := y
  exact ⟨T, .int (i : Nat), x, h1, h2, h3, rfl, h4 vs q⟩
theorem wk_enumB (h : SqB t K F p vs) (r : Reps K fa F B ds vs) : Wk K fa F B H (IteB K t p) (enumD 0 ds) := by
  refine ⟨_, _, by rw [enum_len, ← r.length]; exact walk_enumB (K := K) (t := t) (p := p) (vs := vs), fun H1 e => sqB_ex e h, fun i H1 x H2 hi e y => ?_⟩
  rw [enum_len] at hi
  obtain ⟨d, hd⟩ : ∃ d, ds[i]? = some d := ⟨ds[i], by simp [hi]⟩
  obtain ⟨T, a, b, h1, h2, h3, h4, h5⟩ := y
  obtain ⟨b', g3, g4⟩ := r.get hd
  have h5' : vs[i]? = some b := h5
  rw [g3] at h5'; cases h5'
  cases h4
  refine ⟨_, enum_get hd, .inr ⟨T, _, _, h1, h2, h3, rfl, .cons ?_ (.one g4)⟩⟩
  rw [Nat.zero_add]; exact of_int _
end
section
variable {X : Cx} {fa : Nat → Option Addr} {c : Env} {tg : Expr} {ea : E}
theorem i_enum {it : Expr} (h : PI X tg it (iEnumB X.K (tA X.K fa c (.cons ea .nil)))) : PI X tg it (wI X.K fa c (.enm ea)) := pi_w h fun σ H R ⟨W, F, B, s, ds, s', r, h, k⟩ => by
  obtain ⟨x, s1, h1, h2⟩ := bnd_inv h
  cases hx : x.frz.items with
  | none => rw [hx] at h2; cases h2
  | some xs =>
    rw [hx] at h2
    cases h2
    have he : evA c (.cons ea .nil) s = .ok [x.frz] s' := by
      show ((evE c ea s).bnd fun x s1 => (Res.ok [] s1).bnd fun xs s2 => .ok (x.frz :: xs) s2) = _
      rw [h1]; rfl
    refine tA_use r he fun F1 B1 H1 vs st r1 rs => ?_
    obtain ⟨v, rfl, rv⟩ := reps1 rs
    obtain ⟨t, p, us, rfl, q1, q2⟩ := items_of hx rv
    exact ⟨t, p, us, rfl, sqB_ex r1.ef q1, k F1 B1 H1 _ st r1 (wk_enumB q1 q2)⟩
end
end Q
end

section
set_option maxRecDepth 100000
set_option maxHeartbeats 2000000
/-! QComp: targets; comprehensions. -/
namespace Q
open PySem PySem.Spec PyProof.Rows L2

def tgv : E → List Nat
  | .var i => [i]
  | .tup es => tgv es
  | .cons e es => tgv e ++ tgv es
  | _ => []
def lenC : E → Nat
  | .cons _ es => lenC es + 1
  | _ => 0
section
variable (K : PySem.W.Frag) (fa : Nat → Option Addr)
def gA (e : E) : TG := fun v σ H Q => ∃ W F B s d s', Rel K fa W F B s σ H ∧ RR K fa W F B s σ H d v ∧ asgT e d s = some s' ∧ ∀ σ', Rel K fa W F B s' σ' H → σ'.length = σ.length → (∀ i, i ∉ tgv e → σ'[i]? = σ[i]?) → Q σ' H
def gAs (e : E) : TGs := fun vs σ H Q => ∃ W F B s ds s', Rel K fa W F B s σ H ∧ Reps K fa F B ds vs ∧ asgT.asgTs e ds s = some s' ∧ ∀ σ', Rel K fa W F B s' σ' H → σ'.length = σ.length → (∀ i, i ∉ tgv e → σ'[i]? = σ[i]?) → Q σ' H
end
theorem pg_w {X : Cx} {e : Expr} {t t' : TG} (h : PG X e t) (w : ∀ v σ H Q, t' v σ H Q → t v σ H Q) : PG X e t' := ⟨fun pins s σ H v u Q I r q => h.run pins s σ H v u Q I r (w v σ H Q q)⟩
theorem pgs_w {X : Cx} {e : List Expr} {t t' : TGs} (h : PGs X e t) (w : ∀ v σ H Q, t' v σ H Q → t v σ H Q) : PGs X e t' := ⟨fun pins s σ H v u Q I r q => h.run pins s σ H v u Q I r (w v σ H Q q)⟩
theorem pg_or {X : Cx} {e : Expr} {t t' : TG} (h : PG X e t) (h' : PG X e t') : PG X e (fun v σ H Q => t v σ H Q ∨ t' v σ H Q) := ⟨fun pins s σ H v u Q I r q => q.elim (h.run pins s σ H v u Q I r) (h'.run pins s σ H v u Q I r)⟩
theorem asgTs_len : ∀ (e : E) (ds : List D) (s s' : S), asgT.asgTs e ds s = some s' → ds.length = lenC e
  | .nil, [], s, s', h => rfl
  | .cons e es, d :: ds, s, s', h => by
    unfold asgT.asgTs at h
    obtain ⟨s1, h1, h2⟩ := bind_inv h
    simp [lenC, asgTs_len es ds s1 s' h2]
  | .nil, _ :: _, s, s', h => by unfold asgT.asgTs at h; cases h
  | .cons e es, [], s, s', h => by unfold asgT.asgTs at h; cases h
  | .var _, ds, s, s', h => by cases ds <;> (unfold asgT.asgTs at h; cases h)
  | .cst _, ds, s, s', h => by cases ds <;> (unfold asgT.asgTs at h; cases h)
  | .glb _, ds, s, s', h => by cases ds <;> (unfold asgT.asgTs at h; cases h)
  | .fnc _, ds, s, s', h => by cases ds <;> (unfold asgT.asgTs at h; cases h)
  | .bin _ _ _, ds, s, s', h => by cases ds <;> (unfold asgT.asgTs at h; cases h)
  | .cmp _ _ _, ds, s, s', h => by cases ds <;> (unfold asgT.asgTs at h; cases h)
  | .chn _ _ _ _ _, ds, s, s', h => by cases ds <;> (unfold asgT.asgTs at h; cases h)
  | .and _ _, ds, s, s', h => by cases ds <;> (unfold asgT.asgTs at h; cases h)
  | .or _ _, ds, s, s', h => by cases ds <;> (unfold asgT.asgTs at h; cases h)
  | .not _, ds, s, s', h => by cases ds <;> (unfold asgT.asgTs at h; cases h)
  | .neg _, ds, s, s', h => by cases ds <;> (unfold asgT.asgTs at h; cases h)
  | .ite _ _ _, ds, s, s', h => by cases ds <;> (unfold asgT.asgTs at h; cases h)
  | .tup _, ds, s, s', h => by cases ds <;> (unfold asgT.asgTs at h; cases h)
  | .lst _, ds, s, s', h => by cases ds <;> (unfold asgT.asgTs at h; cases h)
  | .bxl _, ds, s, s', h => by cases ds <;> (unfold asgT.asgTs at h; cases h)
  | .dic _, ds, s, s', h => by cases ds <;> (unfold asgT.asgTs at h; cases h)
  | .idx _ _, ds, s, s', h => by cases ds <;> (unfold asgT.asgTs at h; cases h)
  | .ixv _ _, ds, s, s', h => by cases ds <;> (unfold asgT.asgTs at h; cases h)
  | .slc _ _ _, ds, s, s', h => by cases ds <;> (unfold asgT.asgTs at h; cases h)
  | .slv _ _ _, ds, s, s', h => by cases ds <;> (unfold asgT.asgTs at h; cases h)
  | .call _ _, ds, s, s', h => by cases ds <;> (unfold asgT.asgTs at h; cases h)
  | .blt _ _, ds, s, s', h => by cases ds <;> (unfold asgT.asgTs at h; cases h)
  | .rgl _ _, ds, s, s', h => by cases ds <;> (unfold asgT.asgTs at h; cases h)
  | .lenv _, ds, s, s', h => by cases ds <;> (unfold asgT.asgTs at h; cases h)
  | .isi _ _, ds, s, s', h => by cases ds <;> (unfold asgT.asgTs at h; cases h)
  | .mut _ _ _, ds, s, s', h => by cases ds <;> (unfold asgT.asgTs at h; cases h)
  | .lc _ _ _ _ _, ds, s, s', h => by cases ds <;> (unfold asgT.asgTs at h; cases h)
  | .rng1 _, ds, s, s', h => by cases ds <;> (unfold asgT.asgTs at h; cases h)
  | .rng2 _ _, ds, s, s', h => by cases ds <;> (unfold asgT.asgTs at h; cases h)
  | .zip _ _, ds, s, s', h => by cases ds <;> (unfold asgT.asgTs at h; cases h)
  | .enm _, ds, s, s', h => by cases ds <;> (unfold asgT.asgTs at h; cases h)
  | .its _, ds, s, s', h => by cases ds <;> (unfold asgT.asgTs at h; cases h)
  | .prt _, ds, s, s', h => by cases ds <;> (unfold asgT.asgTs at h; cases h)
  | .tru _, ds, s, s', h => by cases ds <;> (unfold asgT.asgTs at h; cases h)
  | .trv _, ds, s, s', h => by cases ds <;> (unfold asgT.asgTs at h; cases h)
section
variable {X : Cx} {fa : Nat → Option Addr} {a : Expr} {es : List Expr} {ea eb : E} {pos : Pos}
theorem g_var {i : Nat} (h : PG X a (gName i)) : PG X a (gA X.K fa (.var i)) := pg_w h fun v σ H Q ⟨W, F, B, s, d, s', r, rr, h, k⟩ => by
  unfold asgT at h
  split at h <;> cases h
  rename_i hi
  refine k _ (r.put hi rr) (by simp) fun j hj => ?_
  have : j ≠ i := fun e => hj (by simp [tgv, e])
  exact List.getElem?_set_ne (Ne.symm this)
theorem gs_nil : PGs X [] (gAs X.K fa .nil) := pgs_w pgs_nil fun vs σ H Q ⟨W, F, B, s, ds, s', r, rr, h, k⟩ => by
  cases ds with
  | cons d ds => unfold asgT.asgTs at h; cases h
  | nil =>
    unfold asgT.asgTs at h; cases h
    cases vs with
    | cons v vs => have := rr.length; simp at this
    | nil => exact ⟨rfl, k σ r rfl fun _ _ => rfl⟩
theorem reps_cons {K : PySem.W.Frag} {F : Hp} {B : List Addr} {d : D} {ds : List D} {vs : List V} (h : Reps K fa F B (d :: ds) vs) : ∃ v r, vs = v :: r ∧ Rep K fa F B d v ∧ Reps K fa F B ds r := by
  cases vs with
  | nil => have := h.length; simp at this
  | cons v r =>
    unfold Reps at h
    obtain ⟨w, ws, e, h1, h2⟩ := h
    cases e
    exact ⟨v, r, rfl, h1, h2⟩
theorem gs_cons (h1 : PG X a (gA X.K fa ea)) (h2 : PGs X es (gAs X.K fa eb)) (hs : (assignEach (a :: es) X.env).map (·.2) = assign a X.env :: (assignEach es X.env).map (·.2)) : PGs X (a :: es) (gAs X.K fa (.cons ea eb)) :=
  pgs_w (pgs_cons h1 h2 hs) fun vs σ H Q ⟨W, F, B, s, ds, s', r, rr, h, k⟩ => by
    cases ds with
    | nil => unfold asgT.asgTs at h; cases h
    | cons d ds =>
      unfold asgT.asgTs at h
      obtain ⟨s1, h3, h4⟩ := bind_inv h
      obtain ⟨v, vr, rfl, rv, rvs⟩ := reps_cons rr
      exact ⟨v, vr, rfl, W, F, B, s, d, s1, r, RR.of rv, h3, fun σ1 r1 l1 k1 => ⟨W, F, B, s1, ds, s', r1, rvs, h4, fun σ2 r2 l2 k2 => k σ2 r2 (l2.trans l1) fun i hi => by
        simp only [tgv, List.mem_append, not_or] at hi
        rw [k2 i hi.2, k1 i hi.1]⟩⟩
theorem g_tup {k n : Nat} (hc : X.calm = true) (h : PGs X es (gAs X.K fa eb)) (hn : (assignEach es X.env).length = n) (hst : (assignEach es X.env).findIdx? (·.1) = none) (hl : lenC eb = n) : PG X (.Tuple es k pos) (gA X.K fa (.tup eb)) :=
  pg_w (pg_or (pg_tup hc h hn hst) (pg_unl hc h hn hst)) fun v σ H Q ⟨W, F, B, s, d, s', r, rr, h, k⟩ => by
    cases d with
    | tup ds =>
      unfold asgT at h
      obtain ⟨p, vs, rfl, h1, h2⟩ := rep_tup (rr.rep rfl)
      exact .inl ⟨p, vs, rfl, ex_t r.ef h1, by rw [h2.length, asgTs_len _ _ _ _ h, hl], W, F, B, s, ds, s', r, h2, h, fun σ' r' l' k' => k σ' r' l' k'⟩
    | lst ds =>
      unfold asgT at h
      obtain ⟨p, vs, rfl, h1, h2⟩ := rep_lst (rr.rep rfl)
      exact .inr ⟨p, vs, rfl, SqL.of (r.ef _ _ h1), by rw [h2.length, asgTs_len _ _ _ _ h, hl], W, F, B, s, ds, s', r, h2, h, fun σ' r' l' k' => k σ' r' l' k'⟩
    | _ => unfold asgT at h; cases h
end

/-! ### wiping -/
theorem wipeL_len (l : List (Option D)) : ∀ vs, (wipeL l vs).length = l.length
  | [] => rfl
  | v :: vs => by unfold wipeL; rw [List.length_set, wipeL_len l vs]
theorem wipeL_out {l : List (Option D)} {i : Nat} : ∀ {vs : List Nat}, i ∉ vs → (wipeL l vs)[i]? = l[i]?
  | [], _ => rfl
  | v :: vs, h => by
    simp only [List.mem_cons, not_or] at h
    unfold wipeL
    rw [List.getElem?_set_ne (Ne.symm h.1), wipeL_out h.2]
theorem wipeL_in {l : List (Option D)} {i : Nat} : ∀ {vs : List Nat}, i ∈ vs → i < l.length → (wipeL l vs)[i]? = some none
  | v :: vs, h, hl => by
    unfold wipeL
    by_cases e : v = i
    · subst e
      rw [List.getElem?_set_self (by rw [wipeL_len]; exact hl)]
    · rw [List.getElem?_set_ne e]
      refine wipeL_in ?_ hl
      rcases List.mem_cons.mp h with h | h
      · exact absurd h.symm e
      · exact h
theorem wipe_in {σ : L2.St} {i : Nat} : ∀ {vs : List Nat}, i ∈ vs → i < σ.length → (wipe σ vs)[i]? = some none
  | v :: vs, h, hl => by
    unfold wipe
    by_cases e : v = i
    · subst e
      rw [List.getElem?_set_self (by rw [wipe_length]; exact hl)]
    · rw [List.getElem?_set_ne e]
      refine wipe_in ?_ hl
      rcases List.mem_cons.mp h with h | h
      · exact absurd h.symm e
      · exact h
theorem wipe_eq {σ σ2 : L2.St} {vs : List Nat} (hl : σ2.length = σ.length) (h : ∀ i, i ∉ vs → σ2[i]? = (wipe σ vs)[i]?) : wipe σ2 vs = wipe σ vs := by
  refine List.ext_getElem? fun i => ?_
  by_cases hi : i ∈ vs
  · by_cases hlt : i < σ.length
    · rw [wipe_in hi hlt, wipe_in hi (by omega)]
    · rw [List.getElem?_eq_none (by rw [wipe_length]; omega), List.getElem?_eq_none (by rw [wipe_length]; omega)]
  · rw [wipe_out hi, h i hi]
theorem backL_len (l o : List (Option D)) : ∀ vs, (backL l o vs).length = l.length
  | [] => rfl
  | v :: vs => by unfold backL; rw [List.length_set, backL_len l o vs]
theorem backL_out {l o : List (Option D)} {i : Nat} : ∀ {vs : List Nat}, i ∉ vs → (backL l o vs)[i]? = l[i]?
  | [], _ => rfl
  | v :: vs, h => by
    simp only [List.mem_cons, not_or] at h
    unfold backL
    rw [List.getElem?_set_ne (Ne.symm h.1), backL_out h.2]
theorem backL_in {l o : List (Option D)} {i : Nat} : ∀ {vs : List Nat}, i ∈ vs → i < l.length → (backL l o vs)[i]? = some ((o[i]?).getD none)
  | v :: vs, h, hl => by
    unfold backL
    by_cases e : v = i
    · subst e
      rw [List.getElem?_set_self (by rw [backL_len]; exact hl)]
    · rw [List.getElem?_set_ne e]
      refine backL_in ?_ hl
      rcases List.mem_cons.mp h with h | h
      · exact absurd h.symm e
      · exact h
abbrev S.wip (s : S) (vs : List Nat) : S := { s with loc := wipeL s.loc vs }
theorem wip_get {s : S} {vs : List Nat} {i : Nat} {d : D} (h : (s.wip vs).get i = some d) : i ∉ vs ∧ s.get i = some d := by
  by_cases hi : i ∈ vs
  · unfold S.get at h
    by_cases hl : i < s.loc.length
    · rw [show (s.wip vs).loc[i]? = some none from wipeL_in hi hl] at h
      cases h
    · rw [List.getElem?_eq_none (by show (wipeL s.loc vs).length ≤ i; rw [wipeL_len]; omega)] at h
      cases h
  · refine ⟨hi, ?_⟩
    unfold S.get at h ⊢
    rw [show (s.wip vs).loc[i]? = s.loc[i]? from wipeL_out hi] at h
    exact h
section
variable {K : PySem.W.Frag} {fa : Nat → Option Addr} {W F F' F1 : Hp} {B B' B1 : List Addr} {s s' : S} {σ : L2.St} {H H' H1 : Hp} {d : D} {v : V} {x : V} {vs : List Nat}
theorem Rel.wip (r : Rel K fa W F B s σ H) (vs : List Nat) : Rel K fa W F B (s.wip vs) (wipe σ vs) H := by
  refine ⟨r.ew, r.ef, by rw [wipe_length, r.len]; exact (wipeL_len _ _).symm, fun i d h => ?_, fun i j d e v ne hi hj oi oj h1 h2 => ?_, r.bl, r.bx, r.bd⟩
  · obtain ⟨hi, h⟩ := wip_get h
    rw [wipe_out hi]
    exact r.slot i d h
  · obtain ⟨hi', hi⟩ := wip_get hi
    obtain ⟨hj', hj⟩ := wip_get hj
    rw [wipe_out hi'] at h1
    rw [wipe_out hj'] at h2
    exact r.apart i j d e v ne hi hj oi oj h1 h2
theorem frz_get {i j : Nat} : (s.frz i).get j = if j = i then (s.get j).map D.frz else s.get j := by
  unfold S.frz
  cases h : s.get i with
  | none =>
    by_cases e : j = i
    · subst e; rw [if_pos rfl, h]; rfl
    · rw [if_neg e]
  | some d =>
    have hl := get_lt h
    by_cases e : j = i
    · subst e
      rw [if_pos rfl, h]
      cases d <;> first | (exact get_put_same hl) | exact h
    · rw [if_neg e]
      cases d <;> first | (exact get_put_ne e) | rfl
theorem frzs_own {i : Nat} {d : D} : ∀ {vs : List Nat} {s : S}, (s.frzs vs).get i = some d → (i ∈ vs ∨ (∀ e, s.get i = some e → e.isOwn = false)) → d.isOwn = false
  | [], s, h, q => by
    rcases q with q | q
    · cases q
    · exact q d h
  | v :: vs, s, h, q => by
    refine frzs_own (s := s.frz v) (vs := vs) h ?_
    by_cases e : i = v
    · right
      intro e' he
      rw [frz_get, if_pos e] at he
      obtain ⟨d', _, h2⟩ := map_inv he
      rw [← h2]; exact frz_own _
    · rcases q with q | q
      · exact .inl ((List.mem_cons.mp q).resolve_left e)
      · right
        intro e' he
        rw [frz_get, if_neg e] at he
        exact q e' he
theorem Rel.frzs : ∀ (vs : List Nat) {F : Hp} {s : S}, Rel K fa W F B s σ H → ∃ F', Stp W F B F' B ∧ Rel K fa W F' B (s.frzs vs) σ H
  | [], F, s, r => ⟨F, Stp.refl, r⟩
  | i :: vs, F, s, r => by
    cases h : s.get i with
    | none =>
      have e : s.frz i = s := by unfold S.frz; rw [h]
      obtain ⟨F', st, r'⟩ := Rel.frzs vs r
      refine ⟨F', st, ?_⟩
      show Rel K fa W F' B ((s.frz i).frzs vs) σ H
      rw [e]; exact r'
    | some d =>
      obtain ⟨F1, v, st, r1, _, _⟩ := r.frzS h
      obtain ⟨F', st', r'⟩ := Rel.frzs vs r1
      exact ⟨F', st.trans st', r'⟩
theorem Stp.wk {W' : Hp} (st : Stp W' F B F' B') (h : ∀ p, W' p = none → W p = none) : Stp W F B F' B' := ⟨st.ex, fun p o e => (st.gr p o e).imp id (h p), st.bs⟩
/-- an object apart from the slots and the boxes: hidden, or changed -/
theorem Rel.hide {W1 : Hp} {D0 : Addr} {o : HO} (r : Rel K fa W1 F B s σ H) (hw : W1 D0 = none → H D0 = none) (hx : ∀ p u, W p = some u → p ≠ D0 → W1 p = some u) (hn : ∀ p, W1 p = none → W p = none) (fd : F D0 = none) : Rel K fa (upd W D0 o) F B s σ (upd H D0 o) := by
  have ne : ∀ p u, W1 p = none → H p = some u → p ≠ D0 := fun p u h1 h2 e => by
    subst e
    rw [hw h1] at h2; cases h2
  refine ⟨fun p u e => ?_, fun p u e => ?_, r.len, fun i d h => ?_, r.apart, r.bl, fun k xs h => ?_, r.bd⟩
  · by_cases c : p = D0
    · subst c; rw [upd_same] at e ⊢; exact e
    · rw [upd_ne c] at e ⊢; exact r.ew _ _ (hx p u e c)
  · have c : p ≠ D0 := fun c => by subst c; rw [fd] at e; cases e
    rw [upd_ne c]; exact r.ef _ _ e
  · obtain ⟨v, h1, h2⟩ := r.slot i d h
    refine ⟨v, h1, ?_⟩
    cases d with
    | own xs =>
      obtain ⟨p, vs, h1, h2, h3, h4, h5, h6⟩ := h2
      have c := ne p _ h4 h2
      exact ⟨p, vs, h1, by rw [upd_ne c]; exact h2, h3, by rw [upd_ne c]; exact hn p h4, h5, h6⟩
    | odc xs =>
      obtain ⟨p, vs, h1, h2, h3, h4, h5, h6⟩ := h2
      have c := ne p _ h4 h2
      exact ⟨p, vs, h1, by rw [upd_ne c]; exact h2, h3, by rw [upd_ne c]; exact hn p h4, h5, h6⟩
    | _ => exact h2
  · obtain ⟨p, vs, h1, h2, h3, h4, h5⟩ := r.bx k xs h
    have c := ne p _ h4 h2
    exact ⟨p, vs, h1, by rw [upd_ne c]; exact h2, h3, by rw [upd_ne c]; exact hn p h4, h5⟩
/-- an item comes -/
theorem Rel.yk (r : Rel K fa W F B s σ H) (ex : Ex F1 F) (bs : ∃ r, B = B1 ++ r) (y : Yk K fa F1 B1 H d x H') : ∃ F', Stp W F B F' B ∧ Rel K fa W F' B s σ H' ∧ Rep K fa F' B d x := by
  rcases y with ⟨rfl, q⟩ | ⟨T, ws, es, rfl, hn, rfl, rfl, q⟩
  · exact ⟨F, Stp.refl, r, Rep.mono ex bs _ _ q⟩
  · obtain ⟨h1, h2, h3⟩ := r.newT hn (Reps.mono ex bs _ _ q)
    exact ⟨_, h2, h1, h3⟩
/-- behind a comprehension: its names as they were -/
theorem Rel.back {sf s2 : S} (r : Rel K fa W F B (s2.wip vs) (wipe σ vs) H) (rf : Rel K fa W F1 B1 sf σ H1) (ho : ∀ i d, i ∈ vs → sf.get i = some d → d.isOwn = false) (ex : Ex F1 F) (bs : ∃ r, B = B1 ++ r) :
    Rel K fa W F B { s2 with loc := backL s2.loc sf.loc vs } σ H := by
  have hl : s2.loc.length = σ.length := by
    have := r.len
    rw [wipe_length] at this
    rw [this]; exact (wipeL_len _ _).symm
  have key : ∀ i d, (S.mk (backL s2.loc sf.loc vs) s2.box).get i = some d → (i ∈ vs ∧ sf.get i = some d) ∨ (i ∉ vs ∧ (s2.wip vs).get i = some d) := fun i d h => by
    have hi := get_lt h
    replace hi : i < s2.loc.length := by rw [← backL_len s2.loc sf.loc vs]; exact hi
    unfold S.get at h
    by_cases hv : i ∈ vs
    · left
      refine ⟨hv, ?_⟩
      rw [show (S.mk (backL s2.loc sf.loc vs) s2.box).loc[i]? = _ from backL_in hv hi] at h
      unfold S.get
      cases q : sf.loc[i]? with
      | none => rw [q] at h; cases h
      | some o => rw [q] at h; exact h
    · right
      refine ⟨hv, ?_⟩
      rw [show (S.mk (backL s2.loc sf.loc vs) s2.box).loc[i]? = _ from backL_out hv] at h
      unfold S.get
      rw [show (s2.wip vs).loc[i]? = _ from wipeL_out hv]
      exact h
  refine ⟨r.ew, r.ef, by show σ.length = (backL s2.loc sf.loc vs).length; rw [backL_len]; exact hl.symm, fun i d h => ?_, fun i j d e v ne hi hj oi oj h1 h2 => ?_, r.bl, r.bx, r.bd⟩
  · rcases key i d h with ⟨hv, h⟩ | ⟨hv, h⟩
    · obtain ⟨v, h1, h2⟩ := rf.slot i d h
      exact ⟨v, h1, SlV.of (Rep.mono ex bs _ _ (h2.rep (ho i d hv h)))⟩
    · obtain ⟨v, h1, h2⟩ := r.slot i d h
      rw [wipe_out hv] at h1
      exact ⟨v, h1, h2⟩
  · rcases key i d hi with ⟨hv, hi⟩ | ⟨hv, hi⟩
    · rw [ho i d hv hi] at oi; cases oi
    · rcases key j e hj with ⟨hw, hj⟩ | ⟨hw, hj⟩
      · rw [ho j e hw hj] at oj; cases oj
      · exact r.apart i j d e v ne hi hj oi oj (by rw [wipe_out hv]; exact h1) (by rw [wipe_out hw]; exact h2)
end
theorem nox_inv {α : Type} {r : Res α} {a : α} {s : S} (h : r.nox = .ok a s) : r = .ok a s := by
  cases r with
  | ok b s1 => exact h
  | exc d s1 => cases h
  | bad => cases h
theorem drop_cons {ds : List D} {i : Nat} {d : D} (h : ds[i]? = some d) : ds.drop i = d :: ds.drop (i + 1) := by
  obtain ⟨h1, h2⟩ := List.getElem?_eq_some_iff.mp h
  rw [← h2]; exact List.drop_eq_getElem_cons h1
section
variable {K : PySem.W.Frag} {fa : Nat → Option Addr} {c : Env} {elt tg it cond : E} {own : List Nat}
theorem lc_wk {σ : L2.St} {H : Hp} {Q : VK} (hv : ∀ i, i ∈ tgv tg → i ∈ own) (h : tE K fa c (.lc elt tg it cond own) σ H Q) : tLc (wI K fa c it) (gA K fa tg) (tT K fa c cond) (tE K fa c elt) own σ H Q := by
  obtain ⟨W, F, B, s, d, s', r, h, k⟩ := h
  obtain ⟨ds, s1, h1, h2⟩ := bnd_inv h
  split at h2
  case isFalse => cases h2
  rename_i hline
  obtain ⟨ys, s2, h3, h4⟩ := bnd_inv h2
  cases h4
  refine ⟨W, F, B, s, ds, s1, r, h1, fun F1 B1 H1 J st1 r1 wk D0 hD => ?_⟩
  obtain ⟨F2, st2, r2⟩ := Rel.frzs own r1
  obtain ⟨G, Y, w, hG, hY⟩ := wk
  have hWD : W D0 = none := by
    cases q : W D0 with
    | none => rfl
    | some o => rw [r1.ew _ _ q] at hD; cases hD
  let f : D → S → Res (Option D) := fun d s2 => (Res.opt (asgT tg d { s2 with loc := wipeL s2.loc own }) s2).bnd fun s3 _ => (evT c cond s3).nox.bnd fun k s4 =>
        if k then (evE c elt s4).nox.bnd fun y s5 => .ok (some y.frz) s5 else .ok none s4
  have wn : ∀ (o : HO) p, upd W D0 o p = none → W p = none := fun o p e => by
    by_cases c : p = D0
    · subst c; rw [upd_same] at e; cases e
    · rw [upd_ne c] at e; exact e
  let Pv : Nat → Hp → Prop := fun i H => ∃ F B st acc vs, Rel K fa (upd W D0 (.lst vs)) F B (S.wip st own) (wipe σ own) H ∧ Stp W F2 B1 F B ∧ F D0 = none ∧ Reps K fa F B acc vs ∧ acc.length ≤ i ∧ ∃ ys', lcL f (ds.drop i) st = .ok ys' s2 ∧ ys = acc ++ ys'
  refine lc_it w Pv ⟨F2, B1, s1.frzs own, [], [], ?_, Stp.refl, r2.ef.free hD, .nil, Nat.le_refl _, ys, h3, rfl⟩ ?_ ?_ ?_
  · exact (r2.wip own).hide (fun _ => hD) (fun p u e _ => e) (fun p e => e) (r2.ef.free hD)
  · rintro i H2 hi ⟨F3, B3, st, acc, vs, r3, st3, _⟩
    exact hG H2 ((st2.ex.trans st3.ex).trans r3.ef)
  · rintro i x H2 H2' hi ⟨F3, B3, st, acc, vs, r3, st3, fd3, ra, la, ys', e1, e2⟩ y
    obtain ⟨d, hd, yk⟩ := hY i H2 x H2' hi ((st2.ex.trans st3.ex).trans r3.ef) y
    rw [drop_cons hd] at e1
    obtain ⟨o, s4, e3, e4⟩ := bnd_inv e1
    obtain ⟨rest, s5, e5, e6⟩ := bnd_inv e4
    obtain ⟨s6, _, e7, e8⟩ := bnd_inv e3
    obtain ⟨e7, rfl⟩ := opt_inv e7
    obtain ⟨b, s7, e9, e10⟩ := bnd_inv e8
    have e9 := nox_inv e9
    obtain ⟨F4, st4, r4, rp4⟩ := r3.yk (st2.ex.trans st3.ex) (st3.bs) yk
    have fd4 : F4 D0 = none := by
      cases q : F4 D0 with
      | none => rfl
      | some u =>
        rcases st4.gr _ _ q with z | z
        · rw [fd3] at z; cases z
        · rw [upd_same] at z; cases z
    refine ⟨_, F4, B3, _, d, s6, r4, RR.of rp4, e7, fun σ2 r5 l5 k5 => ?_⟩
    have we : wipe σ2 own = wipe σ own := wipe_eq (by rw [l5, wipe_length]) fun j hj => k5 j fun q => hj (hv j q)
    refine ⟨we, tT_use r5 e9 fun F6 B6 H6 st6 r6 => ?_⟩
    have fdOf : ∀ {F B F' B' vs}, F D0 = none → Stp (upd W D0 (.lst vs)) F B F' B' → F' D0 = none := fun {F B F' B' vs} z st => by
      rename_i Fa Ba Fb Bb _
      cases q : F' D0 with
      | none => rfl
      | some u =>
        rcases st.gr _ _ q with y | y
        · rw [z] at y; cases y
        · rw [upd_same] at y; cases y
    have st36 : Stp (upd W D0 (.lst vs)) F3 B3 F6 B6 := st4.trans st6
    have fd6 := fdOf fd3 st36
    cases b with
    | false =>
      cases e10
      rw [if_neg (by decide)]
      cases e6
      refine ⟨F6, B6, s4, acc, vs, ?_, st3.trans (st36.wk (wn _)), fd6, ra.stp st36, by omega, rest, e5, e2⟩
      rw [← we]
      exact r6.wip own
    | true =>
      rw [if_pos rfl]
      obtain ⟨y, s8, e11, e12⟩ := bnd_inv e10
      cases e12
      have e11 := nox_inv e11
      cases e6
      refine tE_use r6 e11 fun F7 B7 H7 z st7 r7 rz => ?_
      have st37 := st36.trans st7
      have fd7 := fdOf fd3 st37
      have hz : H7 D0 = some (.lst vs) := r7.ew _ _ upd_same
      have ll : acc.length < sizeLine := by show acc.length < 16777216; have : ds.length ≤ 16777216 := hline; omega
      refine ⟨vs, hz, by rw [ra.length]; exact ll, F7, B7, s4, acc ++ [y.frz], vs ++ [z], ?_, st3.trans (st37.wk (wn _)), fd7, Reps.append (ra.stp st37) (.one rz), by simp; omega, rest, e5, by rw [e2]; simp⟩
      rw [← we]
      exact (r7.wip own).hide (fun e => by rw [upd_same] at e; cases e) (fun p u e c => by rw [upd_ne c]; exact e) (wn _) fd7
  · rintro H2 ⟨F3, B3, st, acc, vs, r3, st3, fd3, ra, la, ys', e1, e2⟩
    rw [List.drop_length] at e1
    cases e1
    rw [List.append_nil] at e2
    subst e2
    have hz : H2 D0 = some (.lst vs) := r3.ew _ _ upd_same
    have nW : ∀ p, upd W D0 (.lst vs) p = none → p ≠ D0 := fun p e c => by subst c; rw [upd_same] at e; cases e
    have r4 : Rel K fa W F3 B3 (S.wip s2 own) (wipe σ own) H2 := by
      have := r3.hide (W := W) (D0 := D0) (o := .lst vs) (fun e => by rw [upd_same] at e; cases e) (fun p u e c => by rw [upd_ne c]; exact e) (wn _) fd3
      have hu : upd H2 D0 (.lst vs) = H2 := by
        funext p
        by_cases c : p = D0
        · subst c; rw [upd_same, hz]
        · rw [upd_ne c]
      rw [hu] at this
      exact ⟨fun p u e => this.ew p u (by
        by_cases c : p = D0
        · subst c; rw [hWD] at e; cases e
        · rw [upd_ne c]; exact e), this.ef, this.len, fun i d h => let ⟨v, h1, h2⟩ := this.slot i d h; ⟨v, h1, by
          cases d with
          | own xs => obtain ⟨p, vs, h1, h2, h3, h4, h5, h6⟩ := h2; exact ⟨p, vs, h1, h2, h3, wn _ p h4, h5, h6⟩
          | odc xs => obtain ⟨p, vs, h1, h2, h3, h4, h5, h6⟩ := h2; exact ⟨p, vs, h1, h2, h3, wn _ p h4, h5, h6⟩
          | _ => exact h2⟩, this.apart, this.bl, fun k xs h => let ⟨p, vs, h1, h2, h3, h4, h5⟩ := this.bx k xs h; ⟨p, vs, h1, h2, h3, wn _ p h4, h5⟩, this.bd⟩
    have hB : D0 ∉ B3 := fun h => by
      obtain ⟨j, hj⟩ := List.getElem?_of_mem h
      have hj' : j < s2.box.length := by
        have := r3.bl
        rw [show (S.wip s2 own).box = s2.box from rfl] at this
        rw [← this]; exact (List.getElem?_eq_some_iff.mp hj).1
      obtain ⟨p, us, h1, h2, h3, h4, h5⟩ := r3.bx j s2.box[j] (by show s2.box[j]? = _; simp [hj'])
      rw [hj] at h1; cases h1
      exact nW _ h4 rfl
    have r5 : Rel K fa W F3 B3 { s2 with loc := backL s2.loc (s1.frzs own).loc own } σ H2 := r4.back r2 (fun i d hi h => frzs_own h (.inl hi)) st3.ex st3.bs
    refine k F3 B3 H2 _ ((st1.trans st2).trans st3) r5 ⟨⟨D0, vs, rfl, hz, ra, hWD, fd3, hB⟩, fun _ i e h1 h2 h3 => ?_⟩
    obtain ⟨v, h4, h5⟩ := r5.slot i e h1
    rw [h3] at h4; cases h4
    by_cases hi : i ∈ own
    · have hl := get_lt h1
      have hl' : i < s2.loc.length := by
        have : i < (backL s2.loc (s1.frzs own).loc own).length := hl
        rw [backL_len] at this; exact this
      have : (s1.frzs own).get i = some e := by
        unfold S.get at h1 ⊢
        rw [show (S.mk (backL s2.loc (s1.frzs own).loc own) s2.box).loc[i]? = _ from backL_in hi hl'] at h1
        cases q : (s1.frzs own).loc[i]? with
        | none => rw [q] at h1; cases h1
        | some o => rw [q] at h1; exact h1
      rw [frzs_own this (.inl hi)] at h2; cases h2
    · have : (S.wip s2 own).get i = some e := by
        unfold S.get at h1 ⊢
        rw [show (S.mk (backL s2.loc (s1.frzs own).loc own) s2.box).loc[i]? = _ from backL_out hi] at h1
        rw [show (S.wip s2 own).loc[i]? = _ from wipeL_out hi]
        exact h1
      obtain ⟨v, h6, h7⟩ := r3.slot i e this
      rw [wipe_out hi, h3] at h6; cases h6
      obtain ⟨p, u, g1, g2, g3, _⟩ := h7.own h2
      cases g1
      exact nW _ g3 rfl
end
section
variable {X : Cx} {fa : Nat → Option Addr} {c : Env} {elt tg iter : Expr} {ifs : List Expr} {scope : Scope} {own : List (Str × Nat)} {pos : Pos} {eelt etg eit econd : E}
theorem e_lc (hc : X.calm = true) (hN : X.N.Nodup) (hi : PI X tg iter (wI X.K fa c eit)) (ok : BlkOk X.N X.env.scope scope own) (hv : ∀ i, i ∈ tgv etg → i ∈ own.map (·.2))
    (hg : ∀ (s : Shared) (H : Hp) (C : Addr) (cl : List (Str × Addr)) (fp : List Addr), PG (X.blk s H scope (compEnvC scope cl C X.env) fp) tg (gA X.K fa etg)) (ht : ∀ (s : Shared) (H : Hp) (C : Addr) (cl : List (Str × Addr)) (fp : List Addr), PTs (X.blk s H scope (compEnvC scope cl C X.env) fp) ifs (tT X.K fa c econd))
    (he : ∀ (s : Shared) (H : Hp) (C : Addr) (cl : List (Str × Addr)) (fp : List Addr), PE (X.blk s H scope (compEnvC scope cl C X.env) fp) elt (tE X.K fa c eelt)) (hs : ∀ x, foldedSetIterable iter X.env x = pure x) :
    PE X (.ListComp elt [⟨tg, iter, ifs, 0⟩] scope pos) (tE X.K fa c (.lc eelt etg eit econd (own.map (·.2)))) :=
  pe_w (pe_lc hc hN hi ok hg ht he hs) fun σ H Q h => lc_wk hv h
end
end Q
end

section
set_option maxRecDepth 100000
set_option maxHeartbeats 2000000
/-! QStm: statements. -/
namespace Q
open PySem PySem.Spec PyProof.Rows L2

section
variable (K : PySem.W.Frag) (fa : Nat → Option Addr) (c : Env) (L : Nat)
def EndF (W F' : Hp) (B' : List Addr) (D : Ends) (s' : S) (σ' : L2.St) (H' : Hp) : Flow → Prop
  | .nx => D.nx σ' H'
  | .rt d => ∀ v, RR K fa W F' B' s' σ' H' d v → D.rt v H'
  | .bk => D.bk σ' H'
  | .ct => D.ct σ' H'
def tS (e : St) : TS := fun D σ H => ∃ W F B s fl s', Rel K fa W F B s σ H ∧ evS c L e s = .ok fl s' ∧ ∀ F' B' σ' H', Stp W F B F' B' → Rel K fa W F' B' s' σ' H' → EndF K fa W F' B' D s' σ' H' fl
end
section
variable {K : PySem.W.Frag} {fa : Nat → Option Addr} {c : Env} {L : Nat} {W F F' : Hp} {B B' : List Addr} {s s1 : S} {σ : L2.St} {H H' : Hp} {Dn : Ends} {fl : Flow} {st : St} {d : D} {v : V}
theorem tS_use {s' : S} (r : Rel K fa W F B s σ H) (h : evS c L st s = .ok fl s') (k : ∀ F' B' σ' H', Stp W F B F' B' → Rel K fa W F' B' s' σ' H' → EndF K fa W F' B' Dn s' σ' H' fl) : tS K fa c L st Dn σ H := ⟨W, F, B, s, fl, s', r, h, k⟩
/-- a fresh result is kept apart -/
theorem Rel.hold (r : Rel K fa W F B s σ H) (rr : RR K fa W F B s σ H d v) (ho : d.isOwn = true) : ∃ p u, v = .ref p ∧ H p = some u ∧ W p = none ∧ F p = none ∧ p ∉ B ∧ Rel K fa (upd W p u) F B s σ H := by
  obtain ⟨p, u, rfl, h2, h3, h4, h5⟩ := rr.1.own ho
  refine ⟨p, u, rfl, h2, h3, h4, h5, fun q o e => ?_, r.ef, r.len, fun i e h => ?_, r.apart, r.bl, fun k xs h => ?_, r.bd⟩
  · by_cases c : q = p
    · subst c; rw [upd_same] at e; rw [h2]; exact e
    · rw [upd_ne c] at e; exact r.ew _ _ e
  · obtain ⟨w, g1, g2⟩ := r.slot i e h
    refine ⟨w, g1, ?_⟩
    have ne : ∀ q, w = .ref q → e.isOwn = true → q ≠ p := fun q e1 e2 e3 => rr.2 ho i e h e2 (by rw [g1, e1, e3])
    cases e with
    | own xs =>
      obtain ⟨q, vs, a1, a2, a3, a4, a5, a6⟩ := g2
      exact ⟨q, vs, a1, a2, a3, by rw [upd_ne (ne q a1 rfl)]; exact a4, a5, a6⟩
    | odc xs =>
      obtain ⟨q, vs, a1, a2, a3, a4, a5, a6⟩ := g2
      exact ⟨q, vs, a1, a2, a3, by rw [upd_ne (ne q a1 rfl)]; exact a4, a5, a6⟩
    | _ => exact g2
  · obtain ⟨q, vs, a1, a2, a3, a4, a5⟩ := r.bx k xs h
    have : q ≠ p := fun e => h5 (e ▸ List.mem_of_getElem? a1)
    exact ⟨q, vs, a1, a2, a3, by rw [upd_ne this]; exact a4, a5⟩
theorem Rel.unhold {s' : S} {σ' : L2.St} {p : Addr} {u : HO} (rr : RR K fa W F B s σ H d (.ref p)) (ho : d.isOwn = true) (hp : H p = some u) (hw : W p = none) (hf : F p = none) (hb : p ∉ B) (st : Stp (upd W p u) F B F' B') (r : Rel K fa (upd W p u) F' B' s' σ' H') :
    Stp W F B F' B' ∧ Rel K fa W F' B' s' σ' H' ∧ RR K fa W F' B' s' σ' H' d (.ref p) ∧ ∀ e w, RR K fa (upd W p u) F' B' s' σ' H' e w → RR K fa W F' B' s' σ' H' e w ∧ (e.isOwn = true → w ≠ .ref p) := by
  have wn : ∀ q, upd W p u q = none → W q = none ∧ q ≠ p := fun q e => by
    by_cases c : q = p
    · subst c; rw [upd_same] at e; cases e
    · rw [upd_ne c] at e; exact ⟨e, c⟩
  have hz : H' p = some u := r.ew _ _ upd_same
  have fz : F' p = none := by
    cases q : F' p with
    | none => rfl
    | some o =>
      rcases st.gr _ _ q with z | z
      · rw [hf] at z; cases z
      · rw [upd_same] at z; cases z
  have slv : ∀ e w, SlV K fa (upd W p u) F' B' H' e w → SlV K fa W F' B' H' e w := fun e w q => by
    cases e with
    | own xs => obtain ⟨q, vs, a1, a2, a3, a4, a5, a6⟩ := q; exact ⟨q, vs, a1, a2, a3, (wn q a4).1, a5, a6⟩
    | odc xs => obtain ⟨q, vs, a1, a2, a3, a4, a5, a6⟩ := q; exact ⟨q, vs, a1, a2, a3, (wn q a4).1, a5, a6⟩
    | _ => exact q
  have r2 : Rel K fa W F' B' s' σ' H' := by
    refine ⟨fun q o e => r.ew q o ?_, r.ef, r.len, fun i e h => ?_, r.apart, r.bl, fun k xs h => ?_, r.bd⟩
    · by_cases c : q = p
      · subst c; rw [hw] at e; cases e
      · rw [upd_ne c]; exact e
    · obtain ⟨w, g1, g2⟩ := r.slot i e h
      exact ⟨w, g1, slv _ _ g2⟩
    · obtain ⟨q, vs, a1, a2, a3, a4, a5⟩ := r.bx k xs h
      exact ⟨q, vs, a1, a2, a3, (wn q a4).1, a5⟩
  have nb : p ∉ B' := fun h => by
    obtain ⟨k, hk⟩ := List.getElem?_of_mem h
    have hk' : k < s'.box.length := by rw [← r.bl]; exact (List.getElem?_eq_some_iff.mp hk).1
    obtain ⟨q, vs, a1, a2, a3, a4, a5⟩ := r.bx k s'.box[k] (by simp [hk'])
    rw [hk] at a1; cases a1
    exact (wn _ a4).2 rfl
  refine ⟨st.wk fun q e => (wn q e).1, r2, ⟨?_, fun _ i e h1 h2 h3 => ?_⟩, fun e w q => ⟨⟨slv _ _ q.1, q.2⟩, fun oe c => ?_⟩⟩
  · cases d with
    | own xs =>
      obtain ⟨q, vs, a1, a2, a3, a4, a5, a6⟩ := rr.1
      cases a1
      rw [hp] at a2; cases a2
      exact ⟨p, vs, rfl, hz, Reps.mono st.ex st.bs _ _ a3, hw, fz, nb⟩
    | odc xs =>
      obtain ⟨q, vs, a1, a2, a3, a4, a5, a6⟩ := rr.1
      cases a1
      rw [hp] at a2; cases a2
      exact ⟨p, vs, rfl, hz, RepK.mono st.ex st.bs _ _ a3, hw, fz, nb⟩
    | _ => cases ho
  · obtain ⟨w, g1, g2⟩ := r.slot i e h1
    rw [h3] at g1; cases g1
    obtain ⟨q, o, b1, b2, b3, _⟩ := g2.own h2
    cases b1
    exact (wn _ b3).2 rfl
  · obtain ⟨q, o, b1, b2, b3, _⟩ := q.1.own oe
    rw [b1] at c; cases c
    exact (wn _ b3).2 rfl
/-- a fresh result, then another expression -/
theorem pair_use {e : E} {x y : D} {vx : V} {s2 : S} {Q : VK} (r : Rel K fa W F B s σ H) (rx : RR K fa W F B s σ H x vx) (h : evE c e s = .ok y s2)
    (k : ∀ F' B' H' vy, Stp W F B F' B' → Rel K fa W F' B' s2 σ H' → RR K fa W F' B' s2 σ H' x vx → RR K fa W F' B' s2 σ H' y vy → (y.isOwn = true → x.isOwn = true → vy ≠ vx) → Q vy H') : tE K fa c e σ H Q := by
  by_cases ho : x.isOwn = true
  · obtain ⟨p, u, rfl, h2, h3, h4, h5, r2⟩ := r.hold rx ho
    refine tE_res r2 h fun F1 B1 H1 v st r3 rr => ?_
    obtain ⟨q1, q2, q3, q4⟩ := Rel.unhold rx ho h2 h3 h4 h5 st r3
    obtain ⟨q5, q6⟩ := q4 _ _ rr
    exact k F1 B1 H1 v q1 q2 q3 q5 fun o _ => q6 o
  · have ho' : x.isOwn = false := by simpa using ho
    exact tE_res r h fun F1 B1 H1 v st r3 rr => k F1 B1 H1 v st r3 (rx.mono' st ho') rr fun _ o => by rw [ho'] at o; cases o
theorem RR.put {x y : D} {vx vy : V} {i : Nat} (r : Rel K fa W F B s σ H) (ry : RR K fa W F B s σ H y vy) (hi : i < s.loc.length) (ne : y.isOwn = true → x.isOwn = true → vy ≠ vx) : RR K fa W F B (s.put i x) (σ.set i (some vx)) H y vy := by
  refine ⟨ry.1, fun o j e h1 h2 h3 => ?_⟩
  by_cases c : j = i
  · subst c
    rw [get_put_same hi] at h1; cases h1
    rw [List.getElem?_set_self (by rw [r.len]; exact hi)] at h3
    cases h3
    exact ne o h2 rfl
  · rw [get_put_ne c] at h1
    rw [List.getElem?_set_ne (Ne.symm c)] at h3
    exact ry.2 o j e h1 h2 h3
/-- a box is another one now -/
theorem Rel.setBox {k : Nat} {xs ys : List D} {p : Addr} {vs ws : List V} (r : Rel K fa W F B s σ H) (h : s.box[k]? = some xs) (hb : B[k]? = some p) (hp : H p = some (.lst vs)) (q : Reps K fa F B ys ws) :
    Rel K fa W F B { s with box := s.box.set k ys } σ (upd H p (.lst ws)) := by
  obtain ⟨p', us, a1, a2, a3, a4, a5⟩ := r.bx k xs h
  rw [hb] at a1; cases a1
  have hk : k < s.box.length := (List.getElem?_eq_some_iff.mp h).1
  refine ⟨r.ew.mut a4, r.ef.mut a5, r.len, fun i e h => ?_, r.apart, by rw [List.length_set]; exact r.bl, fun j zs hj => ?_, r.bd⟩
  · obtain ⟨w, g1, g2⟩ := r.slot i e h
    refine ⟨w, g1, g2.mono (Ex.refl _) ⟨[], by simp⟩ (fun x o q1 q2 q3 => ?_) (fun _ _ _ z => z) (fun _ _ _ z => z)⟩
    obtain ⟨q, u, b1, _, _, _, b5⟩ := g2.own q1
    rw [q2] at b1; cases b1
    have : x ≠ p := fun e => b5 (e ▸ List.mem_of_getElem? hb)
    rw [upd_ne this]; exact q3
  · by_cases c : j = k
    · subst c
      rw [List.getElem?_set_self hk] at hj; cases hj
      exact ⟨p, ws, hb, upd_same, q, a4, a5⟩
    · rw [List.getElem?_set_ne (Ne.symm c)] at hj
      obtain ⟨x, us, b1, b2, b3, b4, b5⟩ := r.bx j zs hj
      have : x ≠ p := fun e => by
        subst e
        obtain ⟨h1, h1'⟩ := List.getElem?_eq_some_iff.mp b1
        obtain ⟨h2, h2'⟩ := List.getElem?_eq_some_iff.mp hb
        have nd := List.pairwise_iff_getElem.mp r.bd
        rcases Nat.lt_or_gt_of_ne c with z | z
        · exact nd j k h1 h2 z (h1'.trans h2'.symm)
        · exact nd k j h2 h1 z (h2'.trans h1'.symm)
      exact ⟨x, us, b1, by rw [upd_ne this]; exact b2, b3, b4, b5⟩
end

section
variable {X : Cx} {fa : Nat → Option Addr} {c : Env} {L : Nat} {a b tg iter : Expr} {sa sb : Stmt} {sts : List Stmt} {ea eb et eit : E} {xa xb : St} {pos tpos npos : Pos}
theorem s_nil : PSs X [] (tS X.K fa c L .nil) := pss_w pss_nil fun D σ H ⟨W, F, B, s, fl, s', r, h, k⟩ => by
  cases h
  exact k F B σ H Stp.refl r
theorem s_seq (h1 : PS X sa (tS X.K fa c L xa)) (h2 : PSs X sts (tS X.K fa c L xb)) : PSs X (sa :: sts) (tS X.K fa c L (.seq xa xb)) :=
  pss_w (pss_cons h1 h2) fun D σ H ⟨W, F, B, s, fl, s', r, h, k⟩ => by
    obtain ⟨f1, s1, h3, h4⟩ := bnd_inv h
    refine tS_use r h3 fun F1 B1 σ1 H1 st1 r1 => ?_
    cases f1 with
    | nx => exact tS_use r1 h4 fun F2 B2 σ2 H2 st2 r2 => k F2 B2 σ2 H2 (st1.trans st2) r2
    | rt d => cases h4; exact k F1 B1 σ1 H1 st1 r1
    | bk => cases h4; exact k F1 B1 σ1 H1 st1 r1
    | ct => cases h4; exact k F1 B1 σ1 H1 st1 r1
theorem s_pass : PS X (.Pass pos) (tS X.K fa c L .pass) := ps_w ps_pass fun D σ H ⟨W, F, B, s, fl, s', r, h, k⟩ => by
  cases h
  exact k F B σ H Stp.refl r
theorem s_brk : PS X (.Break pos) (tS X.K fa c L .brk) := ps_w ps_break fun D σ H ⟨W, F, B, s, fl, s', r, h, k⟩ => by
  cases h
  exact k F B σ H Stp.refl r
theorem s_cnt : PS X (.Continue pos) (tS X.K fa c L .cnt) := ps_w ps_continue fun D σ H ⟨W, F, B, s, fl, s', r, h, k⟩ => by
  cases h
  exact k F B σ H Stp.refl r
theorem s_rais {k : Nat} {e : E} : PS X sa (tS X.K fa c L (.rais k e)) := ps_w ps_never fun D σ H ⟨W, F, B, s, fl, s', r, h, _⟩ => by
  have h' : ((evA c e s).bnd fun xs s1 => Res.exc (.tup (.fn k :: xs)) s1 : Res Flow) = .ok fl s' := h
  obtain ⟨_, _, _, h4⟩ := bnd_inv h'
  cases h4
theorem s_ex (h : PS X sa (tDrop (tE X.K fa c ea))) : PS X sa (tS X.K fa c L (.ex ea)) := ps_w h fun D σ H ⟨W, F, B, s, fl, s', r, h, k⟩ => by
  obtain ⟨d, s1, h1, h2⟩ := bnd_inv h
  cases h2
  exact tE_res r h1 fun F1 B1 H1 v st r1 rr => k F1 B1 σ H1 st r1
theorem s_ret (ha : PE X a (tE X.K fa c ea)) : PS X (.Return (some a) pos) (tS X.K fa c L (.ret ea)) := ps_w (ps_ret ha) fun D σ H ⟨W, F, B, s, fl, s', r, h, k⟩ => by
  obtain ⟨d, s1, h1, h2⟩ := bnd_inv h
  cases h2
  exact tE_res r h1 fun F1 B1 H1 v st r1 rr => k F1 B1 σ H1 st r1 v rr
theorem s_retN : PS X (.Return none pos) (tS X.K fa c L .retN) := ps_w ps_retN fun D σ H ⟨W, F, B, s, fl, s', r, h, k⟩ => by
  cases h
  exact k F B σ H Stp.refl r .non (RR.of of_non)
theorem s_ite {as bs : List Stmt} (ht : PT X a (tT X.K fa c et)) (h1 : PSs X as (tS X.K fa c L xa)) (h2 : PSs X bs (tS X.K fa c L xb)) : PS X (.If a as bs pos) (tS X.K fa c L (.ite et xa xb)) :=
  ps_w (ps_if ht h1 h2) fun D σ H ⟨W, F, B, s, fl, s', r, h, k⟩ => by
    obtain ⟨b, s1, h3, h4⟩ := bnd_inv h
    refine tT_use r h3 fun F1 B1 H1 st1 r1 => ?_
    cases b with
    | true => rw [if_pos rfl] at h4 ⊢; exact tS_use r1 h4 fun F2 B2 σ2 H2 st2 r2 => k F2 B2 σ2 H2 (st1.trans st2) r2
    | false => rw [if_neg (by decide)] at h4 ⊢; exact tS_use r1 h4 fun F2 B2 σ2 H2 st2 r2 => k F2 B2 σ2 H2 (st1.trans st2) r2
theorem s_asg (h : PS X sa (tAsg (tE X.K fa c ea) (gA X.K fa et))) : PS X sa (tS X.K fa c L (.asg et ea)) := ps_w h fun D σ H ⟨W, F, B, s, fl, s', r, h, k⟩ => by
  obtain ⟨d, s1, h1, h2⟩ := bnd_inv h
  obtain ⟨s2, s3, h3, h4⟩ := bnd_inv h2
  obtain ⟨h3, rfl⟩ := opt_inv h3
  cases h4
  exact tE_res r h1 fun F1 B1 H1 v st r1 rr => ⟨W, F1, B1, _, d, _, r1, rr, h3, fun σ' r2 _ _ => k F1 B1 σ' H1 st r2⟩
theorem s_asv {i : Nat} (h : PS X sa (tAsg (tE X.K fa c ea) (gName i))) : PS X sa (tS X.K fa c L (.asv i ea)) := ps_w h fun D σ H ⟨W, F, B, s, fl, s', r, h, k⟩ => by
  obtain ⟨d, s1, h1, h2⟩ := bnd_inv h
  split at h2 <;> cases h2
  rename_i hi
  exact tE_res r h1 fun F1 B1 H1 v st r1 rr => k F1 B1 _ H1 st (r1.put hi rr)
theorem s_asvLc {i : Nat} {elt tg' it' cond : E} {own : List Nat} (hv : ∀ j, j ∈ tgv tg' → j ∈ own) (h : PS X sa (tAsg (tLc (wI X.K fa c it') (gA X.K fa tg') (tT X.K fa c cond) (tE X.K fa c elt) own) (gName i))) : PS X sa (tS X.K fa c L (.asv i (.lc elt tg' it' cond own))) := ps_w h fun D σ H ⟨W, F, B, s, fl, s', r, h, k⟩ => by
  obtain ⟨d, s1, h1, h2⟩ := bnd_inv h
  split at h2 <;> cases h2
  rename_i hi
  exact lc_wk hv (tE_res r h1 fun F1 B1 H1 v st r1 rr => k F1 B1 _ H1 st (r1.put hi rr))
theorem s_par {i j : Nat} (h : PS X sa (tPar i j (tCons (tE X.K fa c ea) (tCons (tE X.K fa c eb) tNil)))) : PS X sa (tS X.K fa c L (.par i j ea eb)) := ps_w h fun D σ H ⟨W, F, B, s, fl, s', r, h, k⟩ => by
  obtain ⟨x, s1, h1, h2⟩ := bnd_inv h
  obtain ⟨y, s2, h3, h4⟩ := bnd_inv h2
  split at h4 <;> cases h4
  rename_i hi
  refine tE_res r h1 fun F1 B1 H1 v st1 r1 rx => pair_use r1 rx h3 fun F2 B2 H2 w st2 r2 rx2 ry2 ne => ⟨v, w, rfl, k F2 B2 _ H2 (st1.trans st2) ?_⟩
  exact (r2.put hi.1 rx2).put (by rw [put_len]; exact hi.2.1) (ry2.put r2 hi.1 ne)
/-- two names at once, by a tuple that is given up again -/
theorem s_parT {i j : Nat} (h : PS X sa (tAsg (tTup (tCons (tE X.K fa c ea) (tCons (tE X.K fa c eb) tNil))) (gTup X.K 2 (gCons (gName i) (gCons (gName j) gNil))))) : PS X sa (tS X.K fa c L (.par i j ea eb)) := ps_w h fun D σ H ⟨W, F, B, s, fl, s', r, h, k⟩ => by
  obtain ⟨x, s1, h1, h2⟩ := bnd_inv h
  obtain ⟨y, s2, h3, h4⟩ := bnd_inv h2
  split at h4 <;> cases h4
  rename_i hi
  refine tE_res r h1 fun F1 B1 H1 v st1 r1 rx => pair_use r1 rx h3 fun F2 B2 H2 w st2 r2 rx2 ry2 ne => ⟨by show 2 ≤ sizeLine; decide, fun p n => ⟨p, [v, w], rfl, .inl (.inl upd_same), rfl, v, [w], rfl, w, [], rfl, rfl, ?_⟩⟩
  have r3 := (r2.put hi.1 rx2).put (by rw [put_len]; exact hi.2.1) (ry2.put r2 hi.1 ne)
  obtain ⟨r4, st⟩ := r3.new (o := .tup [v, w]) n
  exact k _ _ _ _ ((st1.trans st2).trans st) r4
theorem s_par3 {i j l : Nat} {es : E} (h : PS X sa (tPar3 i j l (tA X.K fa c es))) : PS X sa (tS X.K fa c L (.par3 i j l es)) := ps_w h fun D σ H ⟨W, F, B, s, fl, s', r, h, k⟩ => by
  obtain ⟨xs, s1, h1, h2⟩ := bnd_inv h
  split at h2
  case h_2 => cases h2
  rename_i x y z
  split at h2 <;> cases h2
  rename_i hi
  refine tA_use r h1 fun F1 B1 H1 vs st r1 rs => ?_
  obtain ⟨u, v, w, rfl, rx, ry, rz⟩ := reps3 rs
  refine ⟨u, v, w, rfl, k F1 B1 _ H1 st ?_⟩
  exact ((r1.put hi.1 (RR.of rx)).put (by rw [put_len]; exact hi.2.1) (RR.of ry)).put (by rw [put_len, put_len]; exact hi.2.2) (RR.of rz)
theorem s_set {i : Nat} (h : PS X sa (tAsg (tE X.K fa c ea) (gSub (tVar i) (tE X.K fa c eb) rSetL))) : PS X sa (tS X.K fa c L (.set i eb ea)) := ps_w h fun D σ H ⟨W, F, B, s, fl, s', r, h, k⟩ => by
  obtain ⟨x, s1, h1, h2⟩ := bnd_inv h
  split at h2
  case isFalse => cases h2
  rename_i hsm
  obtain ⟨y, s2, h3, h4⟩ := bnd_inv h2
  obtain ⟨s3, s4, h5, h6⟩ := bnd_inv h4
  obtain ⟨h5, rfl⟩ := opt_inv h5
  cases h6
  obtain ⟨d, h7, h8⟩ := bind_inv h5
  refine tE_use r h1 fun F1 B1 H1 u st1 r1 ru => ?_
  obtain ⟨d1, hd1⟩ := Option.isSome_iff_exists.mp hsm
  obtain ⟨v, hv, _⟩ := r1.slot i d1 hd1
  refine ⟨v, hv, tE_use r1 h3 fun F2 B2 H2 w st2 r2 rw_ => ?_⟩
  have ru2 := ru.stp st2
  obtain ⟨v', hv', sv⟩ := r2.slot i d h7
  rw [hv] at hv'; cases hv'
  generalize hy : y.frz = y' at h8 rw_
  cases d <;> cases y' <;> first | (cases h8; done) | skip
  · rename_i xs n
    obtain ⟨j, h9, h10⟩ := map_inv h8
    cases h10
    obtain ⟨p, vs, rfl, b2, b3, _⟩ := sv
    refine ⟨p, vs, n, j, rfl, rep_int rw_, b2, by rw [b3.length]; exact h9, k F2 B2 σ _ (st1.trans st2) (r2.setOwn h7 hv b2 (b3.set j ru2))⟩
  · rename_i bk n
    obtain ⟨xs, h9, h10⟩ := bind_inv h8
    obtain ⟨j, h11, h12⟩ := map_inv h10
    cases h12
    obtain ⟨p, rfl, hb⟩ := rep_box (sv.rep rfl)
    obtain ⟨p', vs, b1, b2, b3, _⟩ := r2.bx bk xs h9
    rw [hb] at b1; cases b1
    exact ⟨p, vs, n, j, rfl, rep_int rw_, b2, by rw [b3.length]; exact h11, k F2 B2 σ _ (st1.trans st2) (r2.setBox h9 hb b2 (b3.set j ru2))⟩
/-- one item stored, the value held -/
theorem set_use {i : Nat} {x : D} {u : V} {s1 s' : S} {σ : L2.St} {W F H1 : Hp} {B : List Addr} {Q : L2.St → Hp → Prop} (r1 : Rel X.K fa W F B s1 σ H1) (ru : Rep X.K fa F B x u) (h : setR c i eb x s1 = .ok () s')
    (k : ∀ F' B' H', Stp W F B F' B' → Rel X.K fa W F' B' s' σ H' → Q σ H') : gSub (tVar i) (tE X.K fa c eb) rSetL u σ H1 Q := by
  unfold setR at h
  split at h
  case isFalse => cases h
  rename_i hsm
  obtain ⟨y, s2, h3, h4⟩ := bnd_inv h
  obtain ⟨s3, s4, h5, h6⟩ := bnd_inv h4
  obtain ⟨h5, rfl⟩ := opt_inv h5
  cases h6
  obtain ⟨d, h7, h8⟩ := bind_inv h5
  obtain ⟨d1, hd1⟩ := Option.isSome_iff_exists.mp hsm
  obtain ⟨v, hv, _⟩ := r1.slot i d1 hd1
  refine ⟨v, hv, tE_use r1 h3 fun F2 B2 H2 w st2 r2 rw_ => ?_⟩
  have ru2 := ru.stp st2
  obtain ⟨v', hv', sv⟩ := r2.slot i d h7
  rw [hv] at hv'; cases hv'
  generalize hy : y.frz = y' at h8 rw_
  cases d <;> cases y' <;> first | (cases h8; done) | skip
  · rename_i xs n
    obtain ⟨j, h9, h10⟩ := map_inv h8
    cases h10
    obtain ⟨p, vs, rfl, b2, b3, _⟩ := sv
    exact ⟨p, vs, n, j, rfl, rep_int rw_, b2, by rw [b3.length]; exact h9, k F2 B2 _ st2 (r2.setOwn h7 hv b2 (b3.set j ru2))⟩
  · rename_i bk n
    obtain ⟨xs, h9, h10⟩ := bind_inv h8
    obtain ⟨j, h11, h12⟩ := map_inv h10
    cases h12
    obtain ⟨p, rfl, hb⟩ := rep_box (sv.rep rfl)
    obtain ⟨p', vs, b1, b2, b3, _⟩ := r2.bx bk xs h9
    rw [hb] at b1; cases b1
    exact ⟨p, vs, n, j, rfl, rep_int rw_, b2, by rw [b3.length]; exact h11, k F2 B2 _ st2 (r2.setBox h9 hb b2 (b3.set j ru2))⟩
theorem s_set2 {i j : Nat} (h : PS X sa (tAsg (tE X.K fa c ea) (gTup X.K 2 (gCons (gSub (tVar i) (tE X.K fa c eb) rSetL) (gCons (gSub (tVar j) (tE X.K fa c ed) rSetL) gNil))))) : PS X sa (tS X.K fa c L (.set2 i j eb ed ea)) := ps_w h fun D σ H ⟨W, F, B, s, fl, s', r, h, k⟩ => by
  obtain ⟨d, s1, h1, h2⟩ := bnd_inv h
  split at h2
  case h_2 => cases h2
  rename_i x y
  obtain ⟨_, s2, h3, h4⟩ := bnd_inv h2
  obtain ⟨_, s3, h5, h6⟩ := bnd_inv h4
  cases h6
  refine tE_use r h1 fun F1 B1 H1 u st1 r1 ru => ?_
  obtain ⟨p, vs, rfl, t1, t2⟩ := rep_tup ru
  obtain ⟨a, b, rfl, ra, rb⟩ := reps2 t2
  refine ⟨p, [a, b], rfl, ex_t r1.ef t1, rfl, a, [b], rfl, set_use r1 ra h3 fun F2 B2 H2 st2 r2 => ⟨b, [], rfl, set_use r2 (rb.stp st2) h5 fun F3 B3 H3 st3 r3 => ⟨rfl, k F3 B3 σ H3 (st1.trans (st2.trans st3)) r3⟩⟩⟩
theorem s_aug {i : Nat} {o : BOp} {f : Int → Int → Int} (h : PS X sa (tAug i (tE X.K fa c ea) (ipI f))) (hf : ∀ x y z, opA o x y = some z → ∃ a b, x = .int a ∧ y = .int b ∧ z = .int (f a b)) : PS X sa (tS X.K fa c L (.aug i o ea)) := ps_w h fun D σ H ⟨W, F, B, s, fl, s', r, h, k⟩ => by
  unfold evS at h
  split at h
  case h_2 => cases h
  rename_i x hx
  obtain ⟨y, s1, h1, h2⟩ := bnd_inv h
  obtain ⟨z, s2, h3, h4⟩ := bnd_inv h2
  obtain ⟨h5, rfl⟩ := opt_inv h3
  cases h4
  obtain ⟨a, b, rfl, hy, rfl⟩ := hf _ _ _ h5
  obtain ⟨v, g1, g2⟩ := r.slot i _ hx
  have hl := get_lt hx
  refine ⟨v, g1, tE_use r h1 fun F1 B1 H1 u st r1 ru => ?_⟩
  rw [hy] at ru
  have hl1 : i < s2.loc.length := by rw [← r1.len, r.len]; exact hl
  refine ⟨a, b, rep_int (g2.rep rfl), rep_int ru, k F1 B1 _ H1 st (r1.put hl1 (RR.of (of_int _)))⟩
theorem s_whl {body : List Stmt} (hp : PassesOwn (model X.prog X.w) X.A X.env X.xe) (ht : PT X a (tT X.K fa c et)) (hb : PSs X body (tS X.K fa c L xb)) : PS X (.While a body [] pos) (tS X.K fa c L (.whl et xb)) :=
  ps_w (ps_while hp ht hb) fun D σ H ⟨W, F, B, s, fl, s', r, h, k⟩ => by
    refine ⟨fun m σ1 H1 => ∃ F1 B1 s1, Stp W F B F1 B1 ∧ Rel X.K fa W F1 B1 s1 σ1 H1 ∧ whlL (evT c et) (evS c L xb) m s1 = .ok fl s', ⟨L, F, B, s, Stp.refl, r, h⟩, fun m σ1 H1 ⟨F1, B1, s1, st1, r1, h1⟩ => ?_⟩
    cases m with
    | zero => cases h1
    | succ m =>
      obtain ⟨b, s2, h2, h3⟩ := bnd_inv h1
      refine tT_use r1 h2 fun F2 B2 H2 st2 r2 => ?_
      cases b with
      | false =>
        rw [if_neg (by decide)] at h3 ⊢
        cases h3
        exact k F2 B2 σ1 H2 (st1.trans st2) r2
      | true =>
        rw [if_pos rfl] at h3 ⊢
        obtain ⟨f3, s3, h4, h5⟩ := bnd_inv h3
        refine ⟨fun σ' H' => ∃ F1 B1 s1, Stp W F B F1 B1 ∧ Rel X.K fa W F1 B1 s1 σ' H' ∧ whlL (evT c et) (evS c L xb) m s1 = .ok fl s', fun σ' H' q => ⟨m, Nat.lt_succ_self _, q⟩, tS_use r2 h4 fun F3 B3 σ3 H3 st3 r3 => ?_⟩
        have st13 := (st1.trans st2).trans st3
        cases f3 with
        | nx => exact ⟨F3, B3, s3, st13, r3, h5⟩
        | ct => exact ⟨F3, B3, s3, st13, r3, h5⟩
        | bk => cases h5; exact k F3 B3 σ3 H3 st13 r3
        | rt d => cases h5; exact k F3 B3 σ3 H3 st13 r3
theorem s_for {body : List Stmt} (hp : PassesOwn (model X.prog X.w) X.A X.env X.xe) (hc : X.calm = true) (hi : PI X tg iter (wI X.K fa c eit)) (hg : PG X tg (gA X.K fa et)) (hb : PSs X body (tS X.K fa c L xb)) (hs : ∀ x, foldedSetIterable iter X.env x = pure x) :
    PS X (.For tg iter body [] pos) (tS X.K fa c L (.for et eit xb)) :=
  ps_w (ps_for hp hc hi hg hb hs) fun D σ H ⟨W, F, B, s, fl, s', r, h, k⟩ => by
    obtain ⟨ds, s1, h1, h2⟩ := bnd_inv h
    refine ⟨W, F, B, s, ds, s1, r, h1, fun F1 B1 H1 J st1 r1 wk => ?_⟩
    obtain ⟨G, Y, w, hG, hY⟩ := wk
    let f : Q.D → S → Res Flow := fun d s2 => (Res.opt (asgT et d s2) s2).bnd fun s3 _ => evS c L xb s3
    refine for_it w (fun i σ H => ∃ F2 B2 s2, Stp W F1 B1 F2 B2 ∧ Rel X.K fa W F2 B2 s2 σ H ∧ forL f (ds.drop i) s2 = .ok fl s') ⟨F1, B1, s1, Stp.refl, r1, h2⟩ ?_ ?_ ?_
    · rintro i σ2 H2 hi ⟨F2, B2, s2, st2, r2, _⟩
      exact hG H2 (st2.ex.trans r2.ef)
    · rintro i x σ2 H2 H2' hi ⟨F2, B2, s2, st2, r2, e2⟩ y
      obtain ⟨d, hd, yk⟩ := hY i H2 x H2' hi (st2.ex.trans r2.ef) y
      rw [drop_cons hd] at e2
      obtain ⟨f3, s3, e3, e4⟩ := bnd_inv e2
      obtain ⟨s4, _, e5, e6⟩ := bnd_inv e3
      obtain ⟨e5, rfl⟩ := opt_inv e5
      obtain ⟨F3, st3, r3, rp3⟩ := r2.yk st2.ex st2.bs yk
      refine ⟨W, F3, B2, _, d, s4, r3, RR.of rp3, e5, fun σ5 r5 _ _ => tS_use r5 e6 fun F6 B6 σ6 H6 st6 r6 => ?_⟩
      have st26 := (st2.trans st3).trans st6
      cases f3 with
      | nx => exact ⟨F6, B6, s3, st26, r6, e4⟩
      | ct => exact ⟨F6, B6, s3, st26, r6, e4⟩
      | bk => cases e4; exact k F6 B6 σ6 H6 (st1.trans st26) r6
      | rt d => cases e4; exact k F6 B6 σ6 H6 (st1.trans st26) r6
    · rintro σ2 H2 ⟨F2, B2, s2, st2, r2, e2⟩
      rw [List.drop_length] at e2
      cases e2
      exact k F2 B2 σ2 H2 (st1.trans st2) r2
end
end Q
end

section
set_option maxRecDepth 100000
set_option maxHeartbeats 4000000
/-! QCmp: from the text to the small language, each piece with its proof. -/
namespace Q
open PySem PySem.Spec PyProof.Rows L2

abbrev NK := List (Str × NameKind)
structure Ctx where
  N : List Str
  sc : NK
  fnc : Option NK
  fns : List (Str × Nat × Nat)
  gls : List (Str × Nat)
  bls : List Str
  bx : Bool
def fnOf : Option NK → Str → Bool
  | none, _ => true
  | some ns, x => ns.lookup x == some .cell
structure Ok (X : Cx) (fa : Nat → Option Addr) (c : Env) (x : Ctx) : Prop where
  nd : x.N.Nodup
  hN : X.N = x.N
  sc : X.env.scope.names = x.sc
  kind : X.env.scope.kind = .function
  fn : X.fn = fnOf x.fnc
  hu : X.A.units + 64 < cLine
  calm : X.calm = true
  fns : ∀ f k np, x.fns.lookup f = some (k, np) → ∃ (p : Addr) (fd : FuncData) (kk : Nat) (ps : List Str), X.mg f = some (.ref p) ∧ fa k = some p ∧ PySem.W.keepIn X.K (.ref p) = true ∧ FnOk X.prog X.w X.K X.mg X.base L2.CX0 kk p fd ps (spF X.K fa c.call np k) ∧ Room kk X.A ∧ Binds X.K fd ps []
  gls : ∀ f k, x.gls.lookup f = some k → ∃ (u : Value) (v : V) (d : D), X.mg f = some u ∧ RelV v u ∧ c.glb k = some d ∧ ∀ F B, Rep X.K fa F B d v
  bls : ∀ f, f ∈ x.bls → X.mg f = none
def relab (sc ns : NK) : NK := ns.map fun (n, k) => if (k == .free && sc.lookup n == some .cell) then (n, .cell) else (n, k)
def Ctx.blk (x : Ctx) (scope : Scope) : Ctx := { x with sc := relab x.sc scope.names, fnc := some scope.names }
theorem Ok.blk {X : Cx} {fa : Nat → Option Addr} {c : Env} {x : Ctx} (o : Ok X fa c x) {scope : Scope} (hk : scope.kind = .function) (s : Shared) (H : Hp) (C : Addr) (cl : List (Str × Addr)) (fp : List Addr) :
    Ok (X.blk s H scope (compEnvC scope cl C X.env) fp) fa c (x.blk scope) where
  nd := o.nd
  hN := o.hN
  sc := by
    show (scope.names.map fun (n, k) => if (k == NameKind.free && X.env.scope.kind == .function && X.env.scope.names.lookup n == some .cell) then (n, NameKind.cell) else (n, k)) = relab x.sc scope.names
    rw [o.kind, o.sc]
    unfold relab
    congr 1
    funext ⟨n, k⟩
    simp
  kind := hk
  fn := rfl
  hu := o.hu
  calm := o.calm
  fns := o.fns
  gls := o.gls
  bls := o.bls
theorem Ok.knd {X : Cx} {fa : Nat → Option Addr} {c : Env} {x : Ctx} (o : Ok X fa c x) (n : Str) : X.env.kindOf n = x.sc.lookup n := by
  show X.env.scope.names.lookup n = _
  rw [o.sc]

/-! ### looks -/
def slotOf : (N : List Str) → (x : Str) → Option { i : Nat // N[i]? = some x }
  | [], _ => none
  | y :: ys, x => if h : y = x then some ⟨0, by rw [h]; rfl⟩ else match slotOf ys x with
    | some ⟨i, hi⟩ => some ⟨i + 1, hi⟩
    | none => none
def nstar : Expr → Bool
  | .Starred _ _ => false
  | _ => true
def nset : Expr → Bool
  | .Set _ _ _ => false
  | _ => true
def nlc : Expr → Bool
  | .ListComp _ _ _ _ => false
  | .SetComp _ _ _ _ => false
  | .DictComp _ _ _ _ _ => false
  | _ => true
def ntst : Expr → Bool
  | .UnaryOp .Not _ _ => false
  | .BoolOp _ _ _ => false
  | .IfExp _ _ _ _ => false
  | .Compare _ _ _ _ => false
  | _ => true
def npix : Expr → Bool
  | .Slice _ _ _ _ => false
  | _ => true
def ntup : Expr → Bool
  | .Tuple _ _ _ => false
  | _ => true
theorem star_of {e : Expr} (h : nstar e = true) (es : List Expr) (env : PySem.Env) : starEach (e :: es) env = (false, eval e env) :: starEach es env := by
  cases e <;> first | rfl | cases h
theorem asg_of {e : Expr} (h : nstar e = true) (es : List Expr) (env : PySem.Env) : assignEach (e :: es) env = (false, assign e env) :: assignEach es env := by
  cases e <;> first | rfl | cases h
theorem set_of {e : Expr} (h : nset e = true) (env : PySem.Env) (x : Value) : foldedSetIterable e env x = pure x := by
  cases e <;> first | rfl | cases h
theorem plain_of {e : Expr} (h : npix e = true) : PlainIx e := by
  intro o i
  cases e <;> first | rfl | cases h
theorem tst_of {e : Expr} (h : ntst e = true) (env : PySem.Env) (whole : Sem Value) : isTrue e env whole = (do let v ← whole; standAt e.pos; holding [v] (truthy v)) := by
  cases e with
  | UnaryOp o a p => cases o <;> first | rfl | cases h
  | _ => first | rfl | cases h
theorem stars_of : ∀ {es : List Expr} (_ : es.all nstar = true) (pos : Pos) (env : PySem.Env), (backTo pos (starEach es env)).any (·.1) = false
  | [], _, pos, env => rfl
  | e :: es, h, pos, env => by
    simp only [List.all_cons, Bool.and_eq_true] at h
    rw [star_of h.1]
    show (false || (backTo pos (starEach es env)).any (·.1)) = false
    rw [stars_of h.2]; rfl
theorem asgs_len : ∀ {es : List Expr} (_ : es.all nstar = true) (env : PySem.Env), (assignEach es env).length = es.length
  | [], _, env => rfl
  | e :: es, h, env => by
    simp only [List.all_cons, Bool.and_eq_true] at h
    rw [asg_of h.1, List.length_cons, asgs_len h.2, List.length_cons]
theorem asgs_none : ∀ {es : List Expr} (_ : es.all nstar = true) (env : PySem.Env), (assignEach es env).findIdx? (·.1) = none
  | [], _, env => rfl
  | e :: es, h, env => by
    simp only [List.all_cons, Bool.and_eq_true] at h
    rw [asg_of h.1, List.findIdx?_cons]
    simp only [Bool.false_eq_true, if_false, asgs_none h.2]
    rfl
def bOf : Operator → Option BOp
  | .Add => some .add | .Sub => some .sub | .Mult => some .mul | .FloorDiv => some .fdiv | .Mod => some .mod | .Pow => some .pow | .LShift => some .shl
  | _ => none
theorem bOf_ok {o : Operator} {b : BOp} (h : bOf o = some b) : o = oB b := by
  cases o <;> cases h <;> rfl
def cOf : CmpOp → Option COp
  | .Eq => some .eq | .NotEq => some .ne | .Lt => some .lt | .LtE => some .le | .Gt => some .gt | .GtE => some .ge | .In => some .isin | .NotIn => some .notin | .Is => some .isN | .IsNot => some .notN
theorem cOf_ok {o : CmpOp} {b : COp} (h : cOf o = some b) : o = oC b := by
  cases o <;> cases h <;> rfl
def visB (sc : NK) (x : Str) : Bool := match sc.lookup x with
  | some .local => true
  | some .cell => true
  | some .free => true
  | _ => false
def glB (sc : NK) (x : Str) : Bool := match sc.lookup x with
  | some .globalImplicit => true
  | _ => false
def locB (sc : NK) (x : Str) : Bool := match sc.lookup x with
  | some .local => true
  | _ => false
def okn (x : Str) : Bool := !(x == ("__debug__" : Str)) && !(x == ("__classdict__" : Str)) && !(x == ("__name__" : Str))
section
variable {X : Cx} {fa : Nat → Option Addr} {c : Env} {x : Ctx} {n : Str}
theorem vis_ok (o : Ok X fa c x) (h : visB x.sc n = true) : Vis X.env.scope n := by
  unfold visB at h
  unfold Vis
  rw [o.sc]
  split at h <;> first | exact .inl ‹_› | exact .inr (.inl ‹_›) | exact .inr (.inr ‹_›) | cases h
theorem gl_ok (o : Ok X fa c x) (h : glB x.sc n = true) : Gl X n := by
  unfold glB at h
  show X.env.kindOf n = _
  rw [o.knd]
  split at h <;> first | assumption | cases h
theorem loc_ok (o : Ok X fa c x) (h : locB x.sc n = true) : X.env.scope.names.lookup n = some .local := by
  unfold locB at h
  rw [o.sc]
  split at h <;> first | assumption | cases h
theorem okn1 (h : okn n = true) : (n == ("__debug__" : Str)) = false := by
  unfold okn at h; simp only [Bool.and_eq_true, Bool.not_eq_true'] at h; exact h.1.1
theorem okn2 (h : okn n = true) : (n == ("__classdict__" : Str)) = false := by
  unfold okn at h; simp only [Bool.and_eq_true, Bool.not_eq_true'] at h; exact h.1.2
theorem okn3 (h : okn n = true) : n ≠ "__name__" := by
  unfold okn at h; simp only [Bool.and_eq_true, Bool.not_eq_true'] at h
  intro e; subst e; have := h.2; simp at this
end
/-- a slot by its name, for reading -/
structure OutV (x : Ctx) (n : Str) where
  i : Nat
  ok : ∀ X fa c, Ok X fa c x → ∀ pos, PE X (.Name n pos) (tVar i)
  ix : x.N[i]? = some n
def cV (x : Ctx) (n : Str) : Option (OutV x n) :=
  if h : (visB x.sc n && okn n) = true then match slotOf x.N n with
    | some ⟨i, hi⟩ => some ⟨i, fun X fa c o pos => pe_var (by rw [o.hN]; exact hi) (vis_ok o (Bool.and_eq_true_iff.mp h).1) (okn1 (Bool.and_eq_true_iff.mp h).2) (okn2 (Bool.and_eq_true_iff.mp h).2), hi⟩
    | none => none
  else none
structure OutE (x : Ctx) (e : Expr) where
  ir : E
  ok : ∀ X fa c, Ok X fa c x → PE X e (tE X.K fa c ir)
structure OutT (x : Ctx) (e : Expr) where
  ir : E
  ok : ∀ X fa c, Ok X fa c x → PT X e (tT X.K fa c ir)
structure OutW (x : Ctx) (e : Expr) where
  ir : E
  ok : ∀ X fa c, Ok X fa c x → PW X e (tT X.K fa c ir)
structure OutA (x : Ctx) (es : List Expr) where
  ir : E
  ok : ∀ X fa c, Ok X fa c x → PA X es (tA X.K fa c ir)
  ns : es.all nstar = true
  len : lenC ir = es.length
structure OutO (x : Ctx) (e : Option Expr) where
  ir : E
  ok : ∀ X fa c, Ok X fa c x → PO X e (tO X.K fa c ir)
structure OutG (x : Ctx) (e : Expr) where
  ir : E
  ok : ∀ X fa c, Ok X fa c x → PG X e (gA X.K fa ir)
structure OutGs (x : Ctx) (es : List Expr) where
  ir : E
  ok : ∀ X fa c, Ok X fa c x → PGs X es (gAs X.K fa ir)
  ns : es.all nstar = true
  len : lenC ir = es.length
structure OutI (x : Ctx) (tg e : Expr) where
  ir : E
  ok : ∀ X fa c, Ok X fa c x → PI X tg e (wI X.K fa c ir)
structure OutIf (x : Ctx) (es : List Expr) where
  ir : E
  ok : ∀ X fa c, Ok X fa c x → PTs X es (tT X.K fa c ir)
def OutE.cast {x : Ctx} {e e' : Expr} (h : e = e') (o : OutE x e) : OutE x e' := h ▸ o
/-! ### targets -/
theorem fnOf_ok {X : Cx} {fa : Nat → Option Addr} {c : Env} {x : Ctx} (o : Ok X fa c x) {n : Str} (h : (fnOf x.fnc n || locB x.sc n) = true) : X.fn n = true ∨ X.env.scope.names.lookup n = some .local := by
  rcases Bool.or_eq_true_iff.mp h with h | h
  · left; rw [o.fn]; exact h
  · exact .inr (loc_ok o h)
def lcB (sc : NK) (x : Str) : Bool := match sc.lookup x with
  | some .local => true
  | some .cell => true
  | _ => false
theorem lc_ok {X : Cx} {fa : Nat → Option Addr} {c : Env} {x : Ctx} {n : Str} (o : Ok X fa c x) (h : lcB x.sc n = true) : L2.Loc X.env.scope n := by
  unfold lcB at h
  unfold L2.Loc
  rw [o.sc]
  split at h <;> first | exact .inl ‹_› | exact .inr ‹_› | cases h
structure OutN (x : Ctx) (n : Str) where
  i : Nat
  ok : ∀ X fa c, Ok X fa c x → ∀ pos, PG X (.Name n pos) (gName i)
  ix : x.N[i]? = some n
  hf : (fnOf x.fnc n || locB x.sc n) = true
  lc : lcB x.sc n = true
def cN (x : Ctx) (n : Str) : Option (OutN x n) :=
  if h : (lcB x.sc n && (fnOf x.fnc n || locB x.sc n)) = true then match slotOf x.N n with
    | some ⟨i, hi⟩ => some ⟨i, fun X fa c o pos => pg_name (by rw [o.hN]; exact o.nd) (by rw [o.hN]; exact hi) (lc_ok o (Bool.and_eq_true_iff.mp h).1) (fnOf_ok o (Bool.and_eq_true_iff.mp h).2), hi, (Bool.and_eq_true_iff.mp h).2, (Bool.and_eq_true_iff.mp h).1⟩
    | none => none
  else none
mutual
def cG : Nat → (x : Ctx) → (e : Expr) → Option (OutG x e)
  | 0, _, _ => none
  | m + 1, x, .Name n pos => match cN x n with
    | some r => some ⟨.var r.i, fun X fa c o => g_var (r.ok X fa c o pos)⟩
    | none => none
  | m + 1, x, .Tuple es k pos => match cGs m x es with
    | some r => some ⟨.tup r.ir, fun X fa c o => g_tup o.calm (r.ok X fa c o) (asgs_len r.ns _) (asgs_none r.ns _) r.len⟩
    | none => none
  | _, _, _ => none
def cGs : Nat → (x : Ctx) → (es : List Expr) → Option (OutGs x es)
  | 0, _, _ => none
  | m + 1, x, [] => some ⟨.nil, fun X fa c o => gs_nil, rfl, rfl⟩
  | m + 1, x, e :: es => if h : nstar e = true then match cG m x e, cGs m x es with
    | some r, some q => some ⟨.cons r.ir q.ir, fun X fa c o => gs_cons (r.ok X fa c o) (q.ok X fa c o) (by rw [asg_of h]; rfl), by simp [h, q.ns], by simp [lenC, q.len]⟩
    | _, _ => none
    else none
end
/-! ### built-ins -/
def bltOf (f : Str) : Option Blt :=
  if f = "len" then some .len else if f = "abs" then some .abs else if f = "int" then some .int else if f = "min" then some .min else if f = "max" then some .max else if f = "sum" then some .sum else
  if f = "any" then some .any else if f = "all" then some .all else if f = "tuple" then some .tuple else if f = "list" then some .list else if f = "sorted" then some .sorted else none
theorem bltOf_ok {f : Str} {b : Blt} (h : bltOf f = some b) : bootBuiltins f = some (vBlt b) := by
  unfold bltOf at h
  by_cases h1 : f = "len"
  · rw [if_pos h1] at h; cases h; subst h1; decide +kernel
  rw [if_neg h1] at h
  by_cases h2 : f = "abs"
  · rw [if_pos h2] at h; cases h; subst h2; decide +kernel
  rw [if_neg h2] at h
  by_cases h3 : f = "int"
  · rw [if_pos h3] at h; cases h; subst h3; decide +kernel
  rw [if_neg h3] at h
  by_cases h4 : f = "min"
  · rw [if_pos h4] at h; cases h; subst h4; decide +kernel
  rw [if_neg h4] at h
  by_cases h5 : f = "max"
  · rw [if_pos h5] at h; cases h; subst h5; decide +kernel
  rw [if_neg h5] at h
  by_cases h6 : f = "sum"
  · rw [if_pos h6] at h; cases h; subst h6; decide +kernel
  rw [if_neg h6] at h
  by_cases h7 : f = "any"
  · rw [if_pos h7] at h; cases h; subst h7; decide +kernel
  rw [if_neg h7] at h
  by_cases h8 : f = "all"
  · rw [if_pos h8] at h; cases h; subst h8; decide +kernel
  rw [if_neg h8] at h
  by_cases h9 : f = "tuple"
  · rw [if_pos h9] at h; cases h; subst h9; decide +kernel
  rw [if_neg h9] at h
  by_cases h10 : f = "list"
  · rw [if_pos h10] at h; cases h; subst h10; decide +kernel
  rw [if_neg h10] at h
  by_cases h11 : f = "sorted"
  · rw [if_pos h11] at h; cases h; subst h11; decide +kernel
  rw [if_neg h11] at h
  cases h
theorem pe_callV {X : Cx} {b : Blt} {r : List V → Hp → VK → Prop} {f : Str} {e : Expr} {es : List Expr} {t : TA} {p pos : Pos} (hc : CallR X (vBlt b) r) (hg : Gl X f) (hm : X.mg f = none) (hv : bootBuiltins f = some (vBlt b)) (ha : PA X (e :: es) t) (hn : f ≠ "__name__") (hdb : (f == ("__debug__" : Str)) = false)
    (he : starEach (e :: es) X.env = (false, eval e X.env) :: starEach es X.env) (hpl : (backTo pos (starEach es X.env)).any (·.1) = false) : PE X (.Call (.Name f p) (e :: es) [] pos) (tCB r t) := by
  cases b <;> first | exact pe_callB hc hg hm hv ha hn hdb he hpl | exact pe_callTy hc hg hm hv ha hn hdb he hpl
def tyOf (f : Str) : Option Ty :=
  if f = "int" then some .int else if f = "bool" then some .bool else if f = "tuple" then some .tuple else if f = "list" then some .list else if f = "str" then some .str else if f = "dict" then some .dict else none
theorem tyOf_ok {f : Str} {t : Ty} (h : tyOf f = some t) : bootBuiltins f = some (.type (tyN t)) := by
  unfold tyOf at h
  by_cases h1 : f = "int"
  · rw [if_pos h1] at h; cases h; subst h1; decide +kernel
  rw [if_neg h1] at h
  by_cases h2 : f = "bool"
  · rw [if_pos h2] at h; cases h; subst h2; decide +kernel
  rw [if_neg h2] at h
  by_cases h3 : f = "tuple"
  · rw [if_pos h3] at h; cases h; subst h3; decide +kernel
  rw [if_neg h3] at h
  by_cases h4 : f = "list"
  · rw [if_pos h4] at h; cases h; subst h4; decide +kernel
  rw [if_neg h4] at h
  by_cases h5 : f = "str"
  · rw [if_pos h5] at h; cases h; subst h5; decide +kernel
  rw [if_neg h5] at h
  by_cases h6 : f = "dict"
  · rw [if_pos h6] at h; cases h; subst h6; decide +kernel
  rw [if_neg h6] at h
  cases h
/-- the name of a built-in that stands free -/
def fr (x : Ctx) (f : Str) : Bool := glB x.sc f && (x.bls.contains f && okn f)
section
variable {X : Cx} {fa : Nat → Option Addr} {c : Env} {x : Ctx} {f : Str}
theorem fr_g (o : Ok X fa c x) (h : fr x f = true) : Gl X f := gl_ok o (Bool.and_eq_true_iff.mp h).1
theorem fr_m (o : Ok X fa c x) (h : fr x f = true) : X.mg f = none := o.bls f (by
  have := (Bool.and_eq_true_iff.mp (Bool.and_eq_true_iff.mp h).2).1
  simpa using this)
theorem fr_n (h : fr x f = true) : okn f = true := (Bool.and_eq_true_iff.mp (Bool.and_eq_true_iff.mp h).2).2
end
structure OutTy (x : Ctx) (e : Expr) where
  t : Ty
  ok : ∀ X fa c, Ok X fa c x → PE X e (tC (.ty (tyN t)))
  ns : nstar e = true
def cTy (x : Ctx) : (e : Expr) → Option (OutTy x e)
  | .Name f p => if h : fr x f = true then match ht : tyOf f with
    | some t => some ⟨t, fun X fa c o => pe_bltn (fr_g o h) (fr_m o h) (tyOf_ok ht) rfl (okn3 (fr_n h)) (okn1 (fr_n h)), rfl⟩
    | none => none
    else none
  | _ => none
structure OutTys (x : Ctx) (es : List Expr) where
  ts : List Ty
  ok : ∀ X fa c, Ok X fa c x → PA X es (tTys ts)
def cTys (x : Ctx) : (es : List Expr) → Option (OutTys x es)
  | [] => some ⟨[], fun X fa c o => pa_nil⟩
  | e :: es => match cTy x e, cTys x es with
    | some r, some q => some ⟨r.t :: q.ts, fun X fa c o => pa_w (pa_cons (r.ok X fa c o) (q.ok X fa c o) (star_of r.ns _ _)) fun σ H Q h => h⟩
    | _, _ => none
/-! ### dicts -/
section
variable {K : PySem.W.Frag} {fa : Nat → Option Addr} {c : Env}
theorem Rel.newD {W F : Hp} {B : List Addr} {s : S} {σ : L2.St} {H : Hp} {p : Addr} (r : Rel K fa W F B s σ H) (n : H p = none) : Rel K fa W F B s σ (upd H p (.dK [])) ∧ RR K fa W F B s σ (upd H p (.dK [])) (.odc []) (.ref p) := r.newK n (by unfold RepK; rfl)
end
theorem e_dic0 {X : Cx} {fa : Nat → Option Addr} {c : Env} {pos : Pos} : PE X (.Dict [] [] pos) (tE X.K fa c (.dic .nil)) := pe_w pe_dnewK fun σ H Q ⟨W, F, B, s, d, s', r, h, k⟩ p hp => by
  have h' : (Res.ok (D.odc (mergeD [] [])) s : Res D) = .ok d s' := h
  cases h'
  obtain ⟨r1, rr⟩ := r.newD hp
  exact k F B _ _ Stp.refl r1 rr
def kVD : D → Option Key
  | .int i => some (.inl i)
  | .str x => some (.inr x)
  | _ => none
theorem e_dic1 {X : Cx} {fa : Nat → Option Addr} {c : Env} {pos : Pos} {a b : Expr} {ea eb : E} (ha : PE X a (tE X.K fa c ea)) (hb : PE X b (tE X.K fa c eb)) : PE X (.Dict [some a] [b] pos) (tE X.K fa c (.dic (.cons ea (.cons eb .nil)))) :=
  pe_w (pe_disp (pps_cons ha hb pps_nil) rfl rfl (by simp) (by show 1 ≤ 15; decide)) fun σ H Q ⟨W, F, B, s, d, s', r, h, k⟩ p hp => by
    obtain ⟨xs, s3, h1, h2⟩ := bnd_inv h
    obtain ⟨x, s1, h3, h4⟩ := bnd_inv h1
    obtain ⟨ys, s2, h5, h6⟩ := bnd_inv h4
    obtain ⟨y, s4, h7, h8⟩ := bnd_inv h5
    obtain ⟨zs, s5, h9, h10⟩ := bnd_inv h8
    cases h9; cases h10; cases h6
    obtain ⟨ps, s6, h11, h12⟩ := bnd_inv h2
    obtain ⟨h21, rfl⟩ := opt_inv h11
    obtain ⟨r1, rr1⟩ := r.newD hp
    obtain ⟨p', u, e1, hz, hw, hf, hb, r2⟩ := r1.hold rr1 rfl
    cases e1
    rw [upd_same] at hz; cases hz
    refine tE_use r2 h3 fun F1 B1 H1 v st1 r3 rx => tE_use r3 h7 fun F2 B2 H2 w st2 r4 ry => ?_
    obtain ⟨q1, q2, q3, q4⟩ := Rel.unhold rr1 rfl upd_same hw hf hb (st1.trans st2) r4
    have rx2 := rx.stp st2
    have key : ∃ kk : Key, keyD x.frz = some kk ∧ ps = [(kk, y.frz)] := by
      have h13 : ((keyD x.frz).bind fun kk => (pairsD []).map ((kk, y.frz) :: ·)) = some ps := h21
      obtain ⟨kk, h14, h15⟩ := bind_inv h13
      cases h15
      exact ⟨kk, h14, rfl⟩
    obtain ⟨kk, hk, rfl⟩ := key
    cases h12
    have hv : v = kV kk := by
      revert rx2 hk
      generalize x.frz = x'
      intro rx2 hk
      cases x' <;> cases hk
      · exact rep_int rx2
      · exact rep_str rx2
    have hp2 : H2 p = some (.dK []) := by
      obtain ⟨p', vs, e1, e2, e3, _⟩ := q3.1
      cases e1
      rw [e2]
      unfold RepK at e3
      rw [e3]
    have wn : W p = none := hw
    refine ⟨hp2, [(kk, w)], by rw [hv]; rfl, by show 1 ≤ 15; decide, ?_⟩
    have r5 := q2.ew
    have fp : F2 p = none := by
      obtain ⟨p', vs, e1, e2, e3, e4, e5, e6⟩ := q3.1
      cases e1; exact e5
    have nb : p ∉ B2 := by
      obtain ⟨p', vs, e1, e2, e3, e4, e5, e6⟩ := q3.1
      cases e1; exact e6
    have ne : ∀ i e q, s'.get i = some e → e.isOwn = true → σ[i]? = some (some (.ref q)) → q ≠ p := fun i e q g1 g2 g3 g4 => q3.2 rfl i e g1 g2 (by rw [g3, g4])
    have r6 : Rel X.K fa W F2 B2 s' σ (upd H2 p (.dK (mergeK [] [(kk, w)]))) := q2.grow Stp.refl (q2.ew.mut wn) (q2.ef.mut fp)
      (fun i e q u g1 g2 g3 g4 => by
        obtain ⟨v', g5, g6⟩ := q2.slot i e g1
        rw [g3] at g5; cases g5
        obtain ⟨q', _, g7, _, _, g8, _⟩ := g6.own g2
        cases g7
        rw [upd_ne (ne i e q g1 g2 g3)]
        exact ⟨g4, g8⟩)
      (fun q u g1 g2 => by
        obtain ⟨j, hj⟩ := List.getElem?_of_mem g1
        have hj' : j < s'.box.length := by rw [← q2.bl]; exact (List.getElem?_eq_some_iff.mp hj).1
        obtain ⟨q', _, g3, _, _, _, g5⟩ := q2.bx j s'.box[j] (by simp [hj'])
        rw [hj] at g3; cases g3
        have : q ≠ p := fun e => nb (e ▸ g1)
        rw [upd_ne this]
        exact ⟨g2, g5⟩)
    refine k F2 B2 _ _ q1 r6 ⟨⟨p, [(kk, w)], rfl, upd_same, ?_, wn, fp, nb⟩, fun _ i e g1 g2 g3 => q3.2 rfl i e g1 g2 g3⟩
    show RepK X.K fa F2 B2 [(kk, y.frz)] [(kk, w)]
    unfold RepK
    exact ⟨w, [], rfl, ry, by unfold RepK; rfl⟩
end Q
end

section
set_option maxRecDepth 100000
set_option maxHeartbeats 4000000
/-! QCmp2: expressions from the text. -/
namespace Q
open PySem PySem.Spec PyProof.Rows L2

theorem band1 {a b : Bool} (h : (a && b) = true) : a = true := (Bool.and_eq_true_iff.mp h).1
theorem band2 {a b : Bool} (h : (a && b) = true) : b = true := (Bool.and_eq_true_iff.mp h).2
theorem evA_len {c : Env} : ∀ (e : E) (s s' : S) (xs : List D), evA c e s = .ok xs s' → xs.length = lenC e
  | .nil, s, s', xs, h => by unfold evA at h; cases h; rfl
  | .cons e es, s, s', xs, h => by
    unfold evA at h
    obtain ⟨x, s1, h1, h2⟩ := bnd_inv h
    obtain ⟨ys, s2, h3, h4⟩ := bnd_inv h2
    cases h4
    simp [lenC, evA_len es s1 _ ys h3]
  | .var _, s, s', xs, h => by unfold evA at h; cases h
  | .cst _, s, s', xs, h => by unfold evA at h; cases h
  | .glb _, s, s', xs, h => by unfold evA at h; cases h
  | .fnc _, s, s', xs, h => by unfold evA at h; cases h
  | .bin _ _ _, s, s', xs, h => by unfold evA at h; cases h
  | .cmp _ _ _, s, s', xs, h => by unfold evA at h; cases h
  | .chn _ _ _ _ _, s, s', xs, h => by unfold evA at h; cases h
  | .and _ _, s, s', xs, h => by unfold evA at h; cases h
  | .or _ _, s, s', xs, h => by unfold evA at h; cases h
  | .not _, s, s', xs, h => by unfold evA at h; cases h
  | .neg _, s, s', xs, h => by unfold evA at h; cases h
  | .ite _ _ _, s, s', xs, h => by unfold evA at h; cases h
  | .tup _, s, s', xs, h => by unfold evA at h; cases h
  | .lst _, s, s', xs, h => by unfold evA at h; cases h
  | .bxl _, s, s', xs, h => by unfold evA at h; cases h
  | .dic _, s, s', xs, h => by unfold evA at h; cases h
  | .idx _ _, s, s', xs, h => by unfold evA at h; cases h
  | .ixv _ _, s, s', xs, h => by unfold evA at h; cases h
  | .slc _ _ _, s, s', xs, h => by unfold evA at h; cases h
  | .slv _ _ _, s, s', xs, h => by unfold evA at h; cases h
  | .call _ _, s, s', xs, h => by unfold evA at h; cases h
  | .blt _ _, s, s', xs, h => by unfold evA at h; cases h
  | .rgl _ _, s, s', xs, h => by unfold evA at h; cases h
  | .lenv _, s, s', xs, h => by unfold evA at h; cases h
  | .isi _ _, s, s', xs, h => by unfold evA at h; cases h
  | .mut _ _ _, s, s', xs, h => by unfold evA at h; cases h
  | .lc _ _ _ _ _, s, s', xs, h => by unfold evA at h; cases h
  | .rng1 _, s, s', xs, h => by unfold evA at h; cases h
  | .rng2 _ _, s, s', xs, h => by unfold evA at h; cases h
  | .zip _ _, s, s', xs, h => by unfold evA at h; cases h
  | .enm _, s, s', xs, h => by unfold evA at h; cases h
  | .its _, s, s', xs, h => by unfold evA at h; cases h
  | .prt _, s, s', xs, h => by unfold evA at h; cases h
  | .tru _, s, s', xs, h => by unfold evA at h; cases h
  | .trv _, s, s', xs, h => by unfold evA at h; cases h
theorem mt_mut {X : Cx} : MtR X "list.append" (rMut X.K .append) ∧ MtR X "list.extend" (rMut X.K .extend) ∧ MtR X "list.pop" (rMut X.K .pop) :=
  ⟨mt_append, mt_extend, MtR.or mt_pop mt_popAt⟩
def mthOf (f : Str) : Option Mth := if f = "append" then some .append else if f = "extend" then some .extend else if f = "pop" then some .pop else if f = "count" then some .count else none
theorem pe_mutA {X : Cx} {o e : Expr} {to : TE} {t : TA} {f : Str} {m : Mth} {apos cpos : Pos} (hu : X.A.units + 64 < cLine) (hm : mthOf f = some m) (ho : PE X o to) (ha : PA X [e] t) (hb : attributeBase o f X.env (eval o X.env) = eval o X.env) (hl : (apos.endLine == cpos.line) = true) (hs : nstar e = true) :
    PE X (.Call (.Attribute o f apos) [e] [] cpos) (tBM X.K "list" (rMut X.K m) to t) := by
  have few : ((backTo cpos (starEach [e] X.env)).all (fun x => !x.1) && (backToKw cpos (keywordEach [] X.env)).all (fun x => x.1.isSome) && decide (([e] : List Expr).length + ([] : List Keyword).length + (if ([] : List Keyword).isEmpty then 0 else 1) < 30)) = true := by
    rw [star_of hs]; rfl
  unfold mthOf at hm
  by_cases h1 : f = "append"
  · rw [if_pos h1] at hm; cases hm; subst h1
    exact pe_bm F.plainAttrs_list F.slot_list_append F.type_list_append mt_mut.1 ho ha hb few hl (star_of hs _ _) rfl
  rw [if_neg h1] at hm
  by_cases h2 : f = "extend"
  · rw [if_pos h2] at hm; cases hm; subst h2
    exact pe_bm F.plainAttrs_list F.slot_list_extend F.type_list_extend mt_mut.2.1 ho ha hb few hl (star_of hs _ _) rfl
  rw [if_neg h2] at hm
  by_cases h3 : f = "pop"
  · rw [if_pos h3] at hm; cases hm; subst h3
    exact pe_bm F.plainAttrs_list F.slot_list_pop F.type_list_pop mt_mut.2.2 ho ha hb few hl (star_of hs _ _) rfl
  rw [if_neg h3] at hm
  by_cases h4 : f = "count"
  · rw [if_pos h4] at hm; cases hm; subst h4
    exact pe_bm F.plainAttrs_list F.slot_list_count F.type_list_count (mt_cntD hu) ho ha hb few hl (star_of hs _ _) rfl
  rw [if_neg h4] at hm
  cases hm
theorem pe_mutP {X : Cx} {o : Expr} {to : TE} {apos cpos : Pos} (ho : PE X o to) (hb : attributeBase o "pop" X.env (eval o X.env) = eval o X.env) (hl : (apos.endLine == cpos.line) = true) :
    PE X (.Call (.Attribute o "pop" apos) [] [] cpos) (tBM0 X.K "list" (rMut X.K .pop) to) := pe_bm0 F.plainAttrs_list F.slot_list_pop F.type_list_pop mt_mut.2.2 ho hb hl
/-- the names of a comprehension's own, with their places -/
def ownOf (N : List Str) : NK → Option (List (Str × Nat))
  | [] => some []
  | (n, k) :: r => match ownOf N r with
    | none => none
    | some l => if (k == .local || k == .cell) = true then match slotOf N n with
        | some ⟨i, _⟩ => some ((n, i) :: l)
        | none => some l
      else some l
theorem blk_ok {X : Cx} {fa : Nat → Option Addr} {c : Env} {x : Ctx} (o : Ok X fa c x) {scope : Scope} {own : List (Str × Nat)} (h : blkC x.N { scope with names := x.sc } scope own = true) : BlkOk X.N X.env.scope scope own := by
  refine blkOk_by ?_
  rw [o.hN]
  have : blkC x.N X.env.scope scope own = blkC x.N { scope with names := x.sc } scope own := by
    unfold blkC
    rw [o.sc]
  rw [this]; exact h
theorem blk_kind {N : List Str} {sc scope : Scope} {own : List (Str × Nat)} (h : blkC N sc scope own = true) : scope.kind = .function := (blkOk_by h).kind
structure OutL (x : Ctx) (elt tg iter : Expr) (ifs : List Expr) (scope : Scope) where
  e1 : E
  e2 : E
  e3 : E
  e4 : E
  own : List (Str × Nat)
  hi : ∀ X fa c, Ok X fa c x → PI X tg iter (wI X.K fa c e3)
  ok : blkC x.N { scope with names := x.sc } scope own = true
  hv : ∀ i, i ∈ tgv e2 → i ∈ own.map (·.2)
  hg : ∀ X fa c, Ok X fa c (x.blk scope) → PG X tg (gA X.K fa e2)
  ht : ∀ X fa c, Ok X fa c (x.blk scope) → PTs X ifs (tT X.K fa c e4)
  he : ∀ X fa c, Ok X fa c (x.blk scope) → PE X elt (tE X.K fa c e1)
  hs : nset iter = true
def OutL.ir {x : Ctx} {elt tg iter : Expr} {ifs : List Expr} {scope : Scope} (r : OutL x elt tg iter ifs scope) : E := .lc r.e1 r.e2 r.e3 r.e4 (r.own.map (·.2))
def mkL {x : Ctx} {elt tg iter : Expr} {ifs : List Expr} {scope : Scope} (i : OutI x tg iter) (g : OutG (x.blk scope) tg) (t : OutIf (x.blk scope) ifs) (e : OutE (x.blk scope) elt) : Option (OutL x elt tg iter ifs scope) := match ownOf x.N scope.names with
  | none => none
  | some own => if h1 : blkC x.N { scope with names := x.sc } scope own = true then if h2 : (tgv g.ir).all (fun i => (own.map (·.2)).contains i) = true then if h3 : nset iter = true then
    some ⟨e.ir, g.ir, i.ir, t.ir, own, i.ok, h1, fun j hj => by
      have := List.all_eq_true.mp h2 j hj
      simpa using this, g.ok, t.ok, e.ok, h3⟩ else none else none else none
theorem l_ok {x : Ctx} {elt tg iter : Expr} {ifs : List Expr} {scope : Scope} {pos : Pos} (r : OutL x elt tg iter ifs scope) {X : Cx} {fa : Nat → Option Addr} {c : Env} (o : Ok X fa c x) : PE X (.ListComp elt [⟨tg, iter, ifs, 0⟩] scope pos) (tE X.K fa c r.ir) :=
  e_lc o.calm (by rw [o.hN]; exact o.nd) (r.hi X fa c o) (blk_ok o r.ok) r.hv (fun s H C cl fp => r.hg _ fa c (o.blk (blk_kind r.ok) s H C cl fp)) (fun s H C cl fp => r.ht _ fa c (o.blk (blk_kind r.ok) s H C cl fp)) (fun s H C cl fp => r.he _ fa c (o.blk (blk_kind r.ok) s H C cl fp)) (set_of r.hs _)
theorem c_call {x : Ctx} {f : Str} {k np : Nat} {p pos : Pos} {e : Expr} {es : List Expr} (h : (glB x.sc f && okn f) = true) (hf : x.fns.lookup f = some (k, np)) (r : OutA x (e :: es)) (hl : (e :: es).length = np) {X : Cx} {fa : Nat → Option Addr} {c : Env} (o : Ok X fa c x) :
    PE X (.Call (.Name f p) (e :: es) [] pos) (tE X.K fa c (.call k r.ir)) := by
  obtain ⟨a, fd, kk, ps, h1, h2, h3, h4, h5, h6⟩ := o.fns f k np hf
  have ns := r.ns
  simp only [List.all_cons, Bool.and_eq_true] at ns
  exact e_call (pe_call h4 h5 (gl_ok o (band1 h)) h1 h3 h6 .nil pass0 (r.ok X fa c o) (okn1 (band2 h)) (star_of ns.1 _ _) (stars_of ns.2 _ _)) fun s s' xs q => by rw [evA_len _ _ _ _ q, r.len, hl]
theorem c_call0 {x : Ctx} {f : Str} {k : Nat} {p pos : Pos} (h : (glB x.sc f && okn f) = true) (hf : x.fns.lookup f = some (k, 0)) {X : Cx} {fa : Nat → Option Addr} {c : Env} (o : Ok X fa c x) :
    PE X (.Call (.Name f p) [] [] pos) (tE X.K fa c (.call k .nil)) := by
  obtain ⟨a, fd, kk, ps, h1, h2, h3, h4, h5, h6⟩ := o.fns f k 0 hf
  refine e_call (np := 0) (E := L2.E0) (pe_w (pe_call0 h4 h5 (gl_ok o (band1 h)) h1 h3 h6 .nil pass0 (okn1 (band2 h))) fun σ H Q q => ?_) fun s s' xs q => by unfold evA at q; cases q; rfl
  obtain ⟨W, F, B, s, ds, s', r, q1, q2⟩ := q
  unfold evA at q1; cases q1
  exact q2 F B H [] Stp.refl r Reps.nil
theorem c_glb {x : Ctx} {n : Str} {k : Nat} {pos : Pos} (h : (glB x.sc n && okn n) = true) (hg : x.gls.lookup n = some k) {X : Cx} {fa : Nat → Option Addr} {c : Env} (o : Ok X fa c x) : PE X (.Name n pos) (tE X.K fa c (.glb k)) := by
  obtain ⟨u, v, d, h1, h2, h3, h4⟩ := o.gls n k hg
  exact e_glb (pe_glob (gl_ok o (band1 h)) h1 h2 (okn1 (band2 h))) h3 h4
theorem c_blt {x : Ctx} {f : Str} {b : Blt} {p pos : Pos} {e : Expr} {es : List Expr} (h : fr x f = true) (hb : bltOf f = some b) (r : OutA x (e :: es)) {X : Cx} {fa : Nat → Option Addr} {c : Env} (o : Ok X fa c x) :
    PE X (.Call (.Name f p) (e :: es) [] pos) (tE X.K fa c (.blt b r.ir)) := by
  have ns := r.ns
  simp only [List.all_cons, Bool.and_eq_true] at ns
  exact e_blt b (pe_callV (call_rBlt o.calm b) (fr_g o h) (fr_m o h) (bltOf_ok hb) (r.ok X fa c o) (okn3 (fr_n h)) (okn1 (fr_n h)) (star_of ns.1 _ _) (stars_of ns.2 _ _))
theorem c_lenv {x : Ctx} {n : Str} {p p2 pos : Pos} (h : fr x "len" = true) (r : OutV x n) {X : Cx} {fa : Nat → Option Addr} {c : Env} (o : Ok X fa c x) :
    PE X (.Call (.Name "len" p) [.Name n p2] [] pos) (tE X.K fa c (.lenv r.i)) :=
  e_lenv (pe_callV (b := .len) (call_rBlt o.calm .len) (fr_g o h) (fr_m o h) (bltOf_ok (by decide +kernel)) (pa_cons (r.ok X fa c o p2) pa_nil (star_of rfl _ _)) (okn3 (fr_n h)) (okn1 (fr_n h)) (star_of rfl _ _) rfl)
theorem c_isi1 {x : Ctx} {p pos : Pos} {a b : Expr} (h : fr x "isinstance" = true) (ha : nstar a = true) (r : OutE x a) (t : OutTy x b) {X : Cx} {fa : Nat → Option Addr} {c : Env} (o : Ok X fa c x) :
    PE X (.Call (.Name "isinstance" p) [a, b] [] pos) (tE X.K fa c (.isi r.ir [t.t])) :=
  e_isi1 (pe_callB call_isi (fr_g o h) (fr_m o h) boot_isinstance (pa_cons (r.ok X fa c o) (pa_cons (t.ok X fa c o) pa_nil (star_of t.ns _ _)) (star_of ha _ _)) (okn3 (fr_n h)) (okn1 (fr_n h)) (star_of ha _ _) (stars_of (by simp [t.ns]) _ _))
theorem c_isiT {x : Ctx} {p pos p2 : Pos} {n : Nat} {a : Expr} {bs : List Expr} (h : fr x "isinstance" = true) (ha : nstar a = true) (r : OutE x a) (t : OutTys x bs) (hl : t.ts.length ≤ 10) {X : Cx} {fa : Nat → Option Addr} {c : Env} (o : Ok X fa c x) :
    PE X (.Call (.Name "isinstance" p) [a, .Tuple bs n p2] [] pos) (tE X.K fa c (.isi r.ir t.ts)) :=
  e_isiT hl (pe_callB call_isiT (fr_g o h) (fr_m o h) boot_isinstance (pa_cons (r.ok X fa c o) (pa_cons (pe_tup (t.ok X fa c o)) pa_nil (star_of rfl _ _)) (star_of ha _ _)) (okn3 (fr_n h)) (okn1 (fr_n h)) (star_of ha _ _) rfl)
theorem c_rng1 {x : Ctx} {p pos : Pos} {tg a : Expr} (h : fr x "range" = true) (ha : nstar a = true) (r : OutE x a) {X : Cx} {fa : Nat → Option Addr} {c : Env} (o : Ok X fa c x) : PI X tg (.Call (.Name "range" p) [a] [] pos) (wI X.K fa c (.rng1 r.ir)) :=
  i_rng1 (pi_range1 (fr_g o h) (fr_m o h) (a_cons (r.ok X fa c o) a_nil (star_of ha _ _)) (star_of ha _ _))
theorem c_rng2 {x : Ctx} {p pos : Pos} {tg a b : Expr} (h : fr x "range" = true) (ha : nstar a = true) (hb : nstar b = true) (r : OutE x a) (q : OutE x b) {X : Cx} {fa : Nat → Option Addr} {c : Env} (o : Ok X fa c x) : PI X tg (.Call (.Name "range" p) [a, b] [] pos) (wI X.K fa c (.rng2 r.ir q.ir)) :=
  i_rng2 (pi_range2 (fr_g o h) (fr_m o h) (a_cons (r.ok X fa c o) (a_cons (q.ok X fa c o) a_nil (star_of hb _ _)) (star_of ha _ _)) (by rw [star_of ha, star_of hb]; rfl) (star_of hb _ _))
theorem c_zip {x : Ctx} {p pos tpos : Pos} {elts : List Expr} {kk : Nat} {a b : Expr} (h : fr x "zip" = true) (ha : nstar a = true) (hb : nstar b = true) (r : OutE x a) (q : OutE x b) {X : Cx} {fa : Nat → Option Addr} {c : Env} (o : Ok X fa c x) :
    PI X (.Tuple elts kk tpos) (.Call (.Name "zip" p) [a, b] [] pos) (wI X.K fa c (.zip r.ir q.ir)) :=
  i_zip (pi_zipB (fr_g o h) (fr_m o h) (a_cons (r.ok X fa c o) (a_cons (q.ok X fa c o) a_nil (star_of hb _ _)) (star_of ha _ _)) (star_of ha _ _) (stars_of (by simp [hb]) _ _))
theorem c_enum {x : Ctx} {p pos tpos : Pos} {elts : List Expr} {kk : Nat} {a : Expr} (h : fr x "enumerate" = true) (ha : nstar a = true) (r : OutE x a) {X : Cx} {fa : Nat → Option Addr} {c : Env} (o : Ok X fa c x) :
    PI X (.Tuple elts kk tpos) (.Call (.Name "enumerate" p) [a] [] pos) (wI X.K fa c (.enm r.ir)) :=
  i_enum (pi_enumB (fr_g o h) (fr_m o h) (a_cons (r.ok X fa c o) a_nil (star_of ha _ _)) (star_of ha _ _))
theorem c_mut {x : Ctx} {n f : Str} {m : Mth} {p apos pos : Pos} {a : Expr} (hm : mthOf f = some m) (hl : (apos.endLine == pos.line) = true) (ha : nstar a = true) (v : OutV x n) (r : OutE x a) {X : Cx} {fa : Nat → Option Addr} {c : Env} (o : Ok X fa c x) :
    PE X (.Call (.Attribute (.Name n p) f apos) [a] [] pos) (tE X.K fa c (.mut m v.i (.cons r.ir .nil))) :=
  e_mut (pe_mutA o.hu hm (v.ok X fa c o p) (a_cons (r.ok X fa c o) a_nil (star_of ha _ _)) rfl hl ha)
theorem c_pop {x : Ctx} {n : Str} {p apos pos : Pos} (hl : (apos.endLine == pos.line) = true) (v : OutV x n) {X : Cx} {fa : Nat → Option Addr} {c : Env} (o : Ok X fa c x) :
    PE X (.Call (.Attribute (.Name n p) "pop" apos) [] [] pos) (tE X.K fa c (.mut .pop v.i .nil)) := e_mut0 (pe_mutP (v.ok X fa c o p) rfl hl)
theorem pts_yes {x : Ctx} {X : Cx} {fa : Nat → Option Addr} {c : Env} : PTs X [] (tT X.K fa c .nil) := ⟨fun pins s σ H Q I h => pts_nil.run pins s σ H Q I (by
  obtain ⟨W, F, B, s, d, s', r, q, k⟩ := h
  unfold evT at q; cases q
  exact k F B H Stp.refl r)⟩
structure OutRg (x : Ctx) (e : Expr) where
  ir : E
  lst : fr x "list" = true → ∀ X fa c, Ok X fa c x → ∀ p pos, PE X (.Call (.Name "list" p) [e] [] pos) (tE X.K fa c (.rgl false ir))
  tup : fr x "tuple" = true → ∀ X fa c, Ok X fa c x → ∀ p pos, PE X (.Call (.Name "tuple" p) [e] [] pos) (tE X.K fa c (.rgl true ir))
def mkRg1 {x : Ctx} {a : Expr} {p pos : Pos} (h : fr x "range" = true) (ha : nstar a = true) (r : OutE x a) : OutRg x (.Call (.Name "range" p) [a] [] pos) where
  ir := .rng1 r.ir
  lst := fun hl X fa c o _ _ => e_rgl1 (t := false) (pe_listRg o.calm (fr_g o hl) (fr_m o hl) (prg_1 (fr_g o h) (fr_m o h) (r.ok X fa c o) (star_of ha _ _)) (star_of rfl _ _))
  tup := fun hl X fa c o _ _ => e_rgl1 (t := true) (pe_tupRg o.calm (fr_g o hl) (fr_m o hl) (prg_1 (fr_g o h) (fr_m o h) (r.ok X fa c o) (star_of ha _ _)) (star_of rfl _ _))
def mkRg2 {x : Ctx} {a b : Expr} {p pos : Pos} (h : fr x "range" = true) (ha : nstar a = true) (hb : nstar b = true) (r : OutE x a) (q : OutE x b) : OutRg x (.Call (.Name "range" p) [a, b] [] pos) where
  ir := .rng2 r.ir q.ir
  lst := fun hl X fa c o _ _ => e_rgl2 (t := false) (pe_listRg o.calm (fr_g o hl) (fr_m o hl) (prg_2 (fr_g o h) (fr_m o h) (r.ok X fa c o) (q.ok X fa c o) (star_of ha _ _) (star_of hb _ _) (by rw [star_of hb]; rfl)) (star_of rfl _ _))
  tup := fun hl X fa c o _ _ => e_rgl2 (t := true) (pe_tupRg o.calm (fr_g o hl) (fr_m o hl) (prg_2 (fr_g o h) (fr_m o h) (r.ok X fa c o) (q.ok X fa c o) (star_of ha _ _) (star_of hb _ _) (by rw [star_of hb]; rfl)) (star_of rfl _ _))
mutual
def cRg : Nat → (x : Ctx) → (e : Expr) → Option (OutRg x e)
  | 0, _, _ => none
  | m + 1, x, .Call (.Name f p) [a] [] pos => if h : (fr x f && nstar a) = true then if h1 : f = "range" then match cE m x a with
    | some r => some (by subst h1; exact mkRg1 (band1 h) (band2 h) r)
    | none => none
    else none else none
  | m + 1, x, .Call (.Name f p) [a, b] [] pos => if h : (fr x f && (nstar a && nstar b)) = true then if h1 : f = "range" then match cE m x a, cE m x b with
    | some r, some q => some (by subst h1; exact mkRg2 (band1 h) (band1 (band2 h)) (band2 (band2 h)) r q)
    | _, _ => none
    else none else none
  | _, _, _ => none
def cE : Nat → (x : Ctx) → (e : Expr) → Option (OutE x e)
  | 0, _, _ => none
  | m + 1, x, .Constant (.int i) j pos => some ⟨.cst (.int i), fun X fa c o => e_cst pe_int fun F B => of_int i⟩
  | m + 1, x, .Constant (.bool i) j pos => some ⟨.cst (.bl i), fun X fa c o => e_cst pe_bl fun F B => of_bl i⟩
  | m + 1, x, .Constant .none j pos => some ⟨.cst .non, fun X fa c o => e_cst pe_non fun F B => of_non⟩
  | m + 1, x, .Constant (.str i) j pos => some ⟨.cst (.str i), fun X fa c o => e_cst pe_str fun F B => of_str i⟩
  | m + 1, x, .Name n pos => match cV x n with
    | some r => some ⟨.var r.i, fun X fa c o => e_var (r.ok X fa c o pos)⟩
    | none => if h : (glB x.sc n && okn n) = true then match hg : x.gls.lookup n with
      | some k => some ⟨.glb k, fun X fa c o => c_glb h hg o⟩
      | none => none
      else none
  | m + 1, x, .BinOp a op b pos => match hb : bOf op with
    | some bo => match cE m x a, cE m x b with
      | some ra, some rb => some ⟨.bin bo ra.ir rb.ir, fun X fa c o => by rw [bOf_ok hb]; exact e_bin bo (ra.ok X fa c o) (rb.ok X fa c o)⟩
      | _, _ => none
    | none => none
  | m + 1, x, .Compare a [op] [b] pos => match hb : cOf op with
    | some co => if hm : behindInMarks op b = false then match cE m x a, cE m x b with
      | some ra, some rb => some ⟨.cmp co ra.ir rb.ir, fun X fa c o => by rw [cOf_ok hb] at hm ⊢; exact e_cmp o.hu co (ra.ok X fa c o) (rb.ok X fa c o) hm⟩
      | _, _ => none
      else none
    | none => none
  | m + 1, x, .Compare a [op, op2] [b, d] pos => match hb : cOf op, hb2 : cOf op2 with
    | some co, some co2 => if hm : lastMarks [op, op2] [b, d] = false then match cE m x a, cE m x b, cE m x d with
      | some ra, some rb, some rd => some ⟨.chn co co2 ra.ir rb.ir rd.ir, fun X fa c o => by rw [cOf_ok hb, cOf_ok hb2] at hm ⊢; exact e_chn o.hu co co2 (ra.ok X fa c o) (rb.ok X fa c o) (rd.ok X fa c o) hm⟩
      | _, _, _ => none
      else none
    | _, _ => none
  | m + 1, x, .BoolOp op [a] pos => match cE m x a with
    | some r => some ⟨r.ir, fun X fa c o => pe_one (r.ok X fa c o)⟩
    | none => none
  | m + 1, x, .BoolOp .And (a :: b :: es) pos => match cE m x a, cE m x (.BoolOp .And (b :: es) pos) with
    | some r, some q => some ⟨.and r.ir q.ir, fun X fa c o => e_and (r.ok X fa c o) (q.ok X fa c o)⟩
    | _, _ => none
  | m + 1, x, .BoolOp .Or (a :: b :: es) pos => match cE m x a, cE m x (.BoolOp .Or (b :: es) pos) with
    | some r, some q => some ⟨.or r.ir q.ir, fun X fa c o => e_or (r.ok X fa c o) (q.ok X fa c o)⟩
    | _, _ => none
  | m + 1, x, .UnaryOp .Not a pos => match cE m x a with
    | some r => some ⟨.not r.ir, fun X fa c o => e_not (r.ok X fa c o)⟩
    | none => none
  | m + 1, x, .UnaryOp .USub a pos => match cE m x a with
    | some r => some ⟨.neg r.ir, fun X fa c o => e_neg (r.ok X fa c o)⟩
    | none => none
  | m + 1, x, .IfExp d a b pos => match cT m x d, cE m x a, cE m x b with
    | some t, some r, some q => some ⟨.ite t.ir r.ir q.ir, fun X fa c o => e_ite (t.ok X fa c o) (r.ok X fa c o) (q.ok X fa c o)⟩
    | _, _, _ => none
  | m + 1, x, .Tuple es k pos => match cA m x es with
    | some r => some ⟨.tup r.ir, fun X fa c o => e_tup (r.ok X fa c o)⟩
    | none => none
  | m + 1, x, .List es pos => match cA m x es with
    | some r => some ⟨.lst r.ir, fun X fa c o => e_lst (r.ok X fa c o)⟩
    | none => none
  | m + 1, x, .Dict [] [] pos => some ⟨.dic .nil, fun X fa c o => e_dic0⟩
  | m + 1, x, .Dict [some a] [b] pos => match cE m x a, cE m x b with
    | some r, some q => some ⟨.dic (.cons r.ir (.cons q.ir .nil)), fun X fa c o => e_dic1 (r.ok X fa c o) (q.ok X fa c o)⟩
    | _, _ => none
  | m + 1, x, .Subscript a (.Slice lo hi none p2) pos => match cO m x lo, cO m x hi with
    | some l, some h => match a with
      | .Name n p => match cV x n with
        | some v => some ⟨.slv v.i l.ir h.ir, fun X fa c o => e_slv (v.ok X fa c o p) (l.ok X fa c o) (h.ok X fa c o)⟩
        | none => match cE m x (.Name n p) with
          | some r => some ⟨.slc r.ir l.ir h.ir, fun X fa c o => e_slc (r.ok X fa c o) (l.ok X fa c o) (h.ok X fa c o)⟩
          | none => none
      | a => match cE m x a with
        | some r => some ⟨.slc r.ir l.ir h.ir, fun X fa c o => e_slc (r.ok X fa c o) (l.ok X fa c o) (h.ok X fa c o)⟩
        | none => none
    | _, _ => none
  | m + 1, x, .Subscript a i pos => if hp : npix i = true then match cE m x i with
    | some q => match a with
      | .Name n p => match cV x n with
        | some v => some ⟨.ixv v.i q.ir, fun X fa c o => e_ixv (v.ok X fa c o p) (q.ok X fa c o) (plain_of hp)⟩
        | none => match cE m x (.Name n p) with
          | some r => some ⟨.idx r.ir q.ir, fun X fa c o => e_idx (r.ok X fa c o) (q.ok X fa c o) (plain_of hp)⟩
          | none => none
      | a => match cE m x a with
        | some r => some ⟨.idx r.ir q.ir, fun X fa c o => e_idx (r.ok X fa c o) (q.ok X fa c o) (plain_of hp)⟩
        | none => none
    | none => none
    else none
  | m + 1, x, .Call (.Name f p) [] [] pos => if h : (glB x.sc f && okn f) = true then match hf : x.fns.lookup f with
    | some (k, 0) => some ⟨.call k .nil, fun X fa c o => c_call0 h hf o⟩
    | _ => none
    else none
  | m + 1, x, .Call (.Name f p) (e :: es) [] pos => match hf : x.fns.lookup f with
    | some (k, np) => if h : (glB x.sc f && okn f) = true then if hl : (e :: es).length = np then match cA m x (e :: es) with
      | some r => some ⟨.call k r.ir, fun X fa c o => c_call h hf r hl o⟩
      | none => none
      else none else none
    | none => if h : fr x f = true then
      if h1 : f = "isinstance" then match e, es with
        | a, [.Tuple bs n p2] => if ha : nstar a = true then match cE m x a, cTys x bs with
          | some r, some t => if hl : t.ts.length ≤ 10 then some ⟨.isi r.ir t.ts, fun X fa c o => by subst h1; exact c_isiT h ha r t hl o⟩ else none
          | _, _ => none
          else none
        | a, [b] => if ha : nstar a = true then match cE m x a, cTy x b with
          | some r, some t => some ⟨.isi r.ir [t.t], fun X fa c o => by subst h1; exact c_isi1 h ha r t o⟩
          | _, _ => none
          else none
        | _, _ => none
      else if h2 : f = "len" then match e, es with
        | .Name n p2, [] => match cV x n with
          | some v => some ⟨.lenv v.i, fun X fa c o => by subst h2; exact c_lenv h v o⟩
          | none => match cA m x [.Name n p2] with
            | some r => some ⟨.blt .len r.ir, fun X fa c o => c_blt h (by subst h2; decide +kernel) r o⟩
            | none => none
        | e, es => match cA m x (e :: es) with
          | some r => some ⟨.blt .len r.ir, fun X fa c o => c_blt h (by subst h2; decide +kernel) r o⟩
          | none => none
      else match hb : bltOf f with
        | some b => match cA m x (e :: es) with
          | some r => some ⟨.blt b r.ir, fun X fa c o => c_blt h hb r o⟩
          | none => match es with
            | [] => match cRg m x e with
              | some r => if h3 : f = "list" then some ⟨.rgl false r.ir, fun X fa c o => by subst h3; exact r.lst h X fa c o _ _⟩ else if h4 : f = "tuple" then some ⟨.rgl true r.ir, fun X fa c o => by subst h4; exact r.tup h X fa c o _ _⟩ else none
              | none => none
            | _ => none
        | none => none
      else none
  | m + 1, x, .Call (.Attribute (.Name n p) f apos) [] [] pos => if h : f = "pop" then if hl : (apos.endLine == pos.line) = true then match cV x n with
    | some v => some ⟨.mut .pop v.i .nil, fun X fa c o => by subst h; exact c_pop hl v o⟩
    | none => none
    else none else none
  | m + 1, x, .Call (.Attribute (.Name n p) f apos) [a] [] pos => match hm : mthOf f with
    | some mt => if hl : (apos.endLine == pos.line) = true then if ha : nstar a = true then match cV x n, cE m x a with
      | some v, some r => some ⟨.mut mt v.i (.cons r.ir .nil), fun X fa c o => c_mut hm hl ha v r o⟩
      | _, _ => none
      else none else none
    | none => none
  | m + 1, x, .ListComp elt [⟨tg, iter, ifs, 0⟩] scope pos => match cL m x elt tg iter ifs scope with
    | some r => some ⟨r.ir, fun X fa c o => l_ok r o⟩
    | none => none
  | _, _, _ => none
def cL : Nat → (x : Ctx) → (elt tg iter : Expr) → (ifs : List Expr) → (scope : Scope) → Option (OutL x elt tg iter ifs scope)
  | 0, _, _, _, _, _, _ => none
  | m + 1, x, elt, tg, iter, ifs, scope => match cI m x tg iter, cG m (x.blk scope) tg, cIf m (x.blk scope) ifs, cE m (x.blk scope) elt with
    | some i, some g, some t, some e => mkL i g t e
    | _, _, _, _ => none
def cO : Nat → (x : Ctx) → (e : Option Expr) → Option (OutO x e)
  | 0, _, _ => none
  | m + 1, x, none => some ⟨.nil, fun X fa c o => o_none⟩
  | m + 1, x, some e => match cE m x e with
    | some r => some ⟨.prt r.ir, fun X fa c o => o_some (r.ok X fa c o)⟩
    | none => none
def cA : Nat → (x : Ctx) → (es : List Expr) → Option (OutA x es)
  | 0, _, _ => none
  | m + 1, x, [] => some ⟨.nil, fun X fa c o => a_nil, rfl, rfl⟩
  | m + 1, x, e :: es => if h : nstar e = true then match cE m x e, cA m x es with
    | some r, some q => some ⟨.cons r.ir q.ir, fun X fa c o => a_cons (r.ok X fa c o) (q.ok X fa c o) (star_of h _ _), by simp [h, q.ns], by simp [lenC, q.len]⟩
    | _, _ => none
    else none
def cIf : Nat → (x : Ctx) → (es : List Expr) → Option (OutIf x es)
  | 0, _, _ => none
  | m + 1, x, [] => some ⟨.nil, fun X fa c o => pts_yes (x := x)⟩
  | m + 1, x, [e] => match cT m x e with
    | some r => some ⟨r.ir, fun X fa c o => pts_one (r.ok X fa c o)⟩
    | none => none
  | _, _, _ => none
def cT : Nat → (x : Ctx) → (e : Expr) → Option (OutT x e)
  | 0, _, _ => none
  | m + 1, x, .UnaryOp .Not a pos => match cT m x a with
    | some r => some ⟨.not r.ir, fun X fa c o => t_not (r.ok X fa c o)⟩
    | none => none
  | m + 1, x, .BoolOp op es pos => match cW m x (.BoolOp op es pos) with
    | some r => some ⟨r.ir, fun X fa c o => (r.ok X fa c o).pt⟩
    | none => none
  | m + 1, x, .Compare a [op] [b] pos => match hb : cOf op with
    | some co => if hm : behindInMarks op b = false then match cE m x a, cE m x b with
      | some ra, some rb => some ⟨.tru (.cmp co ra.ir rb.ir), fun X fa c o => by rw [cOf_ok hb] at hm ⊢; exact t_cmp o.hu co (ra.ok X fa c o) (rb.ok X fa c o) hm⟩
      | _, _ => none
      else none
    | none => none
  | m + 1, x, .Compare a [op, op2] [b, d] pos => match hb : cOf op, hb2 : cOf op2 with
    | some co, some co2 => if hm : lastMarks [op, op2] [b, d] = false then match cE m x a, cE m x b, cE m x d with
      | some ra, some rb, some rd => some ⟨.tru (.chn co co2 ra.ir rb.ir rd.ir), fun X fa c o => by rw [cOf_ok hb, cOf_ok hb2] at hm ⊢; exact t_chn o.hu co co2 (ra.ok X fa c o) (rb.ok X fa c o) (rd.ok X fa c o) hm⟩
      | _, _, _ => none
      else none
    | _, _ => none
  | m + 1, x, .Name n pos => match cV x n with
    | some v => some ⟨.trv v.i, fun X fa c o => t_trv (v.ok X fa c o pos)⟩
    | none => match cE m x (.Name n pos) with
      | some r => some ⟨.tru r.ir, fun X fa c o => t_tru (r.ok X fa c o) (tst_of rfl _)⟩
      | none => none
  | m + 1, x, e => if h : ntst e = true then match cE m x e with
    | some r => some ⟨.tru r.ir, fun X fa c o => t_tru (r.ok X fa c o) (tst_of h _)⟩
    | none => none
    else none
def cW : Nat → (x : Ctx) → (e : Expr) → Option (OutW x e)
  | 0, _, _ => none
  | m + 1, x, .BoolOp .And [a] pos => match cT m x a with
    | some r => some ⟨r.ir, fun X fa c o => pw_and1 (r.ok X fa c o)⟩
    | none => none
  | m + 1, x, .BoolOp .Or [a] pos => match cT m x a with
    | some r => some ⟨r.ir, fun X fa c o => pw_or1 (r.ok X fa c o)⟩
    | none => none
  | m + 1, x, .BoolOp .And (a :: b :: es) pos => match cT m x a, cW m x (.BoolOp .And (b :: es) pos) with
    | some r, some q => some ⟨.and r.ir q.ir, fun X fa c o => t_and (r.ok X fa c o) (q.ok X fa c o)⟩
    | _, _ => none
  | m + 1, x, .BoolOp .Or (a :: b :: es) pos => match cT m x a, cW m x (.BoolOp .Or (b :: es) pos) with
    | some r, some q => some ⟨.or r.ir q.ir, fun X fa c o => t_or (r.ok X fa c o) (q.ok X fa c o)⟩
    | _, _ => none
  | _, _, _ => none
def cI : Nat → (x : Ctx) → (tg e : Expr) → Option (OutI x tg e)
  | 0, _, _, _ => none
  | m + 1, x, tg, .Call (.Name f p) [a] [] pos => if h : (fr x f && nstar a) = true then if h1 : f = "range" then match cE m x a with
        | some r => some ⟨.rng1 r.ir, fun X fa c o => by subst h1; exact c_rng1 (band1 h) (band2 h) r o⟩
        | none => none
        else if h2 : f = "enumerate" then match tg with
          | .Tuple elts kk tpos => match cE m x a with
            | some r => some ⟨.enm r.ir, fun X fa c o => by subst h2; exact c_enum (band1 h) (band2 h) r o⟩
            | none => none
          | _ => none
        else cJ m x tg (.Call (.Name f p) [a] [] pos) else cJ m x tg (.Call (.Name f p) [a] [] pos)
  | m + 1, x, tg, .Call (.Name f p) [a, b] [] pos => if h : (fr x f && (nstar a && nstar b)) = true then if h1 : f = "range" then match cE m x a, cE m x b with
        | some r, some q => some ⟨.rng2 r.ir q.ir, fun X fa c o => by subst h1; exact c_rng2 (band1 h) (band1 (band2 h)) (band2 (band2 h)) r q o⟩
        | _, _ => none
        else if h2 : f = "zip" then match tg with
          | .Tuple elts kk tpos => match cE m x a, cE m x b with
            | some r, some q => some ⟨.zip r.ir q.ir, fun X fa c o => by subst h2; exact c_zip (band1 h) (band1 (band2 h)) (band2 (band2 h)) r q o⟩
            | _, _ => none
          | _ => none
        else cJ m x tg (.Call (.Name f p) [a, b] [] pos) else cJ m x tg (.Call (.Name f p) [a, b] [] pos)
  | m + 1, x, tg, e => cJ m x tg e
def cJ : Nat → (x : Ctx) → (tg e : Expr) → Option (OutI x tg e)
  | 0, _, _, _ => none
  | m + 1, x, tg, e => match cE m x e with
    | some r => some ⟨.its r.ir, fun X fa c o => i_its (r.ok X fa c o)⟩
    | none => none
end
end Q
end

section
set_option maxRecDepth 100000
set_option maxHeartbeats 4000000
/-! QCmp3: statements from the text. -/
namespace Q
open PySem PySem.Spec PyProof.Rows L2

structure OkS (X : Cx) (fa : Nat → Option Addr) (c : Env) (x : Ctx) : Prop where
  ok : Ok X fa c x
  hp : PassesOwn (model X.prog X.w) X.A X.env X.xe
theorem OkS.bk {X : Cx} {fa : Nat → Option Addr} {c : Env} {x : Ctx} (o : OkS X fa c x) : X.env.blockKind = .function := by
  unfold PySem.Env.blockKind
  rw [o.ok.kind]; rfl
structure OutS (x : Ctx) (st : Stmt) where
  ir : St
  ok : ∀ X fa c L, OkS X fa c x → PS X st (tS X.K fa c L ir)
structure OutSs (x : Ctx) (st : List Stmt) where
  ir : St
  ok : ∀ X fa c L, OkS X fa c x → PSs X st (tS X.K fa c L ir)
/-! ### a list that is a box -/
section
variable {K : PySem.W.Frag} {fa : Nat → Option Addr} {W F : Hp} {B : List Addr} {s : S} {σ : L2.St} {H : Hp}
theorem Rel.newB {p : Addr} {xs : List D} {vs : List V} (r : Rel K fa W F B s σ H) (n : H p = none) (q : Reps K fa F B xs vs) :
    Stp W F B F (B ++ [p]) ∧ Rel K fa W F (B ++ [p]) { s with box := s.box ++ [xs] } σ (upd H p (.lst vs)) := by
  have st : Stp W F B F (B ++ [p]) := ⟨Ex.refl _, fun _ _ h => .inl h, [p], rfl⟩
  have nw : W p = none := r.ew.free n
  have nf : F p = none := r.ef.free n
  have nb := r.notB n
  refine ⟨st, r.ew.mut nw, r.ef.mut nf, r.len, fun i d h => ?_, r.apart, by simp [r.bl], fun k zs h => ?_, ?_⟩
  · obtain ⟨v, h1, h2⟩ := r.slot i d h
    refine ⟨v, h1, h2.mono st.ex st.bs (fun a o q1 q2 q3 => ?_) (fun _ _ _ z => z) (fun a q1 q2 q3 => ?_)⟩
    · have : a ≠ p := ne_of_none q3 n
      rw [upd_ne this]; exact q3
    · obtain ⟨a', u, b1, b2, _⟩ := h2.own q1
      rw [q2] at b1; cases b1
      have : a ≠ p := ne_of_none b2 n
      simp [q3, this]
  · by_cases c : k < s.box.length
    · have h' : s.box[k]? = some zs := by
        have : (s.box ++ [xs])[k]? = some zs := h
        rw [List.getElem?_append_left c] at this; exact this
      obtain ⟨a, us, b1, b2, b3, b4, b5⟩ := r.bx k zs h'
      have ne : a ≠ p := ne_of_none b2 n
      refine ⟨a, us, ?_, by rw [upd_ne ne]; exact b2, Reps.mono st.ex st.bs _ _ b3, b4, b5⟩
      rw [List.getElem?_append_left (by rw [r.bl]; exact c)]; exact b1
    · have h' : (s.box ++ [xs])[k]? = some zs := h
      have hk : k = s.box.length := by
        have := (List.getElem?_eq_some_iff.mp h').1
        simp at this; omega
      subst hk
      rw [List.getElem?_append_right (Nat.le_refl _), Nat.sub_self] at h'
      cases h'
      refine ⟨p, vs, ?_, upd_same, Reps.mono st.ex st.bs _ _ q, nw, nf⟩
      rw [← r.bl, List.getElem?_append_right (Nat.le_refl _), Nat.sub_self]; rfl
  · rw [List.nodup_append]
    refine ⟨r.bd, by simp, fun a ha b hb => ?_⟩
    simp at hb; subst hb
    exact fun e => nb (e ▸ ha)
end
theorem e_bxl {X : Cx} {fa : Nat → Option Addr} {c : Env} {es : List Expr} {ee : E} {pos : Pos} (h : PA X es (tA X.K fa c ee)) : PE X (.List es pos) (tE X.K fa c (.bxl ee)) :=
  pe_w (pe_lst h) fun σ H Q ⟨W, F, B, s, d, s', r, h, k⟩ => by
    obtain ⟨xs, s1, h1, h⟩ := bnd_inv h
    split at h <;> cases h
    rename_i hl
    refine tA_use r h1 fun F1 B1 H1 vs st1 r1 rs => ⟨by rw [rs.length, line_eq]; exact hl, fun p hp => ?_⟩
    obtain ⟨st2, r2⟩ := r1.newB hp rs
    refine k F1 _ _ _ (st1.trans st2) r2 (RR.of ?_)
    unfold Rep
    exact ⟨p, rfl, by rw [← r1.bl, List.getElem?_append_right (Nat.le_refl _), Nat.sub_self]; rfl⟩
/-! ### how a store is done -/
theorem sw_lc (elt : Expr) (gs : List Comprehension) (scope : Scope) (pos py : Pos) (y : Str) (l : Nat) (env : PySem.Env) : swapsWith (.ListComp elt gs scope pos) (some (.Name y py)) l env =
    pure (env.blockKind == .function && env.kindOf y == some .local && py.line == pos.line && !(scope.names.any fun (n, k) => n == y && (k == .local || k == .cell))) := rfl
theorem sw_no {e : Expr} (h : nlc e = true) (t : Option Expr) (l : Nat) (env : PySem.Env) : swapsWith e t l env = pure false := by
  cases e <;> first | rfl | cases h
theorem sw_tup (e : Expr) (ts : List Expr) (k : Nat) (tp : Pos) (l : Nat) (env : PySem.Env) : swapsWithSole [.Tuple ts k tp] e l env = pure false := by
  cases e <;> rfl
theorem sw_sub (e o i : Expr) (tp : Pos) (l : Nat) (env : PySem.Env) : swapsWithSole [.Subscript o i tp] e l env = pure false := by
  cases e <;> rfl
theorem ss_no {e : Expr} (h : ntup e = true) (t : Expr) (env : PySem.Env) : swappedStores [t] e env = pure none := by
  cases e <;> first | (cases h; done) | (cases t <;> rfl)
theorem ss_sub (e o i : Expr) (tp : Pos) (env : PySem.Env) : swappedStores [.Subscript o i tp] e env = pure none := by
  cases e <;> rfl
def swB (sc : NK) (y : Str) (py lp : Pos) (scope : Scope) : Bool := sc.lookup y == some .local && py.line == lp.line && !(scope.names.any fun (n, k) => n == y && (k == .local || k == .cell))
/-- what is stored in which order: some none: plainly; some names: from the right -/
def nms (sc : NK) (line : Nat) (ts : List Expr) : List Str := ts.filterMap fun
  | .Name id pos => if sc.lookup id == some .local && pos.line == line then some id else none
  | _ => none
def swF (sc : NK) (ts vs : List Expr) : Option (Option (List Str)) :=
  if !(ts.length == 2 || ts.length == 3) || vs.length != ts.length then some none else
  if vs.any (fun e => !nstar e) then some none else
  if (nms sc ((ts.head?.map (·.pos.line)).getD 0) ts).length != ts.length || (nms sc ((ts.head?.map (·.pos.line)).getD 0) ts).eraseDups.length != (nms sc ((ts.head?.map (·.pos.line)).getD 0) ts).length then some none else
  if vs.all (foldedForSure 8) then some none else
  if vs.all (constantsAlone 8) then none else some (some (nms sc ((ts.head?.map (·.pos.line)).getD 0) ts))
def swG (c1 c2 : Bool) (N : List Str) (n : Nat) (f g : Bool) : Sem (Option (List Str)) :=
  if c1 = true then pure none else if c2 = true then pure none else if (N.length != n || N.eraseDups.length != N.length) = true then pure none else if f = true then pure none else
  if g = true then (do unsupported "assign.tuple-of-constant-expressions:order-of-the-stores"; pure (some N)) else pure (some N)
theorem swG_eq (ts vs : List Expr) (env : PySem.Env) (kt k2 : Nat) (pt pt2 : Pos) : swappedStores [.Tuple ts kt pt] (.Tuple vs k2 pt2) env =
    swG (!(ts.length == 2 || ts.length == 3) || vs.length != ts.length || env.blockKind != .function) (vs.any fun | .Starred .. => true | _ => false)
      (ts.filterMap fun | .Name id pos => if env.kindOf id == some .local && pos.line == (ts.head?.map (·.pos.line)).getD 0 then some id else none | _ => none) ts.length (vs.all (foldedForSure 8)) (vs.all (constantsAlone 8)) := by
  rfl
theorem swF_ok {sc : NK} {ts vs : List Expr} {r : Option (List Str)} (h : swF sc ts vs = some r) {env : PySem.Env} (hk : env.blockKind = .function) (hn : ∀ n, env.kindOf n = sc.lookup n) (kt k2 : Nat) (pt pt2 : Pos) :
    swappedStores [.Tuple ts kt pt] (.Tuple vs k2 pt2) env = pure r := by
  have hs : (vs.any fun | .Starred .. => true | _ => false) = vs.any (fun e => !nstar e) := by
    congr 1
    funext e
    cases e <;> rfl
  have hm : (ts.filterMap fun | .Name id pos => if env.kindOf id == some .local && pos.line == (ts.head?.map (·.pos.line)).getD 0 then some id else none | _ => none) = nms sc ((ts.head?.map (·.pos.line)).getD 0) ts := by
    unfold nms
    congr 1
    funext e
    cases e <;> first | rfl | (simp only [hn])
  refine (swG_eq ts vs env kt k2 pt pt2).trans ?_
  have hb : (env.blockKind != ScopeKind.function) = false := by rw [hk]; rfl
  refine (congrArg (fun z => swG (!(ts.length == 2 || ts.length == 3) || vs.length != ts.length || env.blockKind != .function) z _ ts.length (vs.all (foldedForSure 8)) (vs.all (constantsAlone 8))) hs).trans ?_
  refine (congrArg (fun z => swG (!(ts.length == 2 || ts.length == 3) || vs.length != ts.length || env.blockKind != .function) _ z ts.length (vs.all (foldedForSure 8)) (vs.all (constantsAlone 8))) hm).trans ?_
  rw [hb, Bool.or_false]
  unfold swF at h
  unfold swG
  split at h
  · rename_i c; cases h; rw [if_pos c]
  rename_i c; rw [if_neg c]
  split at h
  · rename_i c; cases h; rw [if_pos c]
  rename_i c; rw [if_neg c]
  split at h
  · rename_i c; cases h; rw [if_pos c]
  rename_i c; rw [if_neg c]
  split at h
  · rename_i c; cases h; rw [if_pos c]
  rename_i c; rw [if_neg c]
  split at h
  · cases h
  rename_i c; rw [if_neg c]
  cases h; rfl
theorem lst_asg {t : Expr} (h : nstar t = true) (env : PySem.Env) : (assignEach [t] env).map (·.2) = [assign t env] := by rw [asg_of h]; rfl
theorem asg_sub {o i : Expr} (h : npix i = true) (pos : Pos) (env : PySem.Env) (v : Value) : assign (.Subscript o i pos) env v = (do
      let ov ← holding [v] (eval o env)
      let iv ← holding [v, ov] (eval i env)
      standAt pos
      holding [v, ov, iv] (setItem ov iv v)
      release [v, ov, iv] []) := by
  cases i <;> first | rfl | cases h
/-! ### statements -/
def augOf : Operator → Option BOp
  | .Add => some .add
  | .Sub => some .sub
  | _ => none
theorem c_aug {x : Ctx} {y : Str} {op : Operator} {bo : BOp} {e : Expr} {py pos : Pos} (hb : augOf op = some bo) (v : OutN x y) (r : OutE x e) {X : Cx} {fa : Nat → Option Addr} {c : Env} {L : Nat} (o : Ok X fa c x) :
    PS X (.AugAssign (.Name y py) op e pos) (tS X.K fa c L (.aug v.i bo r.ir)) := by
  have nd : X.N.Nodup := by rw [o.hN]; exact o.nd
  have ix : X.N[v.i]? = some y := by rw [o.hN]; exact v.ix
  cases op <;> cases hb
  · refine s_aug (ps_aug nd ix (lc_ok o v.lc) (r.ok X fa c o) ip_add (fnOf_ok o v.hf)) fun a b z h => ?_
    cases a <;> cases b <;> cases h
    exact ⟨_, _, rfl, rfl, rfl⟩
  · refine s_aug (ps_aug nd ix (lc_ok o v.lc) (r.ok X fa c o) ip_sub (fnOf_ok o v.hf)) fun a b z h => ?_
    cases a <;> cases b <;> cases h
    exact ⟨_, _, rfl, rfl, rfl⟩
theorem c_asv {x : Ctx} {y : Str} {e : Expr} {py pos : Pos} (h : nlc e = true) (v : OutN x y) (r : OutE x e) {X : Cx} {fa : Nat → Option Addr} {c : Env} {L : Nat} (o : Ok X fa c x) :
    PS X (.Assign [.Name y py] e pos) (tS X.K fa c L (.asv v.i r.ir)) :=
  s_asv (ps_set (by rw [o.hN]; exact o.nd) (by rw [o.hN]; exact v.ix) (lc_ok o v.lc) (r.ok X fa c o) (sw_no h _ _ _) (fnOf_ok o v.hf))
theorem c_asvL {x : Ctx} {y : Str} {elt tg iter : Expr} {ifs : List Expr} {scope : Scope} {py lp pos : Pos} (v : OutN x y) (r : OutL x elt tg iter ifs scope) {X : Cx} {fa : Nat → Option Addr} {c : Env} {L : Nat} (o : OkS X fa c x) :
    PS X (.Assign [.Name y py] (.ListComp elt [⟨tg, iter, ifs, 0⟩] scope lp) pos) (tS X.K fa c L (.asv v.i r.ir)) := by
  have nd : X.N.Nodup := by rw [o.ok.hN]; exact o.ok.nd
  have ix : X.N[v.i]? = some y := by rw [o.ok.hN]; exact v.ix
  have e := sw_lc elt [⟨tg, iter, ifs, 0⟩] scope lp py y pos.line X.env
  cases hb : (X.env.blockKind == .function && X.env.kindOf y == some .local && py.line == lp.line && !(scope.names.any fun (n, k) => n == y && (k == .local || k == .cell))) with
  | true =>
    rw [hb] at e
    have hl : X.env.scope.names.lookup y = some .local := by
      simp only [Bool.and_eq_true, beq_iff_eq] at hb
      exact hb.1.1.2
    exact s_asvLc r.hv (ps_setLc o.ok.calm nd ix hl e (r.hi X fa c o.ok) (blk_ok o.ok r.ok) (fun s H C cl fp => r.hg _ fa c (o.ok.blk (blk_kind r.ok) s H C cl fp)) (fun s H C cl fp => r.ht _ fa c (o.ok.blk (blk_kind r.ok) s H C cl fp)) (fun s H C cl fp => r.he _ fa c (o.ok.blk (blk_kind r.ok) s H C cl fp)) (set_of r.hs _))
  | false =>
    rw [hb] at e
    exact s_asv (ps_set nd ix (lc_ok o.ok v.lc) (l_ok r o.ok) e (fnOf_ok o.ok v.hf))
theorem c_asg {x : Ctx} {ts : List Expr} {k : Nat} {tp pos : Pos} {e : Expr} (h : ntup e = true) (g : OutG x (.Tuple ts k tp)) (r : OutE x e) {X : Cx} {fa : Nat → Option Addr} {c : Env} {L : Nat} (o : Ok X fa c x) :
    PS X (.Assign [.Tuple ts k tp] e pos) (tS X.K fa c L (.asg g.ir r.ir)) :=
  s_asg (ps_asg (r.ok X fa c o) (g.ok X fa c o) (sw_tup _ _ _ _ _ _) (ss_no h _ _) (lst_asg rfl _))
theorem c_asgT {x : Ctx} {ts vs : List Expr} {k k2 : Nat} {tp p2 pos : Pos} (h : swF x.sc ts vs = some none) (g : OutG x (.Tuple ts k tp)) (r : OutE x (.Tuple vs k2 p2)) {X : Cx} {fa : Nat → Option Addr} {c : Env} {L : Nat} (o : OkS X fa c x) :
    PS X (.Assign [.Tuple ts k tp] (.Tuple vs k2 p2) pos) (tS X.K fa c L (.asg g.ir r.ir)) :=
  s_asg (ps_asg (r.ok X fa c o.ok) (g.ok X fa c o.ok) (sw_tup _ _ _ _ _ _) (swF_ok h o.bk o.ok.knd _ _ _ _) (lst_asg rfl _))
theorem c_par {x : Ctx} {y z : Str} {a b : Expr} {k k2 : Nat} {py pz tp p2 pos : Pos} (h : swF x.sc [.Name y py, .Name z pz] [a, b] = some (some [y, z])) (hl : (locB x.sc y && locB x.sc z) = true) (hs : (nstar a && nstar b) = true) (v : OutN x y) (w : OutN x z) (hvw : v.i ≠ w.i) (r : OutE x a) (q : OutE x b) {X : Cx} {fa : Nat → Option Addr} {c : Env} {L : Nat} (o : OkS X fa c x) :
    PS X (.Assign [.Tuple [.Name y py, .Name z pz] k tp] (.Tuple [a, b] k2 p2) pos) (tS X.K fa c L (.par v.i w.i r.ir q.ir)) :=
  s_par (ps_par o.ok.calm (by rw [o.ok.hN]; exact o.ok.nd) (by rw [o.ok.hN]; exact v.ix) (by rw [o.ok.hN]; exact w.ix) hvw (loc_ok o.ok (band1 hl)) (loc_ok o.ok (band2 hl)) (pa_cons (r.ok X fa c o.ok) (pa_cons (q.ok X fa c o.ok) pa_nil (star_of (band2 hs) _ _)) (star_of (band1 hs) _ _)) (swF_ok h o.bk o.ok.knd _ _ _ _) (sw_tup _ _ _ _ _ _))
def isLi : Expr → Bool
  | .List _ _ => true
  | _ => false
theorem c_parT {x : Ctx} {y z : Str} {a b : Expr} {k k2 : Nat} {py pz tp p2 pos : Pos} (h : swF x.sc [.Name y py, .Name z pz] [a, b] = some none) (hs : (nstar a && nstar b) = true) (v : OutN x y) (w : OutN x z) (r : OutE x a) (q : OutE x b) {X : Cx} {fa : Nat → Option Addr} {c : Env} {L : Nat} (o : OkS X fa c x) :
    PS X (.Assign [.Tuple [.Name y py, .Name z pz] k tp] (.Tuple [a, b] k2 p2) pos) (tS X.K fa c L (.par v.i w.i r.ir q.ir)) :=
  s_parT (ps_asg (pe_tup (pa_cons (r.ok X fa c o.ok) (pa_cons (q.ok X fa c o.ok) pa_nil (star_of (band2 hs) _ _)) (star_of (band1 hs) _ _))) (pg_tup o.ok.calm (pgs_cons (v.ok X fa c o.ok py) (pgs_cons (w.ok X fa c o.ok pz) pgs_nil (by rw [asg_of rfl]; rfl)) (by rw [asg_of rfl]; rfl)) (asgs_len (by rfl) _) (asgs_none (by rfl) _)) (sw_tup _ _ _ _ _ _) (swF_ok h o.bk o.ok.knd _ _ _ _) (lst_asg rfl _))
theorem c_par3 {x : Ctx} {y z y3 : Str} {a b d : Expr} {k k2 : Nat} {py pz p3 tp p2 pos : Pos} (h : swF x.sc [.Name y py, .Name z pz, .Name y3 p3] [a, b, d] = some (some [y, z, y3])) (hl : ((locB x.sc y && locB x.sc z) && locB x.sc y3) = true) (hs : ((nstar a && nstar b) && nstar d) = true) (v : OutN x y) (w : OutN x z) (u : OutN x y3) (hvw : v.i ≠ w.i) (hvu : v.i ≠ u.i) (hwu : w.i ≠ u.i) (r : OutE x a) (q : OutE x b) (t : OutE x d) {X : Cx} {fa : Nat → Option Addr} {c : Env} {L : Nat} (o : OkS X fa c x) :
    PS X (.Assign [.Tuple [.Name y py, .Name z pz, .Name y3 p3] k tp] (.Tuple [a, b, d] k2 p2) pos) (tS X.K fa c L (.par3 v.i w.i u.i (.cons r.ir (.cons q.ir (.cons t.ir .nil))))) :=
  s_par3 (ps_par3 o.ok.calm (by rw [o.ok.hN]; exact o.ok.nd) (by rw [o.ok.hN]; exact v.ix) (by rw [o.ok.hN]; exact w.ix) (by rw [o.ok.hN]; exact u.ix) hvw hvu hwu (loc_ok o.ok (band1 (band1 hl))) (loc_ok o.ok (band2 (band1 hl))) (loc_ok o.ok (band2 hl)) (a_cons (r.ok X fa c o.ok) (a_cons (q.ok X fa c o.ok) (a_cons (t.ok X fa c o.ok) a_nil (star_of (band2 hs) _ _)) (star_of (band2 (band1 hs)) _ _)) (star_of (band1 (band1 hs)) _ _)) (swF_ok h o.bk o.ok.knd _ _ _ _) (sw_tup _ _ _ _ _ _))
theorem c_set {x : Ctx} {n : Str} {i e : Expr} {p tp pos : Pos} (h : npix i = true) (v : OutV x n) (q : OutE x i) (r : OutE x e) {X : Cx} {fa : Nat → Option Addr} {c : Env} {L : Nat} (o : Ok X fa c x) :
    PS X (.Assign [.Subscript (.Name n p) i tp] e pos) (tS X.K fa c L (.set v.i q.ir r.ir)) :=
  s_set (ps_asg (r.ok X fa c o) (pg_sub (v.ok X fa c o p) (q.ok X fa c o) set_list (asg_sub h _ _)) (sw_sub _ _ _ _ _ _) (ss_sub _ _ _ _ _) (lst_asg rfl _))
theorem c_set2 {x : Ctx} {n n2 : Str} {i i2 : Expr} {a b : Expr} {k k2 : Nat} {p p2 tp tp2 tq pos pe : Pos} (hw : swF x.sc [.Subscript (.Name n p) i tp, .Subscript (.Name n2 p2) i2 tp2] [a, b] = some none) (h : npix i = true) (h2 : npix i2 = true) (v : OutV x n) (w : OutV x n2) (q : OutE x i) (q2 : OutE x i2) (r : OutE x (.Tuple [a, b] k2 pe)) {X : Cx} {fa : Nat → Option Addr} {c : Env} {L : Nat} (o : OkS X fa c x) :
    PS X (.Assign [.Tuple [.Subscript (.Name n p) i tp, .Subscript (.Name n2 p2) i2 tp2] k tq] (.Tuple [a, b] k2 pe) pos) (tS X.K fa c L (.set2 v.i w.i q.ir q2.ir r.ir)) :=
  s_set2 (ps_asg (r.ok X fa c o.ok) (pg_tup o.ok.calm (pgs_cons (pg_sub (v.ok X fa c o.ok p) (q.ok X fa c o.ok) set_list (asg_sub h _ _)) (pgs_cons (pg_sub (w.ok X fa c o.ok p2) (q2.ok X fa c o.ok) set_list (asg_sub h2 _ _)) pgs_nil (by rw [asg_of rfl]; rfl)) (by rw [asg_of rfl]; rfl)) (asgs_len (by rfl) _) (asgs_none (by rfl) _)) (sw_tup _ _ _ _ _ _) (swF_ok hw o.bk o.ok.knd _ _ _ _) (lst_asg rfl _))
mutual
def cS : Nat → (x : Ctx) → (st : Stmt) → Option (OutS x st)
  | 0, _, _ => none
  | m + 1, x, .Assign [.Name y py] (.ListComp elt [⟨tg, iter, ifs, 0⟩] scope lp) pos => match cN x y, cL m x elt tg iter ifs scope with
    | some v, some r => some ⟨.asv v.i r.ir, fun X fa c L o => c_asvL v r o⟩
    | _, _ => none
  | m + 1, x, .Assign [.Name y py] e pos => if h : nlc e = true then match cN x y, cE m x e with
    | some v, some r => some ⟨.asv v.i r.ir, fun X fa c L o => c_asv h v r o.ok⟩
    | _, _ => none
    else none
  | m + 1, x, .Assign [.Tuple [.Name y py, .Name z pz] k tp] (.Tuple [a, b] k2 p2) pos => match h : swF x.sc [.Name y py, .Name z pz] [a, b] with
    | some none => if (isLi a || isLi b) = true then if hs : (nstar a && nstar b) = true then match cN x y, cN x z, cE m x a, cE m x b with
      | some v, some w, some r, some q => if v.i ≠ w.i then some ⟨.par v.i w.i r.ir q.ir, fun X fa c L o => c_parT h hs v w r q o⟩ else none
      | _, _, _, _ => none
      else none else match cG m x (.Tuple [.Name y py, .Name z pz] k tp), cE m x (.Tuple [a, b] k2 p2) with
      | some g, some r => some ⟨.asg g.ir r.ir, fun X fa c L o => c_asgT h g r o⟩
      | _, _ => none
    | some (some l) => if h1 : l = [y, z] then if hl : (locB x.sc y && locB x.sc z) = true then if hs : (nstar a && nstar b) = true then match cN x y, cN x z, cE m x a, cE m x b with
      | some v, some w, some r, some q => if hvw : v.i ≠ w.i then some ⟨.par v.i w.i r.ir q.ir, fun X fa c L o => by subst h1; exact c_par h hl hs v w hvw r q o⟩ else none
      | _, _, _, _ => none
      else none else none else none
    | none => none
  | m + 1, x, .Assign [.Tuple [.Subscript (.Name n p) i tp, .Subscript (.Name n2 p2) i2 tp2] k tq] (.Tuple [a, b] k2 pe) pos => match hw : swF x.sc [.Subscript (.Name n p) i tp, .Subscript (.Name n2 p2) i2 tp2] [a, b] with
    | some none => if h : (npix i && npix i2) = true then match cV x n, cV x n2, cE m x i, cE m x i2, cE m x (.Tuple [a, b] k2 pe) with
      | some v, some w, some q, some q2, some r => some ⟨.set2 v.i w.i q.ir q2.ir r.ir, fun X fa c L o => c_set2 hw (band1 h) (band2 h) v w q q2 r o⟩
      | _, _, _, _, _ => none
      else none
    | _ => none
  | m + 1, x, .Assign [.Tuple [.Name y py, .Name z pz, .Name y3 p3] k tp] (.Tuple [a, b, d] k2 p2) pos => match h : swF x.sc [.Name y py, .Name z pz, .Name y3 p3] [a, b, d] with
    | some none => match cG m x (.Tuple [.Name y py, .Name z pz, .Name y3 p3] k tp), cE m x (.Tuple [a, b, d] k2 p2) with
      | some g, some r => some ⟨.asg g.ir r.ir, fun X fa c L o => c_asgT h g r o⟩
      | _, _ => none
    | some (some l) => if h1 : l = [y, z, y3] then if hl : ((locB x.sc y && locB x.sc z) && locB x.sc y3) = true then if hs : ((nstar a && nstar b) && nstar d) = true then match cN x y, cN x z, cN x y3, cE m x a, cE m x b, cE m x d with
      | some v, some w, some u, some r, some q, some t => if hvw : v.i ≠ w.i then if hvu : v.i ≠ u.i then if hwu : w.i ≠ u.i then some ⟨.par3 v.i w.i u.i (.cons r.ir (.cons q.ir (.cons t.ir .nil))), fun X fa c L o => by subst h1; exact c_par3 h hl hs v w u hvw hvu hwu r q t o⟩ else none else none else none
      | _, _, _, _, _, _ => none
      else none else none else none
    | none => none
  | m + 1, x, .Assign [.Tuple ts k tp] (.Tuple vs k2 p2) pos => match h : swF x.sc ts vs with
    | some none => match cG m x (.Tuple ts k tp), cE m x (.Tuple vs k2 p2) with
      | some g, some r => some ⟨.asg g.ir r.ir, fun X fa c L o => c_asgT h g r o⟩
      | _, _ => none
    | _ => none
  | m + 1, x, .Assign [.Tuple ts k tp] e pos => if h : ntup e = true then match cG m x (.Tuple ts k tp), cE m x e with
    | some g, some r => some ⟨.asg g.ir r.ir, fun X fa c L o => c_asg h g r o.ok⟩
    | _, _ => none
    else none
  | m + 1, x, .Assign [.Subscript (.Name n p) i tp] e pos => if h : npix i = true then match cV x n, cE m x i, cE m x e with
    | some v, some q, some r => some ⟨.set v.i q.ir r.ir, fun X fa c L o => c_set h v q r o.ok⟩
    | _, _, _ => none
    else none
  | m + 1, x, .AugAssign (.Name y py) op e pos => match hb : augOf op with
    | some bo => match cN x y, cE m x e with
      | some v, some r => some ⟨.aug v.i bo r.ir, fun X fa c L o => c_aug hb v r o.ok⟩
      | _, _ => none
    | none => none
  | m + 1, x, .Expr e pos => if h : nlc e = true then match cE m x e with
    | some r => some ⟨.ex r.ir, fun X fa c L o => s_ex (ps_expr (r.ok X fa c o.ok) (sw_no h _ _ _))⟩
    | none => none
    else none
  | m + 1, x, .Return none pos => some ⟨.retN, fun X fa c L o => s_retN⟩
  | m + 1, x, .Return (some (.List es p)) pos => match cA m x es with
    | some r => if x.bx = true then some ⟨.ret (.bxl r.ir), fun X fa c L o => s_ret (e_bxl (r.ok X fa c o.ok))⟩ else some ⟨.ret (.lst r.ir), fun X fa c L o => s_ret (e_lst (r.ok X fa c o.ok))⟩
    | none => none
  | m + 1, x, .Return (some e) pos => match cE m x e with
    | some r => some ⟨.ret r.ir, fun X fa c L o => s_ret (r.ok X fa c o.ok)⟩
    | none => none
  | m + 1, x, .If t as bs pos => match cT m x t, cSs m x as, cSs m x bs with
    | some r, some a, some b => some ⟨.ite r.ir a.ir b.ir, fun X fa c L o => s_ite (r.ok X fa c o.ok) (a.ok X fa c L o) (b.ok X fa c L o)⟩
    | _, _, _ => none
  | m + 1, x, .While t body [] pos => match cT m x t, cSs m x body with
    | some r, some a => some ⟨.whl r.ir a.ir, fun X fa c L o => s_whl o.hp (r.ok X fa c o.ok) (a.ok X fa c L o)⟩
    | _, _ => none
  | m + 1, x, .For tg it body [] pos => if h : nset it = true then match cG m x tg, cI m x tg it, cSs m x body with
    | some g, some i, some a => some ⟨.for g.ir i.ir a.ir, fun X fa c L o => s_for o.hp o.ok.calm (i.ok X fa c o.ok) (g.ok X fa c o.ok) (a.ok X fa c L o) (set_of h _)⟩
    | _, _, _ => none
    else none
  | m + 1, x, .Raise e f pos => some ⟨.rais 0 .nil, fun X fa c L o => s_rais⟩
  | m + 1, x, .Pass pos => some ⟨.pass, fun X fa c L o => s_pass⟩
  | m + 1, x, .Break pos => some ⟨.brk, fun X fa c L o => s_brk⟩
  | m + 1, x, .Continue pos => some ⟨.cnt, fun X fa c L o => s_cnt⟩
  | _, _, _ => none
def cSs : Nat → (x : Ctx) → (st : List Stmt) → Option (OutSs x st)
  | 0, _, _ => none
  | m + 1, x, [] => some ⟨.nil, fun X fa c L o => s_nil⟩
  | m + 1, x, s :: r => match cS m x s, cSs m x r with
    | some a, some b => some ⟨.seq a.ir b.ir, fun X fa c L o => s_seq (a.ok X fa c L o) (b.ok X fa c L o)⟩
    | _, _ => none
end
end Q
end

section
set_option maxRecDepth 100000
set_option maxHeartbeats 4000000
/-! QFn: defs by level; constants; the head's hook; a law's end. -/
namespace Q
open PySem PySem.Spec PyProof.Rows L2

structure QD where
  st : Stmt
  name : Str
  ps : List Str
  N : List Str
  bx : Bool
  ir : St
structure Prg where
  defs : List QD
  gls : List (Str × D)
  bls : List Str
def Prg.fnsT (p : Prg) : List (Str × Nat × Nat) := p.defs.zipIdx.map fun d => (d.1.name, d.2, d.1.ps.length)
def Prg.glsT (p : Prg) : List (Str × Nat) := p.gls.zipIdx.map fun d => (d.1.1, d.2)
def Prg.ctx (fT : List (Str × Nat × Nat)) (gT : List (Str × Nat)) (bls : List Str) (d : QD) : Ctx := ⟨d.N, (defScope d.st).names, none, fT, gT, bls, d.bx⟩
def Prg.tb (p : Prg) (k : Nat) : Option Fn := (p.defs[k]?).map fun d => ⟨d.ps.length, d.N.length, d.ir⟩
def Prg.gb (p : Prg) (k : Nat) : Option D := (p.gls[k]?).map (·.2)
def Prg.dd (d : QD) : He.DefD := ⟨(d.name, none), d.name, d.name, defArgs d.st, defBody d.st, defScope d.st, [], []⟩
def scB (N P : List Str) (sc : Scope) : Bool :=
  decide (sc.kind = .function) && (!sc.isCoroutine && (!sc.isGenerator && (decide N.Nodup && (decide (N.take P.length = P) && (P.all (fun x => lcB sc.names x) && sc.names.all (fun y => !decide (y.2 = .free)))))))
theorem scB_ok {N P : List Str} {sc : Scope} (h : scB N P sc = true) : FnScope N P sc := by
  unfold scB at h
  simp only [Bool.and_eq_true, Bool.not_eq_true', decide_eq_true_eq, List.all_eq_true, decide_eq_false_iff_not] at h
  obtain ⟨h1, h2, h3, h4, h5, h6, h7⟩ := h
  refine ⟨h1, h2, h3, h4, h5, fun x hx => ?_, h7⟩
  have := h6 x hx
  unfold lcB at this
  split at this <;> first | exact .inl ‹_› | exact .inr ‹_› | cases this
/-- what one def must show of its text -/
structure DefOk (fT : List (Str × Nat × Nat)) (gT : List (Str × Nat)) (bls : List Str) (d : QD) : Prop where
  sc : FnScope d.N d.ps (defScope d.st)
  ir : ∃ r, cSs 300 (Prg.ctx fT gT bls d) (defBody d.st) = some r ∧ r.ir = d.ir
  bind : ∀ (kV doc pm : Value) (an : Option Addr) (cdv ct : Value) (us : List Value), us.length = d.ps.length → bindArgs (PySem.W.fnOf d.name d.name (defArgs d.st) (defBody d.st) (defScope d.st) .none kV doc pm an cdv ct) ⟨us, []⟩ = pure (d.ps.zip us)
theorem ir_of {fT : List (Str × Nat × Nat)} {gT : List (Str × Nat)} {bls : List Str} {d : QD} (h : (match cSs 300 (Prg.ctx fT gT bls d) (defBody d.st) with | some r => some r.ir | none => none) = some d.ir) : ∃ r, cSs 300 (Prg.ctx fT gT bls d) (defBody d.st) = some r ∧ r.ir = d.ir := by
  cases q : cSs 300 (Prg.ctx fT gT bls d) (defBody d.st) with
  | none => rw [q] at h; cases h
  | some r => rw [q] at h; exact ⟨r, rfl, Option.some.inj h⟩
/-! ### lists with places -/
theorem zip_look {α : Type} {f : Nat → α → Nat × Nat} : True := trivial
theorem look_fns : ∀ (l : List QD) (n : Nat) (f : Str) (k np : Nat), ((l.zipIdx n).map fun d => (d.1.name, d.2, d.1.ps.length)).lookup f = some (k, np) → ∃ d, n ≤ k ∧ l[k - n]? = some d ∧ d.name = f ∧ d.ps.length = np
  | [], n, f, k, np, h => by simp at h
  | d :: l, n, f, k, np, h => by
    rw [List.zipIdx_cons, List.map_cons, List.lookup_cons] at h
    cases e : (f == d.name) with
    | true =>
      rw [e] at h
      cases h
      exact ⟨d, Nat.le_refl _, by simp, (by simpa using e : f = d.name).symm, rfl⟩
    | false =>
      rw [e] at h
      obtain ⟨d', h1, h2, h3, h4⟩ := look_fns l (n + 1) f k np h
      refine ⟨d', by omega, ?_, h3, h4⟩
      rw [show k - n = (k - (n + 1)) + 1 by omega]
      simpa using h2
theorem look_gls : ∀ (l : List (Str × D)) (n : Nat) (f : Str) (k : Nat), ((l.zipIdx n).map fun d => (d.1.1, d.2)).lookup f = some k → ∃ d, n ≤ k ∧ l[k - n]? = some (f, d)
  | [], n, f, k, h => by simp at h
  | d :: l, n, f, k, h => by
    rw [List.zipIdx_cons, List.map_cons, List.lookup_cons] at h
    cases e : (f == d.1) with
    | true =>
      rw [e] at h
      cases h
      obtain ⟨a, b⟩ := d
      have : f = a := by simpa using e
      subst this
      exact ⟨b, Nat.le_refl _, by simp⟩
    | false =>
      rw [e] at h
      obtain ⟨d', h1, h2⟩ := look_gls l (n + 1) f k h
      refine ⟨d', by omega, ?_⟩
      rw [show k - n = (k - (n + 1)) + 1 by omega]
      simpa using h2
/-! ### a frame's start and end -/
section
variable {K : PySem.W.Frag} {fa : Nat → Option Addr} {W F : Hp} {B : List Addr} {H : Hp}
theorem start_get {f : Fn} {xs : List D} {b : List (List D)} {i : Nat} {d : D} (h : (S.mk (startL f xs) b).get i = some d) : xs[i]? = some d := by
  unfold S.get startL at h
  by_cases c : i < xs.length
  · rw [List.getElem?_append_left (by simpa using c)] at h
    rw [List.getElem?_map] at h
    cases q : xs[i]? with
    | none => rw [q] at h; cases h
    | some x => rw [q] at h; exact h
  · rw [List.getElem?_append_right (by simpa using c)] at h
    rw [List.getElem?_replicate] at h
    split at h <;> cases h
theorem Rel.start {f : Fn} {N : List Str} {xs : List D} {vs : List V} {b : List (List D)} (r : Rel K fa W F B ⟨[], b⟩ [] H) (q : Reps K fa F B xs vs) (hn : f.nn = N.length) : Rel K fa W F B ⟨startL f xs, b⟩ (L2.start N vs) H := by
  have hl := q.length
  refine ⟨r.ew, r.ef, ?_, fun i d h => ?_, fun i j d e v ne hi hj oi oj h1 h2 => ?_, r.bl, r.bx, r.bd⟩
  · show (L2.start N vs).length = (startL f xs).length
    unfold L2.start startL
    simp [hl, hn]
  · have h' := start_get h
    obtain ⟨v, h1, h2⟩ := q.get h'
    refine ⟨v, ?_, SlV.of h2⟩
    have hlt : i < vs.length := (List.getElem?_eq_some_iff.mp h1).1
    unfold L2.start
    rw [List.getElem?_append_left (by simpa using hlt), List.getElem?_map, h1]; rfl
  · have h' := start_get hi
    obtain ⟨v, h1, h2⟩ := q.get h'
    rw [h2.notOwn] at oi; cases oi
theorem Rel.forget {s : S} {σ : L2.St} (r : Rel K fa W F B s σ H) : Rel K fa W F B ⟨[], s.box⟩ [] H :=
  ⟨r.ew, r.ef, rfl, (fun i d h => by rw [get_nil] at h; cases h), (fun i j d e v _ h _ _ _ _ _ => by rw [get_nil] at h; cases h), r.bl, r.bx, r.bd⟩
theorem RR.forget {s : S} {σ : L2.St} {d : D} {v : V} {b : List (List D)} (r : RR K fa W F B s σ H d v) : RR K fa W F B ⟨[], b⟩ [] H d v := ⟨r.1, fun _ i e h => by rw [get_nil] at h; cases h⟩
end
/-! ### all defs, level by level -/
section
variable {P : Program} {w : World} {K : PySem.W.Frag} {mg : Str → Option Value} {base : Heap} {fa : Nat → Option Addr} {L : Nat}
structure Has (p : Prg) (K : PySem.W.Frag) (mg : Str → Option Value) (fa : Nat → Option Addr) : Prop where
  defs : ∀ k d, p.defs[k]? = some d → ∃ a fd, fa k = some a ∧ mg d.name = some (.ref a) ∧ FunD K d.name d.name (defArgs d.st) (defBody d.st) (defScope d.st) [] [] a fd
  gls : ∀ f d, (f, d) ∈ p.gls → ∃ (u : Value) (v : V), mg f = some u ∧ RelV v u ∧ ∀ F B, Rep K fa F B d v
  bls : ∀ f, f ∈ p.bls → mg f = none
theorem fns_ok {p : Prg} (hd : ∀ d, d ∈ p.defs → DefOk p.fnsT p.glsT p.bls d) (hs : Has p K mg fa) : ∀ n k d a fd, p.defs[k]? = some d → fa k = some a → FunD K d.name d.name (defArgs d.st) (defBody d.st) (defScope d.st) [] [] a fd →
    FnOk P w K mg base L2.CX0 n a fd d.ps (spF K fa (callN p.tb p.gb L n) d.ps.length k)
  | 0, k, d, a, fd, hk, ha, F => ⟨fun vs H Q E h => h.1, fun A outer s H args us vs Q E _ _ _ _ h => by
      obtain ⟨_, W, F, B, xs, box, d, box', _, _, h, _⟩ := h
      cases h⟩
  | n + 1, k, d, a, fd, hk, ha, F => by
    have D := hd d (List.mem_of_getElem? hk)
    obtain ⟨r, hr, hi⟩ := D.ir
    refine F.ok D.sc (fun vs H Q E h => h.1) fun cdv A outer s H vs Q E rm h => ⟨tS K fa ⟨callN p.tb p.gb L n, p.gb⟩ L d.ir, PSs.nox ?_, ?_⟩
    · rw [← hi]
      refine r.ok _ fa ⟨callN p.tb p.gb L n, p.gb⟩ L ⟨?_, PassesOwn.never⟩
      refine ⟨D.sc.nd, rfl, rfl, D.sc.kind, rfl, rm.units, rfl, fun f k2 np hf => ?_, fun f k2 hf => ?_, hs.bls⟩
      · obtain ⟨d2, _, h2, h3, h4⟩ := look_fns p.defs 0 f k2 np hf
        rw [Nat.sub_zero] at h2
        obtain ⟨a2, fd2, q1, q2, F2⟩ := hs.defs k2 d2 h2
        subst h3 h4
        have D2 := hd d2 (List.mem_of_getElem? h2)
        exact ⟨a2, fd2, n, d2.ps, q2, q1, F2.kp, fns_ok hd hs n k2 d2 a2 fd2 h2 q1 F2, rm, F2.bindsN D2.bind⟩
      · obtain ⟨d2, _, h2⟩ := look_gls p.gls 0 f k2 hf
        rw [Nat.sub_zero] at h2
        obtain ⟨u, v, q1, q2, q3⟩ := hs.gls f d2 (List.mem_of_getElem? h2)
        exact ⟨u, v, d2, q1, q2, by show p.gb k2 = some d2; unfold Prg.gb; rw [h2]; rfl, q3⟩
    · obtain ⟨hl, W, F1, B, xs, box, d1, box', r1, rx, hc, hW, kk⟩ := h
      have hc' : callN p.tb p.gb L (n + 1) k xs box = .ok d1 box' := hc
      unfold callN at hc'
      have ht : p.tb k = some ⟨d.ps.length, d.N.length, d.ir⟩ := by unfold Prg.tb; rw [hk]; rfl
      rw [ht] at hc'
      replace hc' : runF ⟨callN p.tb p.gb L n, p.gb⟩ L ⟨d.ps.length, d.N.length, d.ir⟩ xs box = .ok d1 box' := hc'
      unfold runF at hc'
      split at hc'
      case isFalse => cases hc'
      have r2 := r1.start (f := ⟨d.ps.length, d.N.length, d.ir⟩) (N := d.N) rx rfl
      revert hc'
      generalize hev : evS ⟨callN p.tb p.gb L n, p.gb⟩ L d.ir ⟨startL ⟨d.ps.length, d.N.length, d.ir⟩ xs, box⟩ = ev
      intro hc'
      cases ev with
      | bad => cases hc'
      | exc e s => cases hc'
      | ok fl s1 =>
        cases fl with
        | nx =>
          cases hc'
          exact tS_use r2 hev fun F' B' σ' H' st r' => kk F' B' H' .non st r'.forget (RR.of of_non)
        | rt d0 =>
          cases hc'
          exact tS_use r2 hev fun F' B' σ' H' st r' v rr => kk F' B' H' v st r'.forget rr.forget
        | bk => cases hc'
        | ct => cases hc'
end
/-! ### constants -/
mutual
def repC (K : PySem.W.Frag) : Nat → D → Value → Bool
  | 0, _, _ => false
  | _ + 1, .non, .none => true
  | _ + 1, .bl a, .bool b => decide (a = b)
  | _ + 1, .int i, .int j _ => decide (i = j)
  | _ + 1, .str x, .str y _ => decide (x = y)
  | n + 1, .tup ds, .ref a => match K.lookup a with
    | some ⟨.type c, _, .seq its _, _⟩ => decide (c = "tuple") && (decide (its.size ≤ sizeLine) && repCs K n ds its.toList)
    | _ => false
  | _, _, _ => false
def repCs (K : PySem.W.Frag) : Nat → List D → List Value → Bool
  | 0, _, _ => false
  | _ + 1, [], [] => true
  | n + 1, d :: ds, u :: us => repC K n d u && repCs K n ds us
  | _, _, _ => false
end
section
variable {K : PySem.W.Frag} {fa : Nat → Option Addr} {F : Hp} {B : List Addr}
mutual
theorem repC_ok : ∀ (n : Nat) (d : D) (u : Value), repC K n d u = true → ∃ v, RelV v u ∧ ∀ fa F B, Rep K fa F B d v
  | 0, d, u, h => by unfold repC at h; cases h
  | n + 1, .non, u, h => by
    cases u <;> first | (unfold repC at h; cases h; done) | skip
    exact ⟨.non, rfl, fun _ _ _ => of_non⟩
  | n + 1, .bl a, u, h => by
    cases u <;> first | (unfold repC at h; cases h; done) | skip
    unfold repC at h
    have := of_decide_eq_true h
    subst this
    exact ⟨.bl a, rfl, fun _ _ _ => of_bl _⟩
  | n + 1, .int a, u, h => by
    cases u <;> first | (unfold repC at h; cases h; done) | skip
    unfold repC at h
    have := of_decide_eq_true h
    subst this
    exact ⟨.int a, ⟨_, rfl⟩, fun _ _ _ => of_int _⟩
  | n + 1, .str a, u, h => by
    cases u <;> first | (unfold repC at h; cases h; done) | skip
    unfold repC at h
    have := of_decide_eq_true h
    subst this
    exact ⟨.str a, ⟨_, rfl⟩, fun _ _ _ => of_str _⟩
  | n + 1, .tup ds, u, h => by
    cases u <;> first | (unfold repC at h; cases h; done) | skip
    rename_i a
    unfold repC at h
    split at h
    · rename_i c dd its m sl hk
      obtain ⟨h1, h2⟩ := He.ba h
      obtain ⟨h3, h4⟩ := He.ba h2
      obtain ⟨vs, r1, r2⟩ := repCs_ok n ds its.toList h4
      refine ⟨.ref a, rfl, fun fa F B => ?_⟩
      unfold Rep
      exact ⟨a, vs, rfl, .inr ⟨_, its, m, hk, congrArg Value.type (of_decide_eq_true h1), rfl, of_decide_eq_true h3, r1⟩, r2 fa F B⟩
    · cases h
  | n + 1, .lst _, u, h => by cases u <;> (unfold repC at h; cases h)
  | n + 1, .dic _, u, h => by cases u <;> (unfold repC at h; cases h)
  | n + 1, .own _, u, h => by cases u <;> (unfold repC at h; cases h)
  | n + 1, .odc _, u, h => by cases u <;> (unfold repC at h; cases h)
  | n + 1, .scr _, u, h => by cases u <;> (unfold repC at h; cases h)
  | n + 1, .box _, u, h => by cases u <;> (unfold repC at h; cases h)
  | n + 1, .fn _, u, h => by cases u <;> (unfold repC at h; cases h)
theorem repCs_ok : ∀ (n : Nat) (ds : List D) (us : List Value), repCs K n ds us = true → ∃ vs, Vals vs us ∧ ∀ fa F B, Reps K fa F B ds vs
  | 0, ds, us, h => by unfold repCs at h; cases h
  | n + 1, [], us, h => by
    cases us <;> first | (unfold repCs at h; cases h; done) | skip
    exact ⟨[], .nil, fun _ _ _ => Reps.nil⟩
  | n + 1, d :: ds, us, h => by
    cases us <;> first | (unfold repCs at h; cases h; done) | skip
    unfold repCs at h
    obtain ⟨h1, h2⟩ := He.ba h
    obtain ⟨v, r1, r2⟩ := repC_ok n d _ h1
    obtain ⟨vs, r3, r4⟩ := repCs_ok n ds _ h2
    exact ⟨v :: vs, .cons r1 r3, fun fa F B => .cons (r2 fa F B) (r4 fa F B)⟩
end
end
def glC (K : PySem.W.Frag) (g : Str × D) : Bool := match PySem.W.nsIn K mainGlobals g.1 with
  | some (some u) => repC K 20 g.2 u
  | _ => false
/-! ### the head -/
def Prg.fas (p : Prg) : List He.Fa := p.defs.map (fun d => He.Fa.glo d.name) ++ p.bls.map He.Fa.free
def Prg.fns (p : Prg) : List He.DefD := p.defs.map Prg.dd
abbrev AlQ : Type := He.AlD × Bool
def obsQ (m : Nat) (p : Prg) (g : Addr → Option Obj) : AlQ := (He.obsDG m p.fas p.fns g, p.gls.all (glC (He.frG g (He.asD g m))))
def valQ (p : Prg) : AlQ := (He.valD p.fns, true)
def hookQ (m : Nat) (p : Prg) : PySem.W.Hook where
  α := AlQ
  obs := fun s => obsQ m p s.heap.get?
  val := fun _ => valQ p
  says := fun _ h => ∃ K : PySem.W.Frag, K.In h ∧ He.SaysD p.fas p.fns K ∧ p.gls.all (glC K) = true
  of := fun _ _ e => ⟨_, He.frG_in, congrArg Prod.fst e, congrArg Prod.snd e⟩
  keeps := fun _ _ _ ⟨K, hK, c⟩ k => ⟨K, PySem.W.Frag.In.keeps hK k, c⟩
theorem obsQ_eq {m : Nat} {p : Prg} {g : Addr → Option Obj} {s : Shared} (h : ∀ a, g a = s.heap.get? a) : obsQ m p g = (hookQ m p).obs s := by
  have e : g = s.heap.get? := funext h
  rw [e] <;> rfl
def faQ (p : Prg) (K : PySem.W.Frag) (k : Nat) : Option Addr := (p.defs[k]?).map fun d => He.ga K d.name
theorem has_of {p : Prg} {K : PySem.W.Frag} {h : Heap} {mg : Str → Option Value} (X : K.In h) (G : h.Ns mainGlobals mg) (c : He.SaysD p.fas p.fns K) (cg : p.gls.all (glC K) = true) : Has p K mg (faQ p K) where
  defs := fun k d hk => by
    have h1 : p.fas[k]? = some (He.Fa.glo d.name) := by
      unfold Prg.fas
      have hl : k < p.defs.length := (List.getElem?_eq_some_iff.mp hk).1
      rw [List.getElem?_append_left (by simpa using hl), List.getElem?_map, hk]; rfl
    have h2 : p.fns[k]? = some (Prg.dd d) := by unfold Prg.fns; rw [List.getElem?_map, hk]; rfl
    obtain ⟨fd, F⟩ := c.def_ k h2
    exact ⟨He.ga K d.name, fd, by unfold faQ; rw [hk]; rfl, He.glo_ok X G (c.fact k h1), F⟩
  gls := fun f d hf => by
    have h1 := List.all_eq_true.mp cg _ hf
    unfold glC at h1
    split at h1
    · rename_i u hu
      obtain ⟨v, r1, r2⟩ := repC_ok 20 d u h1
      exact ⟨u, v, PySem.W.mg_of X G hu, r1, r2 _⟩
    · cases h1
  bls := fun f hf => by
    obtain ⟨i, hi⟩ := List.getElem?_of_mem hf
    have h1 : p.fas[p.defs.length + i]? = some (He.Fa.free f) := by
      unfold Prg.fas
      rw [List.getElem?_append_right (by simp), List.getElem?_map, List.length_map, Nat.add_sub_cancel_left, hi]; rfl
    exact He.free_ok X G (c.fact _ h1)
theorem law_F {p : Prg} {m n kl : Nat} {d : QD} (hd : ∀ d, d ∈ p.defs → DefOk p.fnsT p.glsT p.bls d) (hk : p.defs[kl]? = some d) (hps : d.ps = [("script" : Str)]) (hlaw : ∀ ns : List Int, ns.length ≤ 63 → ∃ L b, callN p.tb p.gb L n kl [.scr ns] [] = .ok (.bl true) b)
    {P : Program} {w : World} {mg : Str → Option Value} {fa : Addr} {h : Heap} (Y : (hookQ m p).says w h) (G : h.Ns mainGlobals mg) (hf : mg d.name = some (.ref fa)) :
    ∃ (K : PySem.W.Frag) (fd : FuncData) (sp : Sp), K.In h ∧ (∀ (s : Shared) (u : Value), BindsTo s fd ⟨[u], []⟩ [(("script" : Str), u)]) ∧
        (∀ (H : Hp) (a : Addr) (ns : List Int), ns.length ≤ 63 → Only H → SqL K H a (ns.map V.int) → sp [.ref a] H (fun v _ => v = .bl true) fun _ _ _ => False) ∧
        ∀ base : Heap, K.In base → base.Ns mainGlobals mg → FnOk P w K mg base L2.CX0 n fa fd [("script" : Str)] sp := by
  obtain ⟨K, KX, c, cg⟩ := Y
  have hs := has_of KX G c cg
  obtain ⟨a, fd, q1, q2, F⟩ := hs.defs kl d hk
  rw [hf] at q2; cases q2
  have D := hd d (List.mem_of_getElem? hk)
  refine ⟨K, fd, fun vs H Q E => ∃ L, spF K (faQ p K) (callN p.tb p.gb L n) 1 kl vs H Q E, KX, fun s u => ?_, fun H a ns hl hO hS => ?_, fun base hb hg => ?_⟩
  · have hb := D.bind
    rw [hps] at hb
    exact F.bindsA hb s [u] rfl
  · obtain ⟨L, b, hc⟩ := hlaw ns hl
    refine ⟨L, rfl, H, H, [], [.scr ns], [], .bl true, b, ⟨Ex.refl _, Ex.refl _, rfl, (fun i d h => by rw [get_nil] at h; cases h), (fun i j d e v _ h _ _ _ _ _ => by rw [get_nil] at h; cases h), rfl, (fun k xs h => by cases h), List.nodup_nil⟩, .one ?_, hc, fun _ _ e _ => e, fun F' B' H' v st r rr => rep_bl (rr.rep rfl)⟩
    unfold Rep
    exact ⟨a, rfl, hS⟩
  · have ok := fun L => fns_ok (P := P) (w := w) (base := base) (L := L) hd hs n kl d fa fd hk q1 F
    rw [hps] at ok
    exact ⟨fun vs H Q E ⟨L, z⟩ => (ok L).len vs H Q E z, fun A outer s H args us vs Q E hr he hb hv ⟨L, z⟩ => (ok L).run A outer s H args us vs Q E hr he hb hv z⟩
end Q
end

section
set_option maxRecDepth 100000
set_option maxHeartbeats 0
namespace Q.K26
open PySem PySem.Spec PyProof.Rows L2
abbrev top (i : Nat) : Stmt := PySem.Challenge.pw_everysample_k26_whole_small_move_on_edge.main.body.getD i (.Pass ⟨0, 0, 0, 0⟩)
def fT : List (Str × Nat × Nat) := [(("is_integer" : Str), 0, 1), (("is_within" : Str), 1, 3), (("is_sized" : Str), 2, 3), (("common" : Str), 3, 2), (("share" : Str), 4, 2), (("is_share" : Str), 5, 1), (("plus" : Str), 6, 2), (("minus" : Str), 7, 2), (("times" : Str), 8, 2), (("over" : Str), 9, 2), (("is_point" : Str), 10, 1), (("check_points" : Str), 11, 1), (("is_plane" : Str), 12, 1), (("dot" : Str), 13, 2), (("cross" : Str), 14, 2), (("upright" : Str), 15, 2), (("volume" : Str), 16, 3), (("turn_of" : Str), 17, 3), (("sign_of" : Str), 18, 1), (("as_shares" : Str), 19, 1), (("check_size" : Str), 20, 2), (("is_sample" : Str), 21, 3), (("check_sample" : Str), 22, 3), (("ray" : Str), 23, 3), (("ray_of" : Str), 24, 3), (("moved_sign" : Str), 25, 2), (("small_sign" : Str), 26, 4), (("seen_at" : Str), 27, 1), (("shown" : Str), 28, 1), (("scaled" : Str), 29, 2), (("less" : Str), 30, 2), (("sum_of" : Str), 31, 1), (("is_corner" : Str), 32, 1), (("is_triangle" : Str), 33, 1), (("walls_right" : Str), 34, 1), (("check_triangle" : Str), 35, 2), (("points_of" : Str), 36, 1), (("sides_of" : Str), 37, 1), (("first_beside" : Str), 38, 2), (("first_wall" : Str), 39, 3), (("met" : Str), 40, 3), (("hit" : Str), 41, 5), (("is_piece" : Str), 42, 1), (("check_piece" : Str), 43, 1), (("seen" : Str), 44, 1), (("area" : Str), 45, 1), (("edge_at" : Str), 46, 4), (("edge_sign" : Str), 47, 4), (("edges_of" : Str), 48, 1), (("owns" : Str), 49, 2), (("covers" : Str), 50, 4), (("_law_tape" : Str), 51, 1), (("_law_pick" : Str), 52, 2), (("_law_any" : Str), 53, 2), (("_law_mixed" : Str), 54, 2), (("_law_shared" : Str), 55, 2), (("_law_over" : Str), 56, 2), (("_law_plus" : Str), 57, 2), (("_law_times" : Str), 58, 2), (("_law_minus" : Str), 59, 2), (("_law_part" : Str), 60, 2), (("_law_sign" : Str), 61, 1), (("_law_dot" : Str), 62, 2), (("_law_upright" : Str), 63, 2), (("_law_turn" : Str), 64, 3), (("_law_ray" : Str), 65, 4), (("_law_small" : Str), 66, 2), (("_law_edges" : Str), 67, 1), (("_law_owns" : Str), 68, 2), (("_law_weights" : Str), 69, 2), (("_law_number" : Str), 70, 2), (("_law_piece" : Str), 71, 2), (("_law_points" : Str), 72, 1), (("_law_size" : Str), 73, 1), (("_law_moved" : Str), 74, 2), (("_law_form" : Str), 75, 2), (("_law_forms_right" : Str), 76, 1), (("_law_edge_right" : Str), 77, 1), (("_law_fence_right" : Str), 78, 1), (("_law_barred_right" : Str), 79, 6), (("law" : Str), 80, 1)]
def gT : List (Str × Nat) := [(("ZERO" : Str), 0), (("ONE" : Str), 1), (("MOST_SIZE" : Str), 2), (("MOST_NUMBER_planes" : Str), 3), (("MOST_WALLS" : Str), 4), (("MOST_PROGRAMS" : Str), 5), (("MOST_VALUES" : Str), 6), (("HIT" : Str), 7), (("BESIDE" : Str), 8), (("FLAT" : Str), 9), (("WALL" : Str), 10), (("MOST_NUMBER_clips" : Str), 11)]
def bT : List Str := [("len" : Str), ("abs" : Str), ("int" : Str), ("all" : Str), ("tuple" : Str), ("list" : Str), ("isinstance" : Str), ("range" : Str), ("zip" : Str), ("enumerate" : Str), ("bool" : Str)]
/-- is_integer(thing); slots: thing -/
def i0 : St := (.seq (.ret (.and (.isi (.var 0) [.int]) (.not (.isi (.var 0) [.bool])))) .nil)
def q0 : QD := ⟨top 1, "is_integer", [("thing" : Str)], [("thing" : Str)], false, i0⟩
/-- is_within(thing, low, high); slots: thing, low, high -/
def i1 : St := (.seq (.ret (.and (.call 0 (.cons (.var 0) .nil)) (.chn .le .le (.var 1) (.var 0) (.var 2)))) .nil)
def q1 : QD := ⟨top 2, "is_within", [("thing" : Str), ("low" : Str), ("high" : Str)], [("thing" : Str), ("low" : Str), ("high" : Str)], false, i1⟩
/-- is_sized(thing, low, high); slots: thing, low, high -/
def i2 : St := (.seq (.ret (.and (.isi (.var 0) [.tuple]) (.chn .le .le (.var 1) (.lenv 0) (.var 2)))) .nil)
def q2 : QD := ⟨top 3, "is_sized", [("thing" : Str), ("low" : Str), ("high" : Str)], [("thing" : Str), ("low" : Str), ("high" : Str)], false, i2⟩
/-- common(one, other); slots: one, other -/
def i3 : St := (.seq (.whl (.tru (.cmp .ne (.var 1) (.cst (.int 0)))) (.seq (.par 0 1 (.var 1) (.bin .mod (.var 0) (.var 1))) .nil)) (.seq (.ret (.blt .abs (.cons (.var 0) .nil))) .nil))
def q3 : QD := ⟨top 15, "common", [("one" : Str), ("other" : Str)], [("one" : Str), ("other" : Str)], false, i3⟩
/-- share(top, bottom); slots: top, bottom, divisor -/
def i4 : St := (.seq (.asv 2 (.call 3 (.cons (.var 0) (.cons (.var 1) .nil)))) (.seq (.asv 2 (.ite (.tru (.cmp .gt (.var 1) (.cst (.int 0)))) (.var 2) (.bin .sub (.cst (.int 0)) (.var 2)))) (.seq (.ret (.tup (.cons (.bin .fdiv (.var 0) (.var 2)) (.cons (.bin .fdiv (.var 1) (.var 2)) .nil)))) .nil)))
def q4 : QD := ⟨top 16, "share", [("top" : Str), ("bottom" : Str)], [("top" : Str), ("bottom" : Str), ("divisor" : Str)], false, i4⟩
/-- is_share(thing); slots: thing, one -/
def i5 : St := (.seq (.ite (.or (.not (.tru (.call 2 (.cons (.var 0) (.cons (.cst (.int 2)) (.cons (.cst (.int 2)) .nil)))))) (.not (.tru (.blt .all (.cons (.lc (.call 0 (.cons (.var 1) .nil)) (.var 1) (.its (.var 0)) .nil [1]) .nil))))) (.seq (.ret (.cst (.bl false))) .nil) .nil) (.seq (.ret (.and (.cmp .gt (.ixv 0 (.cst (.int 1))) (.cst (.int 0))) (.cmp .eq (.call 3 (.cons (.ixv 0 (.cst (.int 0))) (.cons (.ixv 0 (.cst (.int 1))) .nil))) (.cst (.int 1))))) .nil))
def q5 : QD := ⟨top 17, "is_share", [("thing" : Str)], [("thing" : Str), ("one" : Str)], false, i5⟩
/-- plus(one, other); slots: one, other -/
def i6 : St := (.seq (.ret (.call 4 (.cons (.bin .add (.bin .mul (.ixv 0 (.cst (.int 0))) (.ixv 1 (.cst (.int 1)))) (.bin .mul (.ixv 1 (.cst (.int 0))) (.ixv 0 (.cst (.int 1))))) (.cons (.bin .mul (.ixv 0 (.cst (.int 1))) (.ixv 1 (.cst (.int 1)))) .nil)))) .nil)
def q6 : QD := ⟨top 18, "plus", [("one" : Str), ("other" : Str)], [("one" : Str), ("other" : Str)], false, i6⟩
/-- minus(one, other); slots: one, other -/
def i7 : St := (.seq (.ret (.call 4 (.cons (.bin .sub (.bin .mul (.ixv 0 (.cst (.int 0))) (.ixv 1 (.cst (.int 1)))) (.bin .mul (.ixv 1 (.cst (.int 0))) (.ixv 0 (.cst (.int 1))))) (.cons (.bin .mul (.ixv 0 (.cst (.int 1))) (.ixv 1 (.cst (.int 1)))) .nil)))) .nil)
def q7 : QD := ⟨top 19, "minus", [("one" : Str), ("other" : Str)], [("one" : Str), ("other" : Str)], false, i7⟩
/-- times(one, other); slots: one, other -/
def i8 : St := (.seq (.ret (.call 4 (.cons (.bin .mul (.ixv 0 (.cst (.int 0))) (.ixv 1 (.cst (.int 0)))) (.cons (.bin .mul (.ixv 0 (.cst (.int 1))) (.ixv 1 (.cst (.int 1)))) .nil)))) .nil)
def q8 : QD := ⟨top 20, "times", [("one" : Str), ("other" : Str)], [("one" : Str), ("other" : Str)], false, i8⟩
/-- over(one, other); slots: one, other -/
def i9 : St := (.seq (.ret (.call 4 (.cons (.bin .mul (.ixv 0 (.cst (.int 0))) (.ixv 1 (.cst (.int 1)))) (.cons (.bin .mul (.ixv 0 (.cst (.int 1))) (.ixv 1 (.cst (.int 0)))) .nil)))) .nil)
def q9 : QD := ⟨top 21, "over", [("one" : Str), ("other" : Str)], [("one" : Str), ("other" : Str)], false, i9⟩
/-- is_point(thing); slots: thing, one -/
def i10 : St := (.seq (.ret (.and (.call 2 (.cons (.var 0) (.cons (.cst (.int 3)) (.cons (.cst (.int 3)) .nil)))) (.blt .all (.cons (.lc (.call 5 (.cons (.var 1) .nil)) (.var 1) (.its (.var 0)) .nil [1]) .nil)))) .nil)
def q10 : QD := ⟨top 25, "is_point", [("thing" : Str)], [("thing" : Str), ("one" : Str)], false, i10⟩
/-- check_points(points); slots: points, point -/
def i11 : St := (.seq (.for (.var 1) (.its (.var 0)) (.seq (.ite (.not (.tru (.call 10 (.cons (.var 1) .nil)))) (.seq (.rais 0 .nil) .nil) .nil) .nil)) .nil)
def q11 : QD := ⟨top 26, "check_points", [("points" : Str)], [("points" : Str), ("point" : Str)], false, i11⟩
/-- is_plane(thing); slots: thing, one -/
def i12 : St := (.seq (.ite (.or (.not (.tru (.call 2 (.cons (.var 0) (.cons (.cst (.int 4)) (.cons (.cst (.int 4)) .nil)))))) (.not (.tru (.blt .all (.cons (.lc (.call 1 (.cons (.var 1) (.cons (.bin .sub (.cst (.int 0)) (.glb 3)) (.cons (.glb 3) .nil)))) (.var 1) (.its (.var 0)) .nil [1]) .nil))))) (.seq (.ret (.cst (.bl false))) .nil) .nil) (.seq (.ret (.cmp .ne (.slv 0 .nil (.prt (.cst (.int 3)))) (.tup (.cons (.cst (.int 0)) (.cons (.cst (.int 0)) (.cons (.cst (.int 0)) .nil)))))) .nil))
def q12 : QD := ⟨top 27, "is_plane", [("thing" : Str)], [("thing" : Str), ("one" : Str)], false, i12⟩
/-- dot(one, other); slots: one, other -/
def i13 : St := (.seq (.ret (.call 6 (.cons (.call 6 (.cons (.call 8 (.cons (.ixv 0 (.cst (.int 0))) (.cons (.ixv 1 (.cst (.int 0))) .nil))) (.cons (.call 8 (.cons (.ixv 0 (.cst (.int 1))) (.cons (.ixv 1 (.cst (.int 1))) .nil))) .nil))) (.cons (.call 8 (.cons (.ixv 0 (.cst (.int 2))) (.cons (.ixv 1 (.cst (.int 2))) .nil))) .nil)))) .nil)
def q13 : QD := ⟨top 28, "dot", [("one" : Str), ("other" : Str)], [("one" : Str), ("other" : Str)], false, i13⟩
/-- cross(one, other); slots: one, other, found, at, b, c -/
def i14 : St := (.seq (.asv 2 (.lst .nil)) (.seq (.for (.var 3) (.rng1 (.cst (.int 3))) (.seq (.par 4 5 (.bin .mod (.bin .add (.var 3) (.cst (.int 1))) (.cst (.int 3))) (.bin .mod (.bin .add (.var 3) (.cst (.int 2))) (.cst (.int 3)))) (.seq (.ex (.mut .append 2 (.cons (.call 7 (.cons (.call 8 (.cons (.ixv 0 (.var 4)) (.cons (.ixv 1 (.var 5)) .nil))) (.cons (.call 8 (.cons (.ixv 0 (.var 5)) (.cons (.ixv 1 (.var 4)) .nil))) .nil))) .nil))) .nil))) (.seq (.ret (.blt .tuple (.cons (.var 2) .nil))) .nil)))
def q14 : QD := ⟨top 29, "cross", [("one" : Str), ("other" : Str)], [("one" : Str), ("other" : Str), ("found" : Str), ("at" : Str), ("b" : Str), ("c" : Str)], false, i14⟩
/-- upright(one, other); slots: one, other -/
def i15 : St := (.seq (.ex (.call 11 (.cons (.tup (.cons (.var 0) (.cons (.var 1) .nil))) .nil))) (.seq (.ret (.call 14 (.cons (.var 0) (.cons (.var 1) .nil)))) .nil))
def q15 : QD := ⟨top 30, "upright", [("one" : Str), ("other" : Str)], [("one" : Str), ("other" : Str)], false, i15⟩
/-- volume(one, other, third); slots: one, other, third -/
def i16 : St := (.seq (.ret (.call 13 (.cons (.var 0) (.cons (.call 14 (.cons (.var 1) (.cons (.var 2) .nil))) .nil)))) .nil)
def q16 : QD := ⟨top 31, "volume", [("one" : Str), ("other" : Str), ("third" : Str)], [("one" : Str), ("other" : Str), ("third" : Str)], false, i16⟩
/-- turn_of(one, other, third); slots: one, other, third -/
def i17 : St := (.seq (.ex (.call 11 (.cons (.tup (.cons (.var 0) (.cons (.var 1) (.cons (.var 2) .nil)))) .nil))) (.seq (.ret (.call 16 (.cons (.var 0) (.cons (.var 1) (.cons (.var 2) .nil))))) .nil))
def q17 : QD := ⟨top 32, "turn_of", [("one" : Str), ("other" : Str), ("third" : Str)], [("one" : Str), ("other" : Str), ("third" : Str)], false, i17⟩
/-- sign_of(number); slots: number -/
def i18 : St := (.seq (.ret (.bin .sub (.blt .int (.cons (.cmp .gt (.ixv 0 (.cst (.int 0))) (.cst (.int 0))) .nil)) (.blt .int (.cons (.cmp .lt (.ixv 0 (.cst (.int 0))) (.cst (.int 0))) .nil)))) .nil)
def q18 : QD := ⟨top 33, "sign_of", [("number" : Str)], [("number" : Str)], false, i18⟩
/-- as_shares(numbers); slots: numbers, number -/
def i19 : St := (.seq (.ret (.blt .tuple (.cons (.lc (.tup (.cons (.var 1) (.cons (.cst (.int 1)) .nil))) (.var 1) (.its (.var 0)) .nil [1]) .nil))) .nil)
def q19 : QD := ⟨top 34, "as_shares", [("numbers" : Str)], [("numbers" : Str), ("number" : Str)], false, i19⟩
/-- check_size(width, height); slots: width, height -/
def i20 : St := (.seq (.ite (.or (.not (.tru (.call 1 (.cons (.var 0) (.cons (.cst (.int 1)) (.cons (.glb 2) .nil)))))) (.not (.tru (.call 1 (.cons (.var 1) (.cons (.cst (.int 1)) (.cons (.glb 2) .nil))))))) (.seq (.rais 0 .nil) .nil) .nil) .nil)
def q20 : QD := ⟨top 35, "check_size", [("width" : Str), ("height" : Str)], [("width" : Str), ("height" : Str)], false, i20⟩
/-- is_sample(width, height, thing); slots: width, height, thing -/
def i21 : St := (.seq (.ex (.call 20 (.cons (.var 0) (.cons (.var 1) .nil)))) (.seq (.ret (.and (.call 2 (.cons (.var 2) (.cons (.cst (.int 2)) (.cons (.cst (.int 2)) .nil)))) (.and (.call 1 (.cons (.ixv 2 (.cst (.int 0))) (.cons (.cst (.int 0)) (.cons (.bin .sub (.var 0) (.cst (.int 1))) .nil)))) (.call 1 (.cons (.ixv 2 (.cst (.int 1))) (.cons (.cst (.int 0)) (.cons (.bin .sub (.var 1) (.cst (.int 1))) .nil))))))) .nil))
def q21 : QD := ⟨top 36, "is_sample", [("width" : Str), ("height" : Str), ("thing" : Str)], [("width" : Str), ("height" : Str), ("thing" : Str)], false, i21⟩
/-- check_sample(width, height, sample); slots: width, height, sample -/
def i22 : St := (.seq (.ite (.not (.tru (.call 21 (.cons (.var 0) (.cons (.var 1) (.cons (.var 2) .nil)))))) (.seq (.rais 0 .nil) .nil) .nil) .nil)
def q22 : QD := ⟨top 37, "check_sample", [("width" : Str), ("height" : Str), ("sample" : Str)], [("width" : Str), ("height" : Str), ("sample" : Str)], false, i22⟩
/-- ray(width, height, sample); slots: width, height, sample -/
def i23 : St := (.seq (.ret (.tup (.cons (.call 4 (.cons (.bin .sub (.bin .add (.bin .mul (.cst (.int 2)) (.ixv 2 (.cst (.int 0)))) (.cst (.int 1))) (.var 0)) (.cons (.cst (.int 2)) .nil))) (.cons (.call 4 (.cons (.bin .sub (.bin .add (.bin .mul (.cst (.int 2)) (.ixv 2 (.cst (.int 1)))) (.cst (.int 1))) (.var 1)) (.cons (.cst (.int 2)) .nil))) (.cons (.glb 1) .nil))))) .nil)
def q23 : QD := ⟨top 38, "ray", [("width" : Str), ("height" : Str), ("sample" : Str)], [("width" : Str), ("height" : Str), ("sample" : Str)], false, i23⟩
/-- ray_of(width, height, sample); slots: width, height, sample -/
def i24 : St := (.seq (.ex (.call 22 (.cons (.var 0) (.cons (.var 1) (.cons (.var 2) .nil))))) (.seq (.ret (.call 23 (.cons (.var 0) (.cons (.var 1) (.cons (.var 2) .nil))))) .nil))
def q24 : QD := ⟨top 39, "ray_of", [("width" : Str), ("height" : Str), ("sample" : Str)], [("width" : Str), ("height" : Str), ("sample" : Str)], false, i24⟩
/-- moved_sign(form, point); slots: form, point, number -/
def i25 : St := (.seq (.for (.var 2) (.its (.tup (.cons (.call 13 (.cons (.var 0) (.cons (.var 1) .nil))) (.cons (.ixv 0 (.cst (.int 0))) (.cons (.ixv 0 (.cst (.int 1))) .nil))))) (.seq (.ite (.tru (.cmp .ne (.call 18 (.cons (.var 2) .nil)) (.cst (.int 0)))) (.seq (.ret (.call 18 (.cons (.var 2) .nil))) .nil) .nil) .nil)) (.seq (.ret (.cst (.int 0))) .nil))
def q25 : QD := ⟨top 40, "moved_sign", [("form" : Str), ("point" : Str)], [("form" : Str), ("point" : Str), ("number" : Str)], false, i25⟩
/-- small_sign(form, width, height, sample); slots: form, width, height, sample -/
def i26 : St := (.seq (.ex (.call 11 (.cons (.tup (.cons (.var 0) .nil)) .nil))) (.seq (.ex (.call 22 (.cons (.var 1) (.cons (.var 2) (.cons (.var 3) .nil))))) (.seq (.ret (.call 25 (.cons (.var 0) (.cons (.call 23 (.cons (.var 1) (.cons (.var 2) (.cons (.var 3) .nil)))) .nil)))) .nil)))
def q26 : QD := ⟨top 41, "small_sign", [("form" : Str), ("width" : Str), ("height" : Str), ("sample" : Str)], [("form" : Str), ("width" : Str), ("height" : Str), ("sample" : Str)], false, i26⟩
/-- seen_at(point); slots: point -/
def i27 : St := (.seq (.ret (.tup (.cons (.call 9 (.cons (.ixv 0 (.cst (.int 0))) (.cons (.ixv 0 (.cst (.int 2))) .nil))) (.cons (.call 9 (.cons (.ixv 0 (.cst (.int 1))) (.cons (.ixv 0 (.cst (.int 2))) .nil))) .nil)))) .nil)
def q27 : QD := ⟨top 42, "seen_at", [("point" : Str)], [("point" : Str)], false, i27⟩
/-- shown(point); slots: point -/
def i28 : St := (.seq (.ex (.call 11 (.cons (.tup (.cons (.var 0) .nil)) .nil))) (.seq (.ret (.ite (.tru (.cmp .gt (.call 18 (.cons (.ixv 0 (.cst (.int 2))) .nil)) (.cst (.int 0)))) (.call 27 (.cons (.var 0) .nil)) (.cst .non))) .nil))
def q28 : QD := ⟨top 43, "shown", [("point" : Str)], [("point" : Str)], false, i28⟩
/-- scaled(point, number); slots: point, number, one -/
def i29 : St := (.seq (.ret (.blt .tuple (.cons (.lc (.call 8 (.cons (.var 1) (.cons (.var 2) .nil))) (.var 2) (.its (.var 0)) .nil [2]) .nil))) .nil)
def q29 : QD := ⟨top 44, "scaled", [("point" : Str), ("number" : Str)], [("point" : Str), ("number" : Str), ("one" : Str)], false, i29⟩
/-- less(one, other); slots: one, other, a, b -/
def i30 : St := (.seq (.ret (.blt .tuple (.cons (.lc (.call 7 (.cons (.var 2) (.cons (.var 3) .nil))) (.tup (.cons (.var 2) (.cons (.var 3) .nil))) (.zip (.var 0) (.var 1)) .nil [2, 3]) .nil))) .nil)
def q30 : QD := ⟨top 45, "less", [("one" : Str), ("other" : Str)], [("one" : Str), ("other" : Str), ("a" : Str), ("b" : Str)], false, i30⟩
/-- sum_of(points); slots: points, found, point, a, b -/
def i31 : St := (.seq (.asv 1 (.tup (.cons (.glb 0) (.cons (.glb 0) (.cons (.glb 0) .nil))))) (.seq (.for (.var 2) (.its (.var 0)) (.seq (.asv 1 (.blt .tuple (.cons (.lc (.call 6 (.cons (.var 3) (.cons (.var 4) .nil))) (.tup (.cons (.var 3) (.cons (.var 4) .nil))) (.zip (.var 1) (.var 2)) .nil [3, 4]) .nil))) .nil)) (.seq (.ret (.var 1)) .nil)))
def q31 : QD := ⟨top 46, "sum_of", [("points" : Str)], [("points" : Str), ("found" : Str), ("point" : Str), ("a" : Str), ("b" : Str)], false, i31⟩
/-- is_corner(thing); slots: thing, value -/
def i32 : St := (.seq (.ite (.or (.not (.tru (.call 2 (.cons (.var 0) (.cons (.cst (.int 2)) (.cons (.cst (.int 2)) .nil)))))) (.not (.tru (.call 10 (.cons (.ixv 0 (.cst (.int 0))) .nil))))) (.seq (.ret (.cst (.bl false))) .nil) .nil) (.seq (.ret (.and (.call 2 (.cons (.ixv 0 (.cst (.int 1))) (.cons (.cst (.int 1)) (.cons (.glb 6) .nil)))) (.blt .all (.cons (.lc (.call 5 (.cons (.var 1) .nil)) (.var 1) (.its (.ixv 0 (.cst (.int 1)))) .nil [1]) .nil)))) .nil))
def q32 : QD := ⟨top 55, "is_corner", [("thing" : Str)], [("thing" : Str), ("value" : Str)], false, i32⟩
/-- is_triangle(thing); slots: thing, corner -/
def i33 : St := (.seq (.ite (.or (.not (.tru (.call 2 (.cons (.var 0) (.cons (.cst (.int 4)) (.cons (.cst (.int 4)) .nil)))))) (.not (.tru (.call 1 (.cons (.ixv 0 (.cst (.int 0))) (.cons (.cst (.int 0)) (.cons (.bin .sub (.glb 5) (.cst (.int 1))) .nil))))))) (.seq (.ret (.cst (.bl false))) .nil) .nil) (.seq (.ite (.not (.tru (.blt .all (.cons (.lc (.call 32 (.cons (.var 1) .nil)) (.var 1) (.its (.slv 0 (.prt (.cst (.int 1))) .nil)) .nil [1]) .nil)))) (.seq (.ret (.cst (.bl false))) .nil) .nil) (.seq (.ret (.chn .eq .eq (.blt .len (.cons (.idx (.ixv 0 (.cst (.int 1))) (.cst (.int 1))) .nil)) (.blt .len (.cons (.idx (.ixv 0 (.cst (.int 2))) (.cst (.int 1))) .nil)) (.blt .len (.cons (.idx (.ixv 0 (.cst (.int 3))) (.cst (.int 1))) .nil)))) .nil)))
def q33 : QD := ⟨top 56, "is_triangle", [("thing" : Str)], [("thing" : Str), ("corner" : Str)], false, i33⟩
/-- walls_right(thing); slots: thing, wall -/
def i34 : St := (.seq (.ite (.or (.not (.tru (.call 2 (.cons (.var 0) (.cons (.cst (.int 1)) (.cons (.glb 4) .nil)))))) (.not (.tru (.blt .all (.cons (.lc (.call 12 (.cons (.var 1) .nil)) (.var 1) (.its (.var 0)) .nil [1]) .nil))))) (.seq (.ret (.cst (.bl false))) .nil) .nil) (.seq (.ret (.and (.cmp .eq (.slc (.ixv 0 (.cst (.int 0))) .nil (.prt (.cst (.int 3)))) (.tup (.cons (.cst (.int 0)) (.cons (.cst (.int 0)) (.cons (.cst (.int 1)) .nil))))) (.cmp .gt (.idx (.ixv 0 (.cst (.int 0))) (.cst (.int 3))) (.cst (.int 0))))) .nil))
def q34 : QD := ⟨top 57, "walls_right", [("thing" : Str)], [("thing" : Str), ("wall" : Str)], false, i34⟩
/-- check_triangle(triangle, walls); slots: triangle, walls -/
def i35 : St := (.seq (.ite (.not (.tru (.call 33 (.cons (.var 0) .nil)))) (.seq (.rais 0 .nil) .nil) .nil) (.seq (.ite (.not (.tru (.call 34 (.cons (.var 1) .nil)))) (.seq (.rais 0 .nil) .nil) .nil) .nil))
def q35 : QD := ⟨top 58, "check_triangle", [("triangle" : Str), ("walls" : Str)], [("triangle" : Str), ("walls" : Str)], false, i35⟩
/-- points_of(triangle); slots: triangle, corner -/
def i36 : St := (.seq (.ret (.lc (.ixv 1 (.cst (.int 0))) (.var 1) (.its (.slv 0 (.prt (.cst (.int 1))) (.prt (.cst (.int 4))))) .nil [1])) .nil)
def q36 : QD := ⟨top 59, "points_of", [("triangle" : Str)], [("triangle" : Str), ("corner" : Str)], false, i36⟩
/-- sides_of(points); slots: points, at -/
def i37 : St := (.seq (.ret (.lc (.call 14 (.cons (.ixv 0 (.bin .mod (.bin .add (.var 1) (.cst (.int 1))) (.cst (.int 3)))) (.cons (.ixv 0 (.bin .mod (.bin .add (.var 1) (.cst (.int 2))) (.cst (.int 3)))) .nil))) (.var 1) (.rng1 (.cst (.int 3))) .nil [1])) .nil)
def q37 : QD := ⟨top 60, "sides_of", [("points" : Str)], [("points" : Str), ("at" : Str)], false, i37⟩
/-- first_beside(points, sample_ray); slots: points, sample_ray, turn, signs, whole, at, side -/
def i38 : St := (.seq (.asv 2 (.call 18 (.cons (.call 16 (.cons (.ixv 0 (.cst (.int 0))) (.cons (.ixv 0 (.cst (.int 1))) (.cons (.ixv 0 (.cst (.int 2))) .nil)))) .nil))) (.seq (.ite (.tru (.cmp .eq (.var 2) (.cst (.int 0)))) (.seq (.ret (.tup (.cons (.glb 9) .nil))) .nil) .nil) (.seq (.asv 3 (.lc (.call 25 (.cons (.var 6) (.cons (.var 1) .nil))) (.var 6) (.its (.call 37 (.cons (.var 0) .nil))) .nil [6])) (.seq (.asv 4 (.call 25 (.cons (.call 31 (.cons (.call 37 (.cons (.var 0) .nil)) .nil)) (.cons (.var 1) .nil)))) (.seq (.for (.var 5) (.rng1 (.cst (.int 3))) (.seq (.ite (.tru (.cmp .ne (.ixv 3 (.var 5)) (.var 4))) (.seq (.ret (.tup (.cons (.glb 8) (.cons (.var 5) .nil)))) .nil) .nil) .nil)) (.seq (.ret (.ite (.tru (.cmp .eq (.var 4) (.var 2))) (.cst .non) (.tup (.cons (.glb 8) (.cons (.cst (.int 3)) .nil))))) .nil))))))
def q38 : QD := ⟨top 61, "first_beside", [("points" : Str), ("sample_ray" : Str)], [("points" : Str), ("sample_ray" : Str), ("turn" : Str), ("signs" : Str), ("whole" : Str), ("at" : Str), ("side" : Str)], false, i38⟩
/-- first_wall(points, walls, sample_ray); slots: points, walls, sample_ray, turn, whole, number, wall, form -/
def i39 : St := (.seq (.par 3 4 (.call 16 (.cons (.ixv 0 (.cst (.int 0))) (.cons (.ixv 0 (.cst (.int 1))) (.cons (.ixv 0 (.cst (.int 2))) .nil)))) (.call 31 (.cons (.call 37 (.cons (.var 0) .nil)) .nil))) (.seq (.for (.tup (.cons (.var 5) (.cons (.var 6) .nil))) (.enm (.var 1)) (.seq (.asv 7 (.call 30 (.cons (.call 29 (.cons (.call 19 (.cons (.slv 6 .nil (.prt (.cst (.int 3)))) .nil)) (.cons (.var 3) .nil))) (.cons (.call 29 (.cons (.var 4) (.cons (.tup (.cons (.ixv 6 (.cst (.int 3))) (.cons (.cst (.int 1)) .nil))) .nil))) .nil)))) (.seq (.ite (.tru (.cmp .lt (.bin .mul (.call 25 (.cons (.var 7) (.cons (.var 2) .nil))) (.call 25 (.cons (.var 4) (.cons (.var 2) .nil)))) (.cst (.int 0)))) (.seq (.ret (.var 5)) .nil) .nil) .nil))) (.seq (.ret (.cst .non)) .nil)))
def q39 : QD := ⟨top 62, "first_wall", [("points" : Str), ("walls" : Str), ("sample_ray" : Str)], [("points" : Str), ("walls" : Str), ("sample_ray" : Str), ("turn" : Str), ("whole" : Str), ("number" : Str), ("wall" : Str), ("form" : Str)], false, i39⟩
/-- met(points, walls, sample_ray); slots: points, walls, sample_ray, beside, number, sides, whole, depth, side -/
def i40 : St := (.seq (.asv 3 (.call 38 (.cons (.var 0) (.cons (.var 2) .nil)))) (.seq (.ite (.tru (.cmp .notN (.var 3) (.cst .non))) (.seq (.ret (.var 3)) .nil) .nil) (.seq (.asv 4 (.call 39 (.cons (.var 0) (.cons (.var 1) (.cons (.var 2) .nil))))) (.seq (.ite (.tru (.cmp .notN (.var 4) (.cst .non))) (.seq (.ret (.tup (.cons (.glb 10) (.cons (.var 4) .nil)))) .nil) .nil) (.seq (.asv 5 (.call 37 (.cons (.var 0) .nil))) (.seq (.asv 6 (.call 13 (.cons (.call 31 (.cons (.var 5) .nil)) (.cons (.var 2) .nil)))) (.seq (.asv 7 (.call 9 (.cons (.call 16 (.cons (.ixv 0 (.cst (.int 0))) (.cons (.ixv 0 (.cst (.int 1))) (.cons (.ixv 0 (.cst (.int 2))) .nil)))) (.cons (.var 6) .nil)))) (.seq (.ret (.tup (.cons (.glb 7) (.cons (.var 7) (.cons (.blt .tuple (.cons (.lc (.call 9 (.cons (.call 13 (.cons (.var 8) (.cons (.var 2) .nil))) (.cons (.var 6) .nil))) (.var 8) (.its (.var 5)) .nil [8]) .nil)) .nil))))) .nil))))))))
def q40 : QD := ⟨top 63, "met", [("points" : Str), ("walls" : Str), ("sample_ray" : Str)], [("points" : Str), ("walls" : Str), ("sample_ray" : Str), ("beside" : Str), ("number" : Str), ("sides" : Str), ("whole" : Str), ("depth" : Str), ("side" : Str)], false, i40⟩
/-- hit(triangle, walls, width, height, sample); slots: triangle, walls, width, height, sample -/
def i41 : St := (.seq (.ex (.call 35 (.cons (.var 0) (.cons (.var 1) .nil)))) (.seq (.ex (.call 22 (.cons (.var 2) (.cons (.var 3) (.cons (.var 4) .nil))))) (.seq (.ret (.call 40 (.cons (.call 36 (.cons (.var 0) .nil)) (.cons (.var 1) (.cons (.call 23 (.cons (.var 2) (.cons (.var 3) (.cons (.var 4) .nil)))) .nil))))) .nil)))
def q41 : QD := ⟨top 64, "hit", [("triangle" : Str), ("walls" : Str), ("width" : Str), ("height" : Str), ("sample" : Str)], [("triangle" : Str), ("walls" : Str), ("width" : Str), ("height" : Str), ("sample" : Str)], false, i41⟩
/-- is_piece(thing); slots: thing, corner -/
def i42 : St := (.seq (.ite (.or (.not (.tru (.call 2 (.cons (.var 0) (.cons (.cst (.int 4)) (.cons (.cst (.int 4)) .nil)))))) (.not (.tru (.call 1 (.cons (.ixv 0 (.cst (.int 0))) (.cons (.cst (.int 0)) (.cons (.glb 11) .nil))))))) (.seq (.ret (.cst (.bl false))) .nil) .nil) (.seq (.ite (.not (.tru (.blt .all (.cons (.lc (.and (.call 32 (.cons (.var 1) .nil)) (.cmp .gt (.call 18 (.cons (.idx (.ixv 1 (.cst (.int 0))) (.cst (.int 2))) .nil)) (.cst (.int 0)))) (.var 1) (.its (.slv 0 (.prt (.cst (.int 1))) .nil)) .nil [1]) .nil)))) (.seq (.ret (.cst (.bl false))) .nil) .nil) (.seq (.ret (.chn .eq .eq (.blt .len (.cons (.idx (.ixv 0 (.cst (.int 1))) (.cst (.int 1))) .nil)) (.blt .len (.cons (.idx (.ixv 0 (.cst (.int 2))) (.cst (.int 1))) .nil)) (.blt .len (.cons (.idx (.ixv 0 (.cst (.int 3))) (.cst (.int 1))) .nil)))) .nil)))
def q42 : QD := ⟨top 67, "is_piece", [("thing" : Str)], [("thing" : Str), ("corner" : Str)], false, i42⟩
/-- check_piece(piece); slots: piece -/
def i43 : St := (.seq (.ite (.not (.tru (.call 42 (.cons (.var 0) .nil)))) (.seq (.rais 0 .nil) .nil) .nil) .nil)
def q43 : QD := ⟨top 68, "check_piece", [("piece" : Str)], [("piece" : Str)], false, i43⟩
/-- seen(piece); slots: piece, corner -/
def i44 : St := (.seq (.ret (.lc (.call 27 (.cons (.ixv 1 (.cst (.int 0))) .nil)) (.var 1) (.its (.slv 0 (.prt (.cst (.int 1))) (.prt (.cst (.int 4))))) .nil [1])) .nil)
def q44 : QD := ⟨top 70, "seen", [("piece" : Str)], [("piece" : Str), ("corner" : Str)], false, i44⟩
/-- area(places); slots: places, ax, ay, bx, by, cx, cy -/
def i45 : St := (.seq (.asg (.tup (.cons (.tup (.cons (.var 1) (.cons (.var 2) .nil))) (.cons (.tup (.cons (.var 3) (.cons (.var 4) .nil))) (.cons (.tup (.cons (.var 5) (.cons (.var 6) .nil))) .nil)))) (.var 0)) (.seq (.ret (.call 7 (.cons (.call 8 (.cons (.call 7 (.cons (.var 3) (.cons (.var 1) .nil))) (.cons (.call 7 (.cons (.var 6) (.cons (.var 2) .nil))) .nil))) (.cons (.call 8 (.cons (.call 7 (.cons (.var 4) (.cons (.var 2) .nil))) (.cons (.call 7 (.cons (.var 5) (.cons (.var 1) .nil))) .nil))) .nil)))) .nil))
def q45 : QD := ⟨top 71, "area", [("places" : Str)], [("places" : Str), ("ax" : Str), ("ay" : Str), ("bx" : Str), ("by" : Str), ("cx" : Str), ("cy" : Str)], false, i45⟩
/-- edge_at(one, other, x, y); slots: one, other, x, y, dx, dy -/
def i46 : St := (.seq (.par 4 5 (.call 7 (.cons (.ixv 1 (.cst (.int 0))) (.cons (.ixv 0 (.cst (.int 0))) .nil))) (.call 7 (.cons (.ixv 1 (.cst (.int 1))) (.cons (.ixv 0 (.cst (.int 1))) .nil)))) (.seq (.ret (.call 7 (.cons (.call 8 (.cons (.var 4) (.cons (.call 7 (.cons (.var 3) (.cons (.ixv 0 (.cst (.int 1))) .nil))) .nil))) (.cons (.call 8 (.cons (.var 5) (.cons (.call 7 (.cons (.var 2) (.cons (.ixv 0 (.cst (.int 0))) .nil))) .nil))) .nil)))) .nil))
def q46 : QD := ⟨top 72, "edge_at", [("one" : Str), ("other" : Str), ("x" : Str), ("y" : Str)], [("one" : Str), ("other" : Str), ("x" : Str), ("y" : Str), ("dx" : Str), ("dy" : Str)], false, i46⟩
/-- edge_sign(one, other, x, y); slots: one, other, x, y, number, dx, dy -/
def i47 : St := (.seq (.par 5 6 (.call 7 (.cons (.ixv 1 (.cst (.int 0))) (.cons (.ixv 0 (.cst (.int 0))) .nil))) (.call 7 (.cons (.ixv 1 (.cst (.int 1))) (.cons (.ixv 0 (.cst (.int 1))) .nil)))) (.seq (.for (.var 4) (.its (.tup (.cons (.call 46 (.cons (.var 0) (.cons (.var 1) (.cons (.var 2) (.cons (.var 3) .nil))))) (.cons (.call 7 (.cons (.glb 0) (.cons (.var 6) .nil))) (.cons (.var 5) .nil))))) (.seq (.ite (.tru (.cmp .ne (.call 18 (.cons (.var 4) .nil)) (.cst (.int 0)))) (.seq (.ret (.call 18 (.cons (.var 4) .nil))) .nil) .nil) .nil)) (.seq (.ret (.cst (.int 0))) .nil)))
def q47 : QD := ⟨top 73, "edge_sign", [("one" : Str), ("other" : Str), ("x" : Str), ("y" : Str)], [("one" : Str), ("other" : Str), ("x" : Str), ("y" : Str), ("number" : Str), ("dx" : Str), ("dy" : Str)], false, i47⟩
/-- edges_of(places); slots: places, turned, names, found, at -/
def i48 : St := (.seq (.asv 1 (.ite (.tru (.cmp .gt (.call 18 (.cons (.call 45 (.cons (.var 0) .nil)) .nil)) (.cst (.int 0)))) (.var 0) (.lst (.cons (.ixv 0 (.cst (.int 0))) (.cons (.ixv 0 (.cst (.int 2))) (.cons (.ixv 0 (.cst (.int 1))) .nil)))))) (.seq (.asv 2 (.ite (.tru (.cmp .gt (.call 18 (.cons (.call 45 (.cons (.var 0) .nil)) .nil)) (.cst (.int 0)))) (.lst (.cons (.cst (.int 0)) (.cons (.cst (.int 1)) (.cons (.cst (.int 2)) .nil)))) (.lst (.cons (.cst (.int 0)) (.cons (.cst (.int 2)) (.cons (.cst (.int 1)) .nil)))))) (.seq (.asv 3 (.lst (.cons (.cst .non) (.cons (.cst .non) (.cons (.cst .non) .nil))))) (.seq (.for (.var 4) (.rng1 (.cst (.int 3))) (.seq (.set 3 (.ixv 2 (.var 4)) (.tup (.cons (.ixv 1 (.bin .mod (.bin .add (.var 4) (.cst (.int 1))) (.cst (.int 3)))) (.cons (.ixv 1 (.bin .mod (.bin .add (.var 4) (.cst (.int 2))) (.cst (.int 3)))) .nil)))) .nil)) (.seq (.ret (.var 3)) .nil)))))
def q48 : QD := ⟨top 74, "edges_of", [("places" : Str)], [("places" : Str), ("turned" : Str), ("names" : Str), ("found" : Str), ("at" : Str)], false, i48⟩
/-- owns(piece, place); slots: piece, place, places, one, other -/
def i49 : St := (.seq (.asv 2 (.call 44 (.cons (.var 0) .nil))) (.seq (.ite (.tru (.cmp .eq (.call 18 (.cons (.call 45 (.cons (.var 2) .nil)) .nil)) (.cst (.int 0)))) (.seq (.ret (.cst (.bl false))) .nil) .nil) (.seq (.ret (.blt .all (.cons (.lc (.cmp .gt (.call 47 (.cons (.var 3) (.cons (.var 4) (.cons (.ixv 1 (.cst (.int 0))) (.cons (.ixv 1 (.cst (.int 1))) .nil))))) (.cst (.int 0))) (.tup (.cons (.var 3) (.cons (.var 4) .nil))) (.its (.call 48 (.cons (.var 2) .nil))) .nil [3, 4]) .nil))) .nil)))
def q49 : QD := ⟨top 75, "owns", [("piece" : Str), ("place" : Str)], [("piece" : Str), ("place" : Str), ("places" : Str), ("one" : Str), ("other" : Str)], false, i49⟩
/-- covers(piece, width, height, sample); slots: piece, width, height, sample -/
def i50 : St := (.seq (.ex (.call 43 (.cons (.var 0) .nil))) (.seq (.ex (.call 22 (.cons (.var 1) (.cons (.var 2) (.cons (.var 3) .nil))))) (.seq (.ret (.call 49 (.cons (.var 0) (.cons (.slc (.call 23 (.cons (.var 1) (.cons (.var 2) (.cons (.var 3) .nil)))) .nil (.prt (.cst (.int 2)))) .nil)))) .nil)))
def q50 : QD := ⟨top 76, "covers", [("piece" : Str), ("width" : Str), ("height" : Str), ("sample" : Str)], [("piece" : Str), ("width" : Str), ("height" : Str), ("sample" : Str)], false, i50⟩
/-- _law_tape(script); slots: script, cells, cell -/
def i51 : St := (.seq (.asv 1 (.lc (.blt .abs (.cons (.blt .int (.cons (.var 2) .nil)) .nil)) (.var 2) (.its (.slv 0 .nil (.prt (.cst (.int 63))))) .nil [2])) (.seq (.ret (.bxl (.cons (.var 1) (.cons (.cst (.int 0)) (.cons (.cst (.int 0)) (.cons (.bin .add (.cst (.int 31)) (.lenv 1)) (.cons (.cst (.int 0)) .nil))))))) .nil))
def q51 : QD := ⟨top 78, "_law_tape", [("script" : Str)], [("script" : Str), ("cells" : Str), ("cell" : Str)], true, i51⟩
/-- _law_pick(tape, many); slots: tape, many, number, cell, digit -/
def i52 : St := (.seq (.ite (.and (.tru (.cmp .eq (.ixv 0 (.cst (.int 2))) (.cst (.int 0)))) (.tru (.cmp .lt (.ixv 0 (.cst (.int 1))) (.blt .len (.cons (.ixv 0 (.cst (.int 0))) .nil))))) (.seq (.asv 3 (.idx (.ixv 0 (.cst (.int 0))) (.ixv 0 (.cst (.int 1))))) (.seq (.set 0 (.cst (.int 1)) (.bin .add (.ixv 0 (.cst (.int 1))) (.cst (.int 1)))) (.seq (.set 0 (.cst (.int 3)) (.bin .mod (.blt .int (.cons (.bin .add (.bin .add (.bin .mul (.ixv 0 (.cst (.int 3))) (.cst (.int 69621))) (.var 3)) (.cst (.int 11))) .nil)) (.cst (.int 2147483629)))) (.seq (.ite (.tru (.cmp .ge (.var 3) (.bin .pow (.cst (.int 10)) (.cst (.int 18))))) (.seq (.set 0 (.cst (.int 2)) (.var 3)) .nil) .nil) .nil)))) .nil) (.seq (.ite (.tru (.cmp .gt (.ixv 0 (.cst (.int 2))) (.cst (.int 0)))) (.seq (.asv 4 (.bin .mod (.blt .int (.cons (.ixv 0 (.cst (.int 2))) .nil)) (.var 1))) (.seq (.set 0 (.cst (.int 2)) (.bin .fdiv (.ixv 0 (.cst (.int 2))) (.var 1))) (.seq (.ret (.var 4)) .nil))) .nil) (.seq (.set 0 (.cst (.int 4)) (.bin .add (.ixv 0 (.cst (.int 4))) (.cst (.int 1)))) (.seq (.asv 2 (.bin .mod (.blt .int (.cons (.bin .mul (.blt .int (.cons (.bin .add (.ixv 0 (.cst (.int 3))) (.bin .mul (.cst (.int 7919)) (.ixv 0 (.cst (.int 4))))) .nil)) (.cst (.int 48271))) .nil)) (.cst (.int 2147483647)))) (.seq (.asv 2 (.bin .mod (.blt .int (.cons (.bin .mul (.var 2) (.bin .add (.bin .fdiv (.var 2) (.cst (.int 1009))) (.cst (.int 69621)))) .nil)) (.cst (.int 2147483647)))) (.seq (.asv 2 (.bin .mod (.blt .int (.cons (.bin .mul (.var 2) (.bin .add (.bin .fdiv (.var 2) (.cst (.int 2003))) (.cst (.int 40692)))) .nil)) (.cst (.int 2147483399)))) (.seq (.ret (.bin .mod (.blt .int (.cons (.bin .fdiv (.var 2) (.cst (.int 16))) .nil)) (.var 1))) .nil)))))))
def q52 : QD := ⟨top 79, "_law_pick", [("tape" : Str), ("many" : Str)], [("tape" : Str), ("many" : Str), ("number" : Str), ("cell" : Str), ("digit" : Str)], false, i52⟩
/-- _law_any(tape, things); slots: tape, things -/
def i53 : St := (.seq (.ret (.ixv 1 (.call 52 (.cons (.var 0) (.cons (.lenv 1) .nil))))) .nil)
def q53 : QD := ⟨top 80, "_law_any", [("tape" : Str), ("things" : Str)], [("tape" : Str), ("things" : Str)], false, i53⟩
/-- _law_mixed(tape, things); slots: tape, things, left, found -/
def i54 : St := (.seq (.par 2 3 (.blt .list (.cons (.var 1) .nil)) (.lst .nil)) (.seq (.whl (.tru (.cmp .gt (.lenv 2) (.cst (.int 0)))) (.seq (.ex (.mut .append 3 (.cons (.mut .pop 2 (.cons (.call 52 (.cons (.var 0) (.cons (.lenv 2) .nil))) .nil)) .nil))) .nil)) (.seq (.ret (.var 3)) .nil)))
def q54 : QD := ⟨top 81, "_law_mixed", [("tape" : Str), ("things" : Str)], [("tape" : Str), ("things" : Str), ("left" : Str), ("found" : Str)], false, i54⟩
/-- _law_shared(one, other); slots: one, other -/
def i55 : St := (.seq (.par 0 1 (.blt .abs (.cons (.var 0) .nil)) (.blt .abs (.cons (.var 1) .nil))) (.seq (.whl (.tru (.cmp .gt (.var 1) (.cst (.int 0)))) (.seq (.par 0 1 (.var 1) (.bin .mod (.blt .int (.cons (.var 0) .nil)) (.var 1))) .nil)) (.seq (.ret (.var 0)) .nil)))
def q55 : QD := ⟨top 82, "_law_shared", [("one" : Str), ("other" : Str)], [("one" : Str), ("other" : Str)], false, i55⟩
/-- _law_over(top, bottom); slots: top, bottom, same -/
def i56 : St := (.seq (.asv 2 (.call 55 (.cons (.var 0) (.cons (.var 1) .nil)))) (.seq (.asv 2 (.ite (.tru (.cmp .gt (.var 1) (.cst (.int 0)))) (.var 2) (.bin .sub (.cst (.int 0)) (.var 2)))) (.seq (.ret (.tup (.cons (.bin .fdiv (.var 0) (.var 2)) (.cons (.bin .fdiv (.var 1) (.var 2)) .nil)))) .nil)))
def q56 : QD := ⟨top 83, "_law_over", [("top" : Str), ("bottom" : Str)], [("top" : Str), ("bottom" : Str), ("same" : Str)], false, i56⟩
/-- _law_plus(one, other); slots: one, other -/
def i57 : St := (.seq (.ret (.call 56 (.cons (.bin .add (.bin .mul (.ixv 0 (.cst (.int 0))) (.ixv 1 (.cst (.int 1)))) (.bin .mul (.ixv 1 (.cst (.int 0))) (.ixv 0 (.cst (.int 1))))) (.cons (.bin .mul (.ixv 0 (.cst (.int 1))) (.ixv 1 (.cst (.int 1)))) .nil)))) .nil)
def q57 : QD := ⟨top 84, "_law_plus", [("one" : Str), ("other" : Str)], [("one" : Str), ("other" : Str)], false, i57⟩
/-- _law_times(one, other); slots: one, other -/
def i58 : St := (.seq (.ret (.call 56 (.cons (.bin .mul (.ixv 0 (.cst (.int 0))) (.ixv 1 (.cst (.int 0)))) (.cons (.bin .mul (.ixv 0 (.cst (.int 1))) (.ixv 1 (.cst (.int 1)))) .nil)))) .nil)
def q58 : QD := ⟨top 85, "_law_times", [("one" : Str), ("other" : Str)], [("one" : Str), ("other" : Str)], false, i58⟩
/-- _law_minus(one, other); slots: one, other -/
def i59 : St := (.seq (.ret (.call 57 (.cons (.var 0) (.cons (.tup (.cons (.bin .sub (.cst (.int 0)) (.ixv 1 (.cst (.int 0)))) (.cons (.ixv 1 (.cst (.int 1))) .nil))) .nil)))) .nil)
def q59 : QD := ⟨top 86, "_law_minus", [("one" : Str), ("other" : Str)], [("one" : Str), ("other" : Str)], false, i59⟩
/-- _law_part(one, other); slots: one, other -/
def i60 : St := (.seq (.ret (.call 56 (.cons (.bin .mul (.ixv 0 (.cst (.int 0))) (.ixv 1 (.cst (.int 1)))) (.cons (.bin .mul (.ixv 0 (.cst (.int 1))) (.ixv 1 (.cst (.int 0)))) .nil)))) .nil)
def q60 : QD := ⟨top 87, "_law_part", [("one" : Str), ("other" : Str)], [("one" : Str), ("other" : Str)], false, i60⟩
/-- _law_sign(number); slots: number -/
def i61 : St := (.seq (.ret (.bin .sub (.cmp .gt (.ixv 0 (.cst (.int 0))) (.cst (.int 0))) (.cmp .lt (.ixv 0 (.cst (.int 0))) (.cst (.int 0))))) .nil)
def q61 : QD := ⟨top 88, "_law_sign", [("number" : Str)], [("number" : Str)], false, i61⟩
/-- _law_dot(one, other); slots: one, other, found, here, there -/
def i62 : St := (.seq (.asv 2 (.tup (.cons (.cst (.int 0)) (.cons (.cst (.int 1)) .nil)))) (.seq (.for (.tup (.cons (.var 3) (.cons (.var 4) .nil))) (.zip (.var 0) (.var 1)) (.seq (.asv 2 (.call 57 (.cons (.var 2) (.cons (.call 58 (.cons (.var 3) (.cons (.var 4) .nil))) .nil)))) .nil)) (.seq (.ret (.var 2)) .nil)))
def q62 : QD := ⟨top 89, "_law_dot", [("one" : Str), ("other" : Str)], [("one" : Str), ("other" : Str), ("found" : Str), ("here" : Str), ("there" : Str)], false, i62⟩
/-- _law_upright(one, other); slots: one, other, first, second, x, y, z, a, b, c -/
def i63 : St := (.seq (.asg (.tup (.cons (.var 4) (.cons (.var 5) (.cons (.var 6) .nil)))) (.var 0)) (.seq (.asg (.tup (.cons (.var 7) (.cons (.var 8) (.cons (.var 9) .nil)))) (.var 1)) (.seq (.asv 2 (.call 59 (.cons (.call 58 (.cons (.var 5) (.cons (.var 9) .nil))) (.cons (.call 58 (.cons (.var 6) (.cons (.var 8) .nil))) .nil)))) (.seq (.asv 3 (.call 59 (.cons (.call 58 (.cons (.var 6) (.cons (.var 7) .nil))) (.cons (.call 58 (.cons (.var 4) (.cons (.var 9) .nil))) .nil)))) (.seq (.ret (.tup (.cons (.var 2) (.cons (.var 3) (.cons (.call 59 (.cons (.call 58 (.cons (.var 4) (.cons (.var 8) .nil))) (.cons (.call 58 (.cons (.var 5) (.cons (.var 7) .nil))) .nil))) .nil))))) .nil)))))
def q63 : QD := ⟨top 90, "_law_upright", [("one" : Str), ("other" : Str)], [("one" : Str), ("other" : Str), ("first" : Str), ("second" : Str), ("x" : Str), ("y" : Str), ("z" : Str), ("a" : Str), ("b" : Str), ("c" : Str)], false, i63⟩
/-- _law_turn(one, other, third); slots: one, other, third -/
def i64 : St := (.seq (.ret (.call 62 (.cons (.var 0) (.cons (.call 63 (.cons (.var 1) (.cons (.var 2) .nil))) .nil)))) .nil)
def q64 : QD := ⟨top 91, "_law_turn", [("one" : Str), ("other" : Str), ("third" : Str)], [("one" : Str), ("other" : Str), ("third" : Str)], false, i64⟩
/-- _law_ray(width, height, i, j); slots: width, height, i, j -/
def i65 : St := (.seq (.ret (.tup (.cons (.call 56 (.cons (.bin .sub (.bin .add (.bin .mul (.cst (.int 2)) (.var 2)) (.cst (.int 1))) (.var 0)) (.cons (.cst (.int 2)) .nil))) (.cons (.call 56 (.cons (.bin .sub (.bin .add (.bin .mul (.cst (.int 2)) (.var 3)) (.cst (.int 1))) (.var 1)) (.cons (.cst (.int 2)) .nil))) (.cons (.tup (.cons (.cst (.int 1)) (.cons (.cst (.int 1)) .nil))) .nil))))) .nil)
def q65 : QD := ⟨top 92, "_law_ray", [("width" : Str), ("height" : Str), ("i" : Str), ("j" : Str)], [("width" : Str), ("height" : Str), ("i" : Str), ("j" : Str)], false, i65⟩
/-- _law_small(form, ray_v); slots: form, ray_v, number -/
def i66 : St := (.seq (.for (.var 2) (.its (.tup (.cons (.call 62 (.cons (.var 0) (.cons (.var 1) .nil))) (.cons (.ixv 0 (.cst (.int 0))) (.cons (.ixv 0 (.cst (.int 1))) .nil))))) (.seq (.ite (.tru (.cmp .ne (.ixv 2 (.cst (.int 0))) (.cst (.int 0)))) (.seq (.ret (.call 61 (.cons (.var 2) .nil))) .nil) .nil) .nil)) (.seq (.ret (.cst (.int 0))) .nil))
def q66 : QD := ⟨top 93, "_law_small", [("form" : Str), ("ray_v" : Str)], [("form" : Str), ("ray_v" : Str), ("number" : Str)], false, i66⟩
/-- _law_edges(points); slots: points, turn, found, one, other, third, here, there, number -/
def i67 : St := (.seq (.asg (.tup (.cons (.var 3) (.cons (.var 4) (.cons (.var 5) .nil)))) (.var 0)) (.seq (.asv 1 (.call 61 (.cons (.call 64 (.cons (.var 3) (.cons (.var 4) (.cons (.var 5) .nil)))) .nil))) (.seq (.ite (.tru (.cmp .eq (.var 1) (.cst (.int 0)))) (.seq (.ret (.cst .non)) .nil) .nil) (.seq (.asv 2 (.lst .nil)) (.seq (.for (.tup (.cons (.var 6) (.cons (.var 7) .nil))) (.its (.tup (.cons (.tup (.cons (.var 4) (.cons (.var 5) .nil))) (.cons (.tup (.cons (.var 5) (.cons (.var 3) .nil))) (.cons (.tup (.cons (.var 3) (.cons (.var 4) .nil))) .nil))))) (.seq (.ex (.mut .append 2 (.cons (.blt .tuple (.cons (.lc (.call 58 (.cons (.tup (.cons (.var 1) (.cons (.cst (.int 1)) .nil))) (.cons (.var 8) .nil))) (.var 8) (.its (.call 63 (.cons (.var 6) (.cons (.var 7) .nil)))) .nil [8]) .nil)) .nil))) .nil)) (.seq (.ret (.var 2)) .nil))))))
def q67 : QD := ⟨top 94, "_law_edges", [("points" : Str)], [("points" : Str), ("turn" : Str), ("found" : Str), ("one" : Str), ("other" : Str), ("third" : Str), ("here" : Str), ("there" : Str), ("number" : Str)], false, i67⟩
/-- _law_owns(points, ray_v); slots: points, ray_v, edges, edge -/
def i68 : St := (.seq (.asv 2 (.call 67 (.cons (.var 0) .nil))) (.seq (.ret (.and (.cmp .notN (.var 2) (.cst .non)) (.blt .all (.cons (.lc (.cmp .eq (.call 66 (.cons (.var 3) (.cons (.var 1) .nil))) (.cst (.int 1))) (.var 3) (.its (.var 2)) .nil [3]) .nil)))) .nil))
def q68 : QD := ⟨top 95, "_law_owns", [("points" : Str), ("ray_v" : Str)], [("points" : Str), ("ray_v" : Str), ("edges" : Str), ("edge" : Str)], false, i68⟩
/-- _law_weights(points, ray_v); slots: points, ray_v, turns, total, one, other, third, turn -/
def i69 : St := (.seq (.asg (.tup (.cons (.var 4) (.cons (.var 5) (.cons (.var 6) .nil)))) (.var 0)) (.seq (.asv 2 (.lst (.cons (.call 64 (.cons (.var 1) (.cons (.var 5) (.cons (.var 6) .nil)))) (.cons (.call 64 (.cons (.var 4) (.cons (.var 1) (.cons (.var 6) .nil)))) (.cons (.call 64 (.cons (.var 4) (.cons (.var 5) (.cons (.var 1) .nil)))) .nil))))) (.seq (.asv 3 (.call 57 (.cons (.call 57 (.cons (.ixv 2 (.cst (.int 0))) (.cons (.ixv 2 (.cst (.int 1))) .nil))) (.cons (.ixv 2 (.cst (.int 2))) .nil)))) (.seq (.ret (.tup (.cons (.call 60 (.cons (.call 64 (.cons (.var 4) (.cons (.var 5) (.cons (.var 6) .nil)))) (.cons (.var 3) .nil))) (.cons (.blt .tuple (.cons (.lc (.call 60 (.cons (.var 7) (.cons (.var 3) .nil))) (.var 7) (.its (.var 2)) .nil [7]) .nil)) .nil)))) .nil))))
def q69 : QD := ⟨top 96, "_law_weights", [("points" : Str), ("ray_v" : Str)], [("points" : Str), ("ray_v" : Str), ("turns" : Str), ("total" : Str), ("one" : Str), ("other" : Str), ("third" : Str), ("turn" : Str)], false, i69⟩
/-- _law_number(tape, size); slots: tape, size -/
def i70 : St := (.seq (.ret (.call 56 (.cons (.bin .sub (.call 52 (.cons (.var 0) (.cons (.bin .add (.bin .mul (.cst (.int 2)) (.var 1)) (.cst (.int 1))) .nil))) (.var 1)) (.cons (.call 53 (.cons (.var 0) (.cons (.lst (.cons (.cst (.int 1)) (.cons (.cst (.int 1)) (.cons (.cst (.int 1)) (.cons (.cst (.int 2)) .nil))))) .nil))) .nil)))) .nil)
def q70 : QD := ⟨top 97, "_law_number", [("tape" : Str), ("size" : Str)], [("tape" : Str), ("size" : Str)], false, i70⟩
/-- _law_piece(tape, number); slots: tape, number, corner, many, corners, depth, point, value -/
def i71 : St := (.seq (.par 3 4 (.bin .add (.cst (.int 1)) (.call 52 (.cons (.var 0) (.cons (.cst (.int 2)) .nil)))) (.lst .nil)) (.seq (.for (.var 2) (.rng1 (.cst (.int 3))) (.seq (.asv 5 (.bin .add (.cst (.int 1)) (.call 52 (.cons (.var 0) (.cons (.cst (.int 3)) .nil))))) (.seq (.asv 6 (.tup (.cons (.call 70 (.cons (.var 0) (.cons (.cst (.int 4)) .nil))) (.cons (.call 70 (.cons (.var 0) (.cons (.cst (.int 4)) .nil))) (.cons (.tup (.cons (.var 5) (.cons (.cst (.int 1)) .nil))) .nil))))) (.seq (.ex (.mut .append 4 (.cons (.tup (.cons (.var 6) (.cons (.blt .tuple (.cons (.lc (.call 70 (.cons (.var 0) (.cons (.cst (.int 3)) .nil))) (.var 7) (.rng1 (.var 3)) .nil [7]) .nil)) .nil))) .nil))) .nil)))) (.seq (.ret (.tup (.cons (.var 1) (.cons (.ixv 4 (.cst (.int 0))) (.cons (.ixv 4 (.cst (.int 1))) (.cons (.ixv 4 (.cst (.int 2))) .nil)))))) .nil)))
def q71 : QD := ⟨top 98, "_law_piece", [("tape" : Str), ("number" : Str)], [("tape" : Str), ("number" : Str), ("corner" : Str), ("many" : Str), ("corners" : Str), ("depth" : Str), ("point" : Str), ("value" : Str)], false, i71⟩
/-- _law_points(piece); slots: piece, corner -/
def i72 : St := (.seq (.ret (.lc (.ixv 1 (.cst (.int 0))) (.var 1) (.its (.slv 0 (.prt (.cst (.int 1))) .nil)) .nil [1])) .nil)
def q72 : QD := ⟨top 99, "_law_points", [("piece" : Str)], [("piece" : Str), ("corner" : Str)], false, i72⟩
/-- _law_size(tape); slots: tape -/
def i73 : St := (.seq (.ret (.tup (.cons (.bin .add (.cst (.int 2)) (.call 52 (.cons (.var 0) (.cons (.cst (.int 4)) .nil)))) (.cons (.bin .add (.cst (.int 2)) (.call 52 (.cons (.var 0) (.cons (.cst (.int 4)) .nil)))) .nil)))) .nil)
def q73 : QD := ⟨top 100, "_law_size", [("tape" : Str)], [("tape" : Str)], false, i73⟩
/-- _law_moved(form, ray_v); slots: form, ray_v, small, there -/
def i74 : St := (.seq (.asv 2 (.tup (.cons (.cst (.int 1)) (.cons (.bin .pow (.cst (.int 10)) (.cst (.int 6))) .nil)))) (.seq (.asv 3 (.tup (.cons (.call 57 (.cons (.ixv 1 (.cst (.int 0))) (.cons (.var 2) .nil))) (.cons (.call 57 (.cons (.ixv 1 (.cst (.int 1))) (.cons (.call 58 (.cons (.var 2) (.cons (.var 2) .nil))) .nil))) (.cons (.ixv 1 (.cst (.int 2))) .nil))))) (.seq (.ret (.call 61 (.cons (.call 62 (.cons (.var 0) (.cons (.var 3) .nil))) .nil))) .nil)))
def q74 : QD := ⟨top 101, "_law_moved", [("form" : Str), ("ray_v" : Str)], [("form" : Str), ("ray_v" : Str), ("small" : Str), ("there" : Str)], false, i74⟩
/-- _law_form(tape, ray_v); slots: tape, ray_v, first, rest, second -/
def i75 : St := (.seq (.par 2 4 (.call 70 (.cons (.var 0) (.cons (.cst (.int 4)) .nil))) (.call 53 (.cons (.var 0) (.cons (.lst (.cons (.tup (.cons (.cst (.int 0)) (.cons (.cst (.int 1)) .nil))) (.cons (.call 70 (.cons (.var 0) (.cons (.cst (.int 4)) .nil))) .nil))) .nil)))) (.seq (.ite (.tru (.cmp .eq (.call 52 (.cons (.var 0) (.cons (.cst (.int 2)) .nil))) (.cst (.int 0)))) (.seq (.ret (.tup (.cons (.var 2) (.cons (.var 4) (.cons (.call 70 (.cons (.var 0) (.cons (.cst (.int 4)) .nil))) .nil))))) .nil) .nil) (.seq (.asv 2 (.call 53 (.cons (.var 0) (.cons (.lst (.cons (.tup (.cons (.cst (.int 0)) (.cons (.cst (.int 1)) .nil))) (.cons (.var 2) .nil))) .nil)))) (.seq (.asv 3 (.call 57 (.cons (.call 58 (.cons (.var 2) (.cons (.ixv 1 (.cst (.int 0))) .nil))) (.cons (.call 58 (.cons (.var 4) (.cons (.ixv 1 (.cst (.int 1))) .nil))) .nil)))) (.seq (.ret (.tup (.cons (.var 2) (.cons (.var 4) (.cons (.tup (.cons (.bin .sub (.cst (.int 0)) (.ixv 3 (.cst (.int 0)))) (.cons (.ixv 3 (.cst (.int 1))) .nil))) .nil))))) .nil)))))
def q75 : QD := ⟨top 102, "_law_form", [("tape" : Str), ("ray_v" : Str)], [("tape" : Str), ("ray_v" : Str), ("first" : Str), ("rest" : Str), ("second" : Str)], false, i75⟩
/-- _law_forms_right(tape); slots: tape, sample, ray_v, form, sign, back, width, height, number -/
def i76 : St := (.seq (.asg (.tup (.cons (.var 6) (.cons (.var 7) .nil))) (.call 73 (.cons (.var 0) .nil))) (.seq (.asv 1 (.tup (.cons (.call 52 (.cons (.var 0) (.cons (.var 6) .nil))) (.cons (.call 52 (.cons (.var 0) (.cons (.var 7) .nil))) .nil)))) (.seq (.asv 2 (.call 24 (.cons (.var 6) (.cons (.var 7) (.cons (.var 1) .nil))))) (.seq (.asv 3 (.call 75 (.cons (.var 0) (.cons (.var 2) .nil)))) (.seq (.asv 4 (.call 26 (.cons (.var 3) (.cons (.var 6) (.cons (.var 7) (.cons (.var 1) .nil)))))) (.seq (.asv 5 (.blt .tuple (.cons (.lc (.tup (.cons (.bin .sub (.cst (.int 0)) (.ixv 8 (.cst (.int 0)))) (.cons (.ixv 8 (.cst (.int 1))) .nil))) (.var 8) (.its (.var 3)) .nil [8]) .nil))) (.seq (.ite (.or (.tru (.cmp .ne (.var 4) (.call 66 (.cons (.var 3) (.cons (.var 2) .nil))))) (.tru (.cmp .ne (.var 4) (.call 74 (.cons (.var 3) (.cons (.var 2) .nil)))))) (.seq (.ret (.cst (.bl false))) .nil) .nil) (.seq (.ite (.tru (.cmp .ne (.call 26 (.cons (.var 5) (.cons (.var 6) (.cons (.var 7) (.cons (.var 1) .nil))))) (.bin .sub (.cst (.int 0)) (.var 4)))) (.seq (.ret (.cst (.bl false))) .nil) .nil) (.seq (.ret (.cmp .eq (.cmp .eq (.var 4) (.cst (.int 0))) (.cmp .eq (.var 3) (.tup (.cons (.tup (.cons (.cst (.int 0)) (.cons (.cst (.int 1)) .nil))) (.cons (.tup (.cons (.cst (.int 0)) (.cons (.cst (.int 1)) .nil))) (.cons (.tup (.cons (.cst (.int 0)) (.cons (.cst (.int 1)) .nil))) .nil))))))) .nil)))))))))
def q76 : QD := ⟨top 103, "_law_forms_right", [("tape" : Str)], [("tape" : Str), ("sample" : Str), ("ray_v" : Str), ("form" : Str), ("sign" : Str), ("back" : Str), ("width" : Str), ("height" : Str), ("number" : Str)], false, i76⟩
/-- _law_edge_right(tape); slots: tape, sample, ends, sides, sign, counts, side, width, height, ray_v, way, near, far, depth, place, corners, piece, flag, said_so, at, point -/
def i77 : St := (.seq (.asg (.tup (.cons (.var 7) (.cons (.var 8) .nil))) (.call 73 (.cons (.var 0) .nil))) (.seq (.asv 1 (.tup (.cons (.call 52 (.cons (.var 0) (.cons (.var 7) .nil))) (.cons (.call 52 (.cons (.var 0) (.cons (.var 8) .nil))) .nil)))) (.seq (.asg (.tup (.cons (.var 9) (.cons (.var 10) .nil))) (.tup (.cons (.call 65 (.cons (.var 7) (.cons (.var 8) (.cons (.ixv 1 (.cst (.int 0))) (.cons (.ixv 1 (.cst (.int 1))) .nil))))) (.cons (.tup (.cons (.call 70 (.cons (.var 0) (.cons (.cst (.int 3)) .nil))) (.cons (.call 70 (.cons (.var 0) (.cons (.cst (.int 3)) .nil))) .nil))) .nil)))) (.seq (.ite (.tru (.cmp .eq (.var 10) (.tup (.cons (.tup (.cons (.cst (.int 0)) (.cons (.cst (.int 1)) .nil))) (.cons (.tup (.cons (.cst (.int 0)) (.cons (.cst (.int 1)) .nil))) .nil))))) (.seq (.asv 10 (.tup (.cons (.tup (.cons (.cst (.int 1)) (.cons (.cst (.int 1)) .nil))) (.cons (.tup (.cons (.cst (.int 0)) (.cons (.cst (.int 1)) .nil))) .nil)))) .nil) .nil) (.seq (.par 11 12 (.tup (.cons (.bin .add (.cst (.int 1)) (.call 52 (.cons (.var 0) (.cons (.cst (.int 2)) .nil)))) (.cons (.cst (.int 1)) .nil))) (.tup (.cons (.bin .add (.cst (.int 1)) (.call 52 (.cons (.var 0) (.cons (.cst (.int 3)) .nil)))) (.cons (.cst (.int 1)) .nil)))) (.seq (.asv 2 (.lst .nil)) (.seq (.for (.tup (.cons (.var 4) (.cons (.var 13) .nil))) (.its (.tup (.cons (.tup (.cons (.cst (.int 1)) (.cons (.var 11) .nil))) (.cons (.tup (.cons (.neg (.cst (.int 1))) (.cons (.var 12) .nil))) .nil)))) (.seq (.asv 14 (.lc (.call 57 (.cons (.ixv 9 (.var 19)) (.cons (.call 58 (.cons (.tup (.cons (.var 4) (.cons (.cst (.int 1)) .nil))) (.cons (.ixv 10 (.var 19)) .nil))) .nil))) (.var 19) (.its (.tup (.cons (.cst (.int 0)) (.cons (.cst (.int 1)) .nil)))) .nil [19])) (.seq (.ex (.mut .append 2 (.cons (.tup (.cons (.call 58 (.cons (.ixv 14 (.cst (.int 0))) (.cons (.var 13) .nil))) (.cons (.call 58 (.cons (.ixv 14 (.cst (.int 1))) (.cons (.var 13) .nil))) (.cons (.var 13) .nil)))) .nil))) .nil))) (.seq (.asv 3 (.lst .nil)) (.seq (.for (.var 4) (.its (.tup (.cons (.cst (.int 1)) (.cons (.neg (.cst (.int 1))) .nil)))) (.seq (.asv 14 (.lst (.cons (.call 57 (.cons (.ixv 9 (.cst (.int 0))) (.cons (.call 58 (.cons (.tup (.cons (.bin .sub (.cst (.int 0)) (.var 4)) (.cons (.cst (.int 1)) .nil))) (.cons (.ixv 10 (.cst (.int 1))) .nil))) .nil))) .nil))) (.seq (.ex (.mut .append 14 (.cons (.call 57 (.cons (.ixv 9 (.cst (.int 1))) (.cons (.call 58 (.cons (.tup (.cons (.var 4) (.cons (.cst (.int 1)) .nil))) (.cons (.ixv 10 (.cst (.int 0))) .nil))) .nil))) .nil))) (.seq (.ex (.mut .append 3 (.cons (.tup (.cons (.ixv 14 (.cst (.int 0))) (.cons (.ixv 14 (.cst (.int 1))) (.cons (.tup (.cons (.cst (.int 1)) (.cons (.cst (.int 1)) .nil))) .nil)))) .nil))) .nil)))) (.seq (.asv 5 (.lst .nil)) (.seq (.for (.var 6) (.its (.var 3)) (.seq (.asv 15 (.lc (.tup (.cons (.var 20) (.cons (.tup (.cons (.tup (.cons (.cst (.int 1)) (.cons (.cst (.int 1)) .nil))) .nil)) .nil))) (.var 20) (.its (.call 54 (.cons (.var 0) (.cons (.bin .add (.var 2) (.lst (.cons (.var 6) .nil))) .nil)))) .nil [20])) (.seq (.asv 16 (.tup (.cons (.cst (.int 0)) (.cons (.ixv 15 (.cst (.int 0))) (.cons (.ixv 15 (.cst (.int 1))) (.cons (.ixv 15 (.cst (.int 2))) .nil)))))) (.seq (.asv 17 (.call 50 (.cons (.var 16) (.cons (.var 7) (.cons (.var 8) (.cons (.var 1) .nil)))))) (.seq (.asv 18 (.call 41 (.cons (.tup (.cons (.cst (.int 0)) (.cons (.ixv 15 (.cst (.int 0))) (.cons (.ixv 15 (.cst (.int 1))) (.cons (.ixv 15 (.cst (.int 2))) .nil))))) (.cons (.tup (.cons (.tup (.cons (.cst (.int 0)) (.cons (.cst (.int 0)) (.cons (.cst (.int 1)) (.cons (.cst (.int 1)) .nil))))) .nil)) (.cons (.var 7) (.cons (.var 8) (.cons (.var 1) .nil))))))) (.seq (.ite (.or (.tru (.cmp .ne (.var 17) (.call 68 (.cons (.call 72 (.cons (.var 16) .nil)) (.cons (.var 9) .nil))))) (.tru (.cmp .ne (.cmp .eq (.ixv 18 (.cst (.int 0))) (.cst (.str "hit"))) (.var 17)))) (.seq (.ret (.cst (.bl false))) .nil) .nil) (.seq (.ex (.mut .append 5 (.cons (.var 17) .nil))) .nil))))))) (.seq (.ret (.cmp .eq (.mut .count 5 (.cons (.cst (.bl true)) .nil)) (.cst (.int 1)))) .nil))))))))))))
def q77 : QD := ⟨top 104, "_law_edge_right", [("tape" : Str)], [("tape" : Str), ("sample" : Str), ("ends" : Str), ("sides" : Str), ("sign" : Str), ("counts" : Str), ("side" : Str), ("width" : Str), ("height" : Str), ("ray_v" : Str), ("way" : Str), ("near" : Str), ("far" : Str), ("depth" : Str), ("place" : Str), ("corners" : Str), ("piece" : Str), ("flag" : Str), ("said_so" : Str), ("at" : Str), ("point" : Str)], false, i77⟩
/-- _law_fence_right(tape); slots: tape, said_so, wall, width, height, piece, sample, ray_v, points, depth, weights -/
def i78 : St := (.seq (.asg (.tup (.cons (.var 3) (.cons (.var 4) .nil))) (.call 73 (.cons (.var 0) .nil))) (.seq (.par 5 6 (.call 71 (.cons (.var 0) (.cons (.cst (.int 0)) .nil))) (.tup (.cons (.call 52 (.cons (.var 0) (.cons (.var 3) .nil))) (.cons (.call 52 (.cons (.var 0) (.cons (.var 4) .nil))) .nil)))) (.seq (.par 7 8 (.call 65 (.cons (.var 3) (.cons (.var 4) (.cons (.ixv 6 (.cst (.int 0))) (.cons (.ixv 6 (.cst (.int 1))) .nil))))) (.call 72 (.cons (.var 5) .nil))) (.seq (.ite (.not (.tru (.call 68 (.cons (.var 8) (.cons (.var 7) .nil))))) (.seq (.ret (.cmp .isN (.call 50 (.cons (.var 5) (.cons (.var 3) (.cons (.var 4) (.cons (.var 6) .nil))))) (.cst (.bl false)))) .nil) .nil) (.seq (.asg (.tup (.cons (.var 9) (.cons (.var 10) .nil))) (.call 69 (.cons (.var 8) (.cons (.var 7) .nil)))) (.seq (.asv 1 (.call 41 (.cons (.var 5) (.cons (.tup (.cons (.tup (.cons (.cst (.int 0)) (.cons (.cst (.int 0)) (.cons (.cst (.int 1)) (.cons (.cst (.int 1)) .nil))))) .nil)) (.cons (.var 3) (.cons (.var 4) (.cons (.var 6) .nil))))))) (.seq (.ite (.or (.tru (.cmp .ne (.var 1) (.tup (.cons (.cst (.str "hit")) (.cons (.var 9) (.cons (.var 10) .nil)))))) (.tru (.cmp .eq (.idx (.call 17 (.cons (.ixv 8 (.cst (.int 0))) (.cons (.ixv 8 (.cst (.int 1))) (.cons (.ixv 8 (.cst (.int 2))) .nil)))) (.cst (.int 0))) (.cst (.int 0))))) (.seq (.ret (.cst (.bl false))) .nil) .nil) (.seq (.asv 2 (.tup (.cons (.call 53 (.cons (.var 0) (.cons (.lst (.cons (.cst (.int 1)) (.cons (.neg (.cst (.int 1))) (.cons (.cst (.int 0)) (.cons (.cst (.int 2)) .nil))))) .nil))) (.cons (.call 53 (.cons (.var 0) (.cons (.lst (.cons (.cst (.int 1)) (.cons (.neg (.cst (.int 1))) (.cons (.cst (.int 2)) .nil)))) .nil))) (.cons (.bin .sub (.call 52 (.cons (.var 0) (.cons (.cst (.int 5)) .nil))) (.cst (.int 2))) (.cons (.bin .sub (.call 52 (.cons (.var 0) (.cons (.cst (.int 5)) .nil))) (.cst (.int 2))) .nil)))))) (.seq (.ret (.call 79 (.cons (.var 5) (.cons (.var 2) (.cons (.var 3) (.cons (.var 4) (.cons (.var 6) (.cons (.var 9) .nil)))))))) .nil)))))))))
def q78 : QD := ⟨top 105, "_law_fence_right", [("tape" : Str)], [("tape" : Str), ("said_so" : Str), ("wall" : Str), ("width" : Str), ("height" : Str), ("piece" : Str), ("sample" : Str), ("ray_v" : Str), ("points" : Str), ("depth" : Str), ("weights" : Str)], false, i78⟩
/-- _law_barred_right(piece, wall, width, height, sample, depth); slots: piece, wall, width, height, sample, depth, gaps, at, keeps, said_so, ray_v, points, turn, form, stands, share_v, point, one, other -/
def i79 : St := (.seq (.par 10 11 (.call 65 (.cons (.var 2) (.cons (.var 3) (.cons (.ixv 4 (.cst (.int 0))) (.cons (.ixv 4 (.cst (.int 1))) .nil))))) (.call 72 (.cons (.var 0) .nil))) (.seq (.asv 6 (.lc (.call 59 (.cons (.call 62 (.cons (.lc (.tup (.cons (.var 17) (.cons (.cst (.int 1)) .nil))) (.var 17) (.its (.slv 1 .nil (.prt (.cst (.int 3))))) .nil [17]) (.cons (.var 16) .nil))) (.cons (.tup (.cons (.ixv 1 (.cst (.int 3))) (.cons (.cst (.int 1)) .nil))) .nil))) (.var 16) (.its (.var 11)) .nil [16])) (.seq (.par 12 13 (.call 64 (.cons (.ixv 11 (.cst (.int 0))) (.cons (.ixv 11 (.cst (.int 1))) (.cons (.ixv 11 (.cst (.int 2))) .nil)))) (.bin .mul (.lst (.cons (.tup (.cons (.cst (.int 0)) (.cons (.cst (.int 1)) .nil))) .nil)) (.cst (.int 3)))) (.seq (.for (.var 7) (.rng1 (.cst (.int 3))) (.seq (.asv 14 (.call 63 (.cons (.ixv 11 (.idx (.tup (.cons (.cst (.int 1)) (.cons (.cst (.int 2)) (.cons (.cst (.int 0)) .nil)))) (.var 7))) (.cons (.ixv 11 (.idx (.tup (.cons (.cst (.int 2)) (.cons (.cst (.int 0)) (.cons (.cst (.int 1)) .nil)))) (.var 7))) .nil)))) (.seq (.asv 15 (.call 60 (.cons (.ixv 6 (.var 7)) (.cons (.var 12) .nil)))) (.seq (.asv 13 (.lc (.call 57 (.cons (.var 17) (.cons (.call 58 (.cons (.var 15) (.cons (.var 18) .nil))) .nil))) (.tup (.cons (.var 17) (.cons (.var 18) .nil))) (.zip (.var 13) (.var 14)) .nil [17, 18])) .nil)))) (.seq (.asv 8 (.cmp .ge (.call 66 (.cons (.var 13) (.cons (.var 10) .nil))) (.cst (.int 0)))) (.seq (.asv 9 (.call 41 (.cons (.var 0) (.cons (.tup (.cons (.tup (.cons (.cst (.int 0)) (.cons (.cst (.int 0)) (.cons (.cst (.int 1)) (.cons (.cst (.int 1)) .nil))))) (.cons (.var 1) .nil))) (.cons (.var 2) (.cons (.var 3) (.cons (.var 4) .nil))))))) (.seq (.ret (.ite (.trv 8) (.and (.cmp .eq (.ixv 9 (.cst (.int 0))) (.cst (.str "hit"))) (.cmp .eq (.ixv 9 (.cst (.int 1))) (.var 5))) (.cmp .eq (.var 9) (.tup (.cons (.cst (.str "wall")) (.cons (.cst (.int 1)) .nil)))))) .nil)))))))
def q79 : QD := ⟨top 106, "_law_barred_right", [("piece" : Str), ("wall" : Str), ("width" : Str), ("height" : Str), ("sample" : Str), ("depth" : Str)], [("piece" : Str), ("wall" : Str), ("width" : Str), ("height" : Str), ("sample" : Str), ("depth" : Str), ("gaps" : Str), ("at" : Str), ("keeps" : Str), ("said_so" : Str), ("ray_v" : Str), ("points" : Str), ("turn" : Str), ("form" : Str), ("stands" : Str), ("share_v" : Str), ("point" : Str), ("one" : Str), ("other" : Str)], false, i79⟩
/-- law(script); slots: script, tape, step -/
def i80 : St := (.seq (.asv 1 (.call 51 (.cons (.var 0) .nil))) (.seq (.ite (.tru (.cmp .ne (.call 26 (.cons (.tup (.cons (.tup (.cons (.cst (.int 1)) (.cons (.cst (.int 1)) .nil))) (.cons (.tup (.cons (.cst (.int 0)) (.cons (.cst (.int 1)) .nil))) (.cons (.tup (.cons (.cst (.int 0)) (.cons (.cst (.int 1)) .nil))) .nil)))) (.cons (.cst (.int 3)) (.cons (.cst (.int 3)) (.cons (.tup (.cons (.cst (.int 1)) (.cons (.cst (.int 1)) .nil))) .nil))))) (.cst (.int 1)))) (.seq (.ret (.cst (.bl false))) .nil) .nil) (.seq (.ite (.tru (.cmp .ne (.call 26 (.cons (.tup (.cons (.tup (.cons (.cst (.int 0)) (.cons (.cst (.int 1)) .nil))) (.cons (.tup (.cons (.neg (.cst (.int 1))) (.cons (.cst (.int 1)) .nil))) (.cons (.tup (.cons (.cst (.int 0)) (.cons (.cst (.int 1)) .nil))) .nil)))) (.cons (.cst (.int 3)) (.cons (.cst (.int 3)) (.cons (.tup (.cons (.cst (.int 1)) (.cons (.cst (.int 1)) .nil))) .nil))))) (.neg (.cst (.int 1))))) (.seq (.ret (.cst (.bl false))) .nil) .nil) (.seq (.ite (.tru (.cmp .notN (.call 28 (.cons (.call 15 (.cons (.tup (.cons (.tup (.cons (.cst (.int 0)) (.cons (.cst (.int 1)) .nil))) (.cons (.tup (.cons (.cst (.int 0)) (.cons (.cst (.int 1)) .nil))) (.cons (.tup (.cons (.cst (.int 1)) (.cons (.cst (.int 1)) .nil))) .nil)))) (.cons (.tup (.cons (.tup (.cons (.cst (.int 1)) (.cons (.cst (.int 1)) .nil))) (.cons (.tup (.cons (.cst (.int 0)) (.cons (.cst (.int 1)) .nil))) (.cons (.tup (.cons (.cst (.int 0)) (.cons (.cst (.int 1)) .nil))) .nil)))) .nil))) .nil)) (.cst .non))) (.seq (.ret (.cst (.bl false))) .nil) .nil) (.seq (.for (.var 2) (.rng1 (.cst (.int 4))) (.seq (.ite (.or (.not (.tru (.call 76 (.cons (.var 1) .nil)))) (.or (.not (.tru (.call 77 (.cons (.var 1) .nil)))) (.not (.tru (.call 78 (.cons (.var 1) .nil)))))) (.seq (.ret (.cst (.bl false))) .nil) .nil) .nil)) (.seq (.ret (.cst (.bl true))) .nil))))))
def q80 : QD := ⟨top 107, "law", [("script" : Str)], [("script" : Str), ("tape" : Str), ("step" : Str)], false, i80⟩
def prg : Prg := ⟨[q0, q1, q2, q3, q4, q5, q6, q7, q8, q9, q10, q11, q12, q13, q14, q15, q16, q17, q18, q19, q20, q21, q22, q23, q24, q25, q26, q27, q28, q29, q30, q31, q32, q33, q34, q35, q36, q37, q38, q39, q40, q41, q42, q43, q44, q45, q46, q47, q48, q49, q50, q51, q52, q53, q54, q55, q56, q57, q58, q59, q60, q61, q62, q63, q64, q65, q66, q67, q68, q69, q70, q71, q72, q73, q74, q75, q76, q77, q78, q79, q80], [(("ZERO" : Str), (.tup [(.int 0), (.int 1)])), (("ONE" : Str), (.tup [(.int 1), (.int 1)])), (("MOST_SIZE" : Str), (.int 12)), (("MOST_NUMBER_planes" : Str), (.int 1000)), (("MOST_WALLS" : Str), (.int 5)), (("MOST_PROGRAMS" : Str), (.int 4)), (("MOST_VALUES" : Str), (.int 4)), (("HIT" : Str), (.str "hit")), (("BESIDE" : Str), (.str "beside")), (("FLAT" : Str), (.str "flat")), (("WALL" : Str), (.str "wall")), (("MOST_NUMBER_clips" : Str), (.int 7))], bT⟩
end Q.K26
end

section
set_option maxRecDepth 100000
set_option maxHeartbeats 0
namespace Q.K26
open PySem PySem.Spec PyProof.Rows L2
theorem fT_eq : prg.fnsT = fT := by kernel_rfl
theorem gT_eq : prg.glsT = gT := by kernel_rfl
theorem ok0 : DefOk fT gT bT q0 := ⟨scB_ok (by decide +kernel), ir_of (by kernel_rfl), fun _ _ _ _ _ _ us hl => match us, hl with | [_], _ => rfl⟩
theorem ok1 : DefOk fT gT bT q1 := ⟨scB_ok (by decide +kernel), ir_of (by kernel_rfl), fun _ _ _ _ _ _ us hl => match us, hl with | [_, _, _], _ => rfl⟩
theorem ok2 : DefOk fT gT bT q2 := ⟨scB_ok (by decide +kernel), ir_of (by kernel_rfl), fun _ _ _ _ _ _ us hl => match us, hl with | [_, _, _], _ => rfl⟩
theorem ok3 : DefOk fT gT bT q3 := ⟨scB_ok (by decide +kernel), ir_of (by kernel_rfl), fun _ _ _ _ _ _ us hl => match us, hl with | [_, _], _ => rfl⟩
theorem ok4 : DefOk fT gT bT q4 := ⟨scB_ok (by decide +kernel), ir_of (by kernel_rfl), fun _ _ _ _ _ _ us hl => match us, hl with | [_, _], _ => rfl⟩
theorem ok5 : DefOk fT gT bT q5 := ⟨scB_ok (by decide +kernel), ir_of (by kernel_rfl), fun _ _ _ _ _ _ us hl => match us, hl with | [_], _ => rfl⟩
theorem ok6 : DefOk fT gT bT q6 := ⟨scB_ok (by decide +kernel), ir_of (by kernel_rfl), fun _ _ _ _ _ _ us hl => match us, hl with | [_, _], _ => rfl⟩
theorem ok7 : DefOk fT gT bT q7 := ⟨scB_ok (by decide +kernel), ir_of (by kernel_rfl), fun _ _ _ _ _ _ us hl => match us, hl with | [_, _], _ => rfl⟩
theorem ok8 : DefOk fT gT bT q8 := ⟨scB_ok (by decide +kernel), ir_of (by kernel_rfl), fun _ _ _ _ _ _ us hl => match us, hl with | [_, _], _ => rfl⟩
theorem ok9 : DefOk fT gT bT q9 := ⟨scB_ok (by decide +kernel), ir_of (by kernel_rfl), fun _ _ _ _ _ _ us hl => match us, hl with | [_, _], _ => rfl⟩
theorem ok10 : DefOk fT gT bT q10 := ⟨scB_ok (by decide +kernel), ir_of (by kernel_rfl), fun _ _ _ _ _ _ us hl => match us, hl with | [_], _ => rfl⟩
theorem ok11 : DefOk fT gT bT q11 := ⟨scB_ok (by decide +kernel), ir_of (by kernel_rfl), fun _ _ _ _ _ _ us hl => match us, hl with | [_], _ => rfl⟩
theorem ok12 : DefOk fT gT bT q12 := ⟨scB_ok (by decide +kernel), ir_of (by kernel_rfl), fun _ _ _ _ _ _ us hl => match us, hl with | [_], _ => rfl⟩
theorem ok13 : DefOk fT gT bT q13 := ⟨scB_ok (by decide +kernel), ir_of (by kernel_rfl), fun _ _ _ _ _ _ us hl => match us, hl with | [_, _], _ => rfl⟩
theorem ok14 : DefOk fT gT bT q14 := ⟨scB_ok (by decide +kernel), ir_of (by kernel_rfl), fun _ _ _ _ _ _ us hl => match us, hl with | [_, _], _ => rfl⟩
theorem ok15 : DefOk fT gT bT q15 := ⟨scB_ok (by decide +kernel), ir_of (by kernel_rfl), fun _ _ _ _ _ _ us hl => match us, hl with | [_, _], _ => rfl⟩
theorem ok16 : DefOk fT gT bT q16 := ⟨scB_ok (by decide +kernel), ir_of (by kernel_rfl), fun _ _ _ _ _ _ us hl => match us, hl with | [_, _, _], _ => rfl⟩
theorem ok17 : DefOk fT gT bT q17 := ⟨scB_ok (by decide +kernel), ir_of (by kernel_rfl), fun _ _ _ _ _ _ us hl => match us, hl with | [_, _, _], _ => rfl⟩
theorem ok18 : DefOk fT gT bT q18 := ⟨scB_ok (by decide +kernel), ir_of (by kernel_rfl), fun _ _ _ _ _ _ us hl => match us, hl with | [_], _ => rfl⟩
theorem ok19 : DefOk fT gT bT q19 := ⟨scB_ok (by decide +kernel), ir_of (by kernel_rfl), fun _ _ _ _ _ _ us hl => match us, hl with | [_], _ => rfl⟩
theorem ok20 : DefOk fT gT bT q20 := ⟨scB_ok (by decide +kernel), ir_of (by kernel_rfl), fun _ _ _ _ _ _ us hl => match us, hl with | [_, _], _ => rfl⟩
theorem ok21 : DefOk fT gT bT q21 := ⟨scB_ok (by decide +kernel), ir_of (by kernel_rfl), fun _ _ _ _ _ _ us hl => match us, hl with | [_, _, _], _ => rfl⟩
theorem ok22 : DefOk fT gT bT q22 := ⟨scB_ok (by decide +kernel), ir_of (by kernel_rfl), fun _ _ _ _ _ _ us hl => match us, hl with | [_, _, _], _ => rfl⟩
theorem ok23 : DefOk fT gT bT q23 := ⟨scB_ok (by decide +kernel), ir_of (by kernel_rfl), fun _ _ _ _ _ _ us hl => match us, hl with | [_, _, _], _ => rfl⟩
theorem ok24 : DefOk fT gT bT q24 := ⟨scB_ok (by decide +kernel), ir_of (by kernel_rfl), fun _ _ _ _ _ _ us hl => match us, hl with | [_, _, _], _ => rfl⟩
theorem ok25 : DefOk fT gT bT q25 := ⟨scB_ok (by decide +kernel), ir_of (by kernel_rfl), fun _ _ _ _ _ _ us hl => match us, hl with | [_, _], _ => rfl⟩
theorem ok26 : DefOk fT gT bT q26 := ⟨scB_ok (by decide +kernel), ir_of (by kernel_rfl), fun _ _ _ _ _ _ us hl => match us, hl with | [_, _, _, _], _ => rfl⟩
theorem ok27 : DefOk fT gT bT q27 := ⟨scB_ok (by decide +kernel), ir_of (by kernel_rfl), fun _ _ _ _ _ _ us hl => match us, hl with | [_], _ => rfl⟩
theorem ok28 : DefOk fT gT bT q28 := ⟨scB_ok (by decide +kernel), ir_of (by kernel_rfl), fun _ _ _ _ _ _ us hl => match us, hl with | [_], _ => rfl⟩
theorem ok29 : DefOk fT gT bT q29 := ⟨scB_ok (by decide +kernel), ir_of (by kernel_rfl), fun _ _ _ _ _ _ us hl => match us, hl with | [_, _], _ => rfl⟩
theorem ok30 : DefOk fT gT bT q30 := ⟨scB_ok (by decide +kernel), ir_of (by kernel_rfl), fun _ _ _ _ _ _ us hl => match us, hl with | [_, _], _ => rfl⟩
theorem ok31 : DefOk fT gT bT q31 := ⟨scB_ok (by decide +kernel), ir_of (by kernel_rfl), fun _ _ _ _ _ _ us hl => match us, hl with | [_], _ => rfl⟩
theorem ok32 : DefOk fT gT bT q32 := ⟨scB_ok (by decide +kernel), ir_of (by kernel_rfl), fun _ _ _ _ _ _ us hl => match us, hl with | [_], _ => rfl⟩
theorem ok33 : DefOk fT gT bT q33 := ⟨scB_ok (by decide +kernel), ir_of (by kernel_rfl), fun _ _ _ _ _ _ us hl => match us, hl with | [_], _ => rfl⟩
theorem ok34 : DefOk fT gT bT q34 := ⟨scB_ok (by decide +kernel), ir_of (by kernel_rfl), fun _ _ _ _ _ _ us hl => match us, hl with | [_], _ => rfl⟩
theorem ok35 : DefOk fT gT bT q35 := ⟨scB_ok (by decide +kernel), ir_of (by kernel_rfl), fun _ _ _ _ _ _ us hl => match us, hl with | [_, _], _ => rfl⟩
theorem ok36 : DefOk fT gT bT q36 := ⟨scB_ok (by decide +kernel), ir_of (by kernel_rfl), fun _ _ _ _ _ _ us hl => match us, hl with | [_], _ => rfl⟩
theorem ok37 : DefOk fT gT bT q37 := ⟨scB_ok (by decide +kernel), ir_of (by kernel_rfl), fun _ _ _ _ _ _ us hl => match us, hl with | [_], _ => rfl⟩
theorem ok38 : DefOk fT gT bT q38 := ⟨scB_ok (by decide +kernel), ir_of (by kernel_rfl), fun _ _ _ _ _ _ us hl => match us, hl with | [_, _], _ => rfl⟩
theorem ok39 : DefOk fT gT bT q39 := ⟨scB_ok (by decide +kernel), ir_of (by kernel_rfl), fun _ _ _ _ _ _ us hl => match us, hl with | [_, _, _], _ => rfl⟩
theorem ok40 : DefOk fT gT bT q40 := ⟨scB_ok (by decide +kernel), ir_of (by kernel_rfl), fun _ _ _ _ _ _ us hl => match us, hl with | [_, _, _], _ => rfl⟩
theorem ok41 : DefOk fT gT bT q41 := ⟨scB_ok (by decide +kernel), ir_of (by kernel_rfl), fun _ _ _ _ _ _ us hl => match us, hl with | [_, _, _, _, _], _ => rfl⟩
theorem ok42 : DefOk fT gT bT q42 := ⟨scB_ok (by decide +kernel), ir_of (by kernel_rfl), fun _ _ _ _ _ _ us hl => match us, hl with | [_], _ => rfl⟩
theorem ok43 : DefOk fT gT bT q43 := ⟨scB_ok (by decide +kernel), ir_of (by kernel_rfl), fun _ _ _ _ _ _ us hl => match us, hl with | [_], _ => rfl⟩
theorem ok44 : DefOk fT gT bT q44 := ⟨scB_ok (by decide +kernel), ir_of (by kernel_rfl), fun _ _ _ _ _ _ us hl => match us, hl with | [_], _ => rfl⟩
theorem ok45 : DefOk fT gT bT q45 := ⟨scB_ok (by decide +kernel), ir_of (by kernel_rfl), fun _ _ _ _ _ _ us hl => match us, hl with | [_], _ => rfl⟩
theorem ok46 : DefOk fT gT bT q46 := ⟨scB_ok (by decide +kernel), ir_of (by kernel_rfl), fun _ _ _ _ _ _ us hl => match us, hl with | [_, _, _, _], _ => rfl⟩
theorem ok47 : DefOk fT gT bT q47 := ⟨scB_ok (by decide +kernel), ir_of (by kernel_rfl), fun _ _ _ _ _ _ us hl => match us, hl with | [_, _, _, _], _ => rfl⟩
theorem ok48 : DefOk fT gT bT q48 := ⟨scB_ok (by decide +kernel), ir_of (by kernel_rfl), fun _ _ _ _ _ _ us hl => match us, hl with | [_], _ => rfl⟩
theorem ok49 : DefOk fT gT bT q49 := ⟨scB_ok (by decide +kernel), ir_of (by kernel_rfl), fun _ _ _ _ _ _ us hl => match us, hl with | [_, _], _ => rfl⟩
theorem ok50 : DefOk fT gT bT q50 := ⟨scB_ok (by decide +kernel), ir_of (by kernel_rfl), fun _ _ _ _ _ _ us hl => match us, hl with | [_, _, _, _], _ => rfl⟩
theorem ok51 : DefOk fT gT bT q51 := ⟨scB_ok (by decide +kernel), ir_of (by kernel_rfl), fun _ _ _ _ _ _ us hl => match us, hl with | [_], _ => rfl⟩
theorem ok52 : DefOk fT gT bT q52 := ⟨scB_ok (by decide +kernel), ir_of (by kernel_rfl), fun _ _ _ _ _ _ us hl => match us, hl with | [_, _], _ => rfl⟩
theorem ok53 : DefOk fT gT bT q53 := ⟨scB_ok (by decide +kernel), ir_of (by kernel_rfl), fun _ _ _ _ _ _ us hl => match us, hl with | [_, _], _ => rfl⟩
theorem ok54 : DefOk fT gT bT q54 := ⟨scB_ok (by decide +kernel), ir_of (by kernel_rfl), fun _ _ _ _ _ _ us hl => match us, hl with | [_, _], _ => rfl⟩
theorem ok55 : DefOk fT gT bT q55 := ⟨scB_ok (by decide +kernel), ir_of (by kernel_rfl), fun _ _ _ _ _ _ us hl => match us, hl with | [_, _], _ => rfl⟩
theorem ok56 : DefOk fT gT bT q56 := ⟨scB_ok (by decide +kernel), ir_of (by kernel_rfl), fun _ _ _ _ _ _ us hl => match us, hl with | [_, _], _ => rfl⟩
theorem ok57 : DefOk fT gT bT q57 := ⟨scB_ok (by decide +kernel), ir_of (by kernel_rfl), fun _ _ _ _ _ _ us hl => match us, hl with | [_, _], _ => rfl⟩
theorem ok58 : DefOk fT gT bT q58 := ⟨scB_ok (by decide +kernel), ir_of (by kernel_rfl), fun _ _ _ _ _ _ us hl => match us, hl with | [_, _], _ => rfl⟩
theorem ok59 : DefOk fT gT bT q59 := ⟨scB_ok (by decide +kernel), ir_of (by kernel_rfl), fun _ _ _ _ _ _ us hl => match us, hl with | [_, _], _ => rfl⟩
theorem ok60 : DefOk fT gT bT q60 := ⟨scB_ok (by decide +kernel), ir_of (by kernel_rfl), fun _ _ _ _ _ _ us hl => match us, hl with | [_, _], _ => rfl⟩
theorem ok61 : DefOk fT gT bT q61 := ⟨scB_ok (by decide +kernel), ir_of (by kernel_rfl), fun _ _ _ _ _ _ us hl => match us, hl with | [_], _ => rfl⟩
theorem ok62 : DefOk fT gT bT q62 := ⟨scB_ok (by decide +kernel), ir_of (by kernel_rfl), fun _ _ _ _ _ _ us hl => match us, hl with | [_, _], _ => rfl⟩
theorem ok63 : DefOk fT gT bT q63 := ⟨scB_ok (by decide +kernel), ir_of (by kernel_rfl), fun _ _ _ _ _ _ us hl => match us, hl with | [_, _], _ => rfl⟩
theorem ok64 : DefOk fT gT bT q64 := ⟨scB_ok (by decide +kernel), ir_of (by kernel_rfl), fun _ _ _ _ _ _ us hl => match us, hl with | [_, _, _], _ => rfl⟩
theorem ok65 : DefOk fT gT bT q65 := ⟨scB_ok (by decide +kernel), ir_of (by kernel_rfl), fun _ _ _ _ _ _ us hl => match us, hl with | [_, _, _, _], _ => rfl⟩
theorem ok66 : DefOk fT gT bT q66 := ⟨scB_ok (by decide +kernel), ir_of (by kernel_rfl), fun _ _ _ _ _ _ us hl => match us, hl with | [_, _], _ => rfl⟩
theorem ok67 : DefOk fT gT bT q67 := ⟨scB_ok (by decide +kernel), ir_of (by kernel_rfl), fun _ _ _ _ _ _ us hl => match us, hl with | [_], _ => rfl⟩
theorem ok68 : DefOk fT gT bT q68 := ⟨scB_ok (by decide +kernel), ir_of (by kernel_rfl), fun _ _ _ _ _ _ us hl => match us, hl with | [_, _], _ => rfl⟩
theorem ok69 : DefOk fT gT bT q69 := ⟨scB_ok (by decide +kernel), ir_of (by kernel_rfl), fun _ _ _ _ _ _ us hl => match us, hl with | [_, _], _ => rfl⟩
theorem ok70 : DefOk fT gT bT q70 := ⟨scB_ok (by decide +kernel), ir_of (by kernel_rfl), fun _ _ _ _ _ _ us hl => match us, hl with | [_, _], _ => rfl⟩
theorem ok71 : DefOk fT gT bT q71 := ⟨scB_ok (by decide +kernel), ir_of (by kernel_rfl), fun _ _ _ _ _ _ us hl => match us, hl with | [_, _], _ => rfl⟩
theorem ok72 : DefOk fT gT bT q72 := ⟨scB_ok (by decide +kernel), ir_of (by kernel_rfl), fun _ _ _ _ _ _ us hl => match us, hl with | [_], _ => rfl⟩
theorem ok73 : DefOk fT gT bT q73 := ⟨scB_ok (by decide +kernel), ir_of (by kernel_rfl), fun _ _ _ _ _ _ us hl => match us, hl with | [_], _ => rfl⟩
theorem ok74 : DefOk fT gT bT q74 := ⟨scB_ok (by decide +kernel), ir_of (by kernel_rfl), fun _ _ _ _ _ _ us hl => match us, hl with | [_, _], _ => rfl⟩
theorem ok75 : DefOk fT gT bT q75 := ⟨scB_ok (by decide +kernel), ir_of (by kernel_rfl), fun _ _ _ _ _ _ us hl => match us, hl with | [_, _], _ => rfl⟩
theorem ok76 : DefOk fT gT bT q76 := ⟨scB_ok (by decide +kernel), ir_of (by kernel_rfl), fun _ _ _ _ _ _ us hl => match us, hl with | [_], _ => rfl⟩
theorem ok77 : DefOk fT gT bT q77 := ⟨scB_ok (by decide +kernel), ir_of (by kernel_rfl), fun _ _ _ _ _ _ us hl => match us, hl with | [_], _ => rfl⟩
theorem ok78 : DefOk fT gT bT q78 := ⟨scB_ok (by decide +kernel), ir_of (by kernel_rfl), fun _ _ _ _ _ _ us hl => match us, hl with | [_], _ => rfl⟩
theorem ok79 : DefOk fT gT bT q79 := ⟨scB_ok (by decide +kernel), ir_of (by kernel_rfl), fun _ _ _ _ _ _ us hl => match us, hl with | [_, _, _, _, _, _], _ => rfl⟩
theorem ok80 : DefOk fT gT bT q80 := ⟨scB_ok (by decide +kernel), ir_of (by kernel_rfl), fun _ _ _ _ _ _ us hl => match us, hl with | [_], _ => rfl⟩
theorem oks : ∀ d, d ∈ prg.defs → DefOk prg.fnsT prg.glsT prg.bls d := by
  rw [fT_eq, gT_eq]
  intro d hd
  simp only [prg, List.mem_cons, List.not_mem_nil, or_false] at hd
  rcases hd with rfl | rfl | rfl | rfl | rfl | rfl | rfl | rfl | rfl | rfl | rfl | rfl | rfl | rfl | rfl | rfl | rfl | rfl | rfl | rfl | rfl | rfl | rfl | rfl | rfl | rfl | rfl | rfl | rfl | rfl | rfl | rfl | rfl | rfl | rfl | rfl | rfl | rfl | rfl | rfl | rfl | rfl | rfl | rfl | rfl | rfl | rfl | rfl | rfl | rfl | rfl | rfl | rfl | rfl | rfl | rfl | rfl | rfl | rfl | rfl | rfl | rfl | rfl | rfl | rfl | rfl | rfl | rfl | rfl | rfl | rfl | rfl | rfl | rfl | rfl | rfl | rfl | rfl | rfl | rfl | rfl
  · exact ok0
  · exact ok1
  · exact ok2
  · exact ok3
  · exact ok4
  · exact ok5
  · exact ok6
  · exact ok7
  · exact ok8
  · exact ok9
  · exact ok10
  · exact ok11
  · exact ok12
  · exact ok13
  · exact ok14
  · exact ok15
  · exact ok16
  · exact ok17
  · exact ok18
  · exact ok19
  · exact ok20
  · exact ok21
  · exact ok22
  · exact ok23
  · exact ok24
  · exact ok25
  · exact ok26
  · exact ok27
  · exact ok28
  · exact ok29
  · exact ok30
  · exact ok31
  · exact ok32
  · exact ok33
  · exact ok34
  · exact ok35
  · exact ok36
  · exact ok37
  · exact ok38
  · exact ok39
  · exact ok40
  · exact ok41
  · exact ok42
  · exact ok43
  · exact ok44
  · exact ok45
  · exact ok46
  · exact ok47
  · exact ok48
  · exact ok49
  · exact ok50
  · exact ok51
  · exact ok52
  · exact ok53
  · exact ok54
  · exact ok55
  · exact ok56
  · exact ok57
  · exact ok58
  · exact ok59
  · exact ok60
  · exact ok61
  · exact ok62
  · exact ok63
  · exact ok64
  · exact ok65
  · exact ok66
  · exact ok67
  · exact ok68
  · exact ok69
  · exact ok70
  · exact ok71
  · exact ok72
  · exact ok73
  · exact ok74
  · exact ok75
  · exact ok76
  · exact ok77
  · exact ok78
  · exact ok79
  · exact ok80
end Q.K26
end

section
set_option maxRecDepth 100000
set_option maxHeartbeats 0
namespace Q.K26
open PySem PySem.Spec PyProof.Rows L2
abbrev R : PySem.W.OpenRow := PySem.W.OpenLaw.row PySem.Challenge.rw_everysample_k26_whole_small_move_on_edge
abbrev hk : PySem.W.Hook := hookQ 2 prg
def ob (s : PySem.W.SharedT) : AlQ := obsQ 2 prg (HandSHeadRun.getT s)
theorem ob_eq (s : PySem.W.SharedT) : ob s = hk.obs s.abs := obsQ_eq (HandSHeadRun.getT_eq s)
def loose : List Str := ([("is_integer" : Str), ("is_within" : Str), ("is_sized" : Str), ("SampleError" : Str), ("NoPiece" : Str), ("NoPoint" : Str), ("NoSample" : Str), ("NoSize" : Str), ("NoTriangle" : Str), ("NoWalls" : Str), ("ZERO" : Str), ("ONE" : Str), ("common" : Str), ("share" : Str), ("is_share" : Str), ("plus" : Str), ("minus" : Str), ("times" : Str), ("over" : Str), ("MOST_SIZE" : Str), ("MOST_NUMBER_planes" : Str), ("is_point" : Str), ("check_points" : Str), ("is_plane" : Str), ("dot" : Str), ("cross" : Str), ("upright" : Str), ("volume" : Str), ("turn_of" : Str), ("sign_of" : Str)] : List Str) ++ ([("as_shares" : Str), ("check_size" : Str), ("is_sample" : Str), ("check_sample" : Str), ("ray" : Str), ("ray_of" : Str), ("moved_sign" : Str), ("small_sign" : Str), ("seen_at" : Str), ("shown" : Str), ("scaled" : Str), ("less" : Str), ("sum_of" : Str), ("MOST_WALLS" : Str), ("MOST_PROGRAMS" : Str), ("MOST_VALUES" : Str), ("HIT" : Str), ("BESIDE" : Str), ("FLAT" : Str), ("WALL" : Str), ("is_corner" : Str), ("is_triangle" : Str), ("walls_right" : Str), ("check_triangle" : Str), ("points_of" : Str), ("sides_of" : Str), ("first_beside" : Str), ("first_wall" : Str), ("met" : Str), ("hit" : Str)] : List Str) ++ ([("MOST_NUMBER_clips" : Str), ("is_piece" : Str), ("check_piece" : Str), ("seen" : Str), ("area" : Str), ("edge_at" : Str), ("edge_sign" : Str), ("edges_of" : Str), ("owns" : Str), ("covers" : Str), ("_law_tape" : Str), ("_law_pick" : Str), ("_law_any" : Str), ("_law_mixed" : Str), ("_law_shared" : Str), ("_law_over" : Str), ("_law_plus" : Str), ("_law_times" : Str), ("_law_minus" : Str), ("_law_part" : Str), ("_law_sign" : Str), ("_law_dot" : Str), ("_law_upright" : Str), ("_law_turn" : Str), ("_law_ray" : Str), ("_law_small" : Str), ("_law_edges" : Str), ("_law_owns" : Str), ("_law_weights" : Str), ("_law_number" : Str)] : List Str) ++ ([("_law_piece" : Str), ("_law_points" : Str), ("_law_size" : Str), ("_law_moved" : Str), ("_law_form" : Str), ("_law_forms_right" : Str), ("_law_edge_right" : Str), ("_law_fence_right" : Str), ("_law_barred_right" : Str)] : List Str)
theorem run (w : World) : HandSHeadRun.RunEq R (PySem.W.view R.prog [107]) hk ob 20000 loose w := by
  intro os
  kernel_rfl
end Q.K26
end

section
set_option maxRecDepth 100000
set_option maxHeartbeats 0
open PySem PySem.W PySem.Calls PyProof.Rows
theorem Q.K26.holds_of (hlaw : ∀ ns : List Int, ns.length ≤ 63 → ∃ L b, Q.callN Q.K26.prg.tb Q.K26.prg.gb L 60 80 [.scr ns] [] = .ok (.bl true) b) : PySem.Challenge.rw_everysample_k26_whole_small_move_on_edge.Holds := by
  w_on; o_law
  refine HandSHeadRun.head_any (r := OpenLaw.row PySem.Challenge.rw_everysample_k26_whole_small_move_on_edge) (q := view (OpenLaw.row PySem.Challenge.rw_everysample_k26_whole_small_move_on_edge).prog [107]) (H := Q.K26.hk) (ob := Q.K26.ob) (M := 20000) (loose := Q.K26.loose) (d := HandSHeadRun.topDef (OpenLaw.row PySem.Challenge.rw_everysample_k26_whole_small_move_on_edge).prog 107) (kwd := []) Q.K26.ob_eq
    (by kernel_rfl) (fun s => by kernel_rfl) Q.K26.run (by kernel_rfl) (by kernel_rfl) (by kernel_rfl) (by rfl) (by first | assumption | decide +kernel) (by decide +kernel) ⟨rfl, rfl, rfl, rfl, rfl, by decide +kernel⟩ ?hw ?hc
  case hw => w_witness2
  case hc =>
    refine L2.walk_ofE (l := PySem.Challenge.rw_everysample_k26_whole_small_move_on_edge) (n := 63) (k := 60) (x := "script") (CX := L2.CX0) rfl (by decide) (by kernel_rfl) ⟨rfl, by decide, by decide⟩ ?F (fun _ _ _ _ z => z)
    intro w mg fa h Y G hmg0
    have hmg : mg (Q.K26.q80).name = some (.ref fa) := by
      have e : (HandSHeadRun.topDef (OpenLaw.row PySem.Challenge.rw_everysample_k26_whole_small_move_on_edge).prog 107).name = (Q.K26.q80).name := by kernel_rfl
      rw [← e]
      exact hmg0
    exact Q.law_F (p := Q.K26.prg) (m := 5) (n := 60) (kl := 80) (d := Q.K26.q80) Q.K26.oks rfl rfl hlaw Y G hmg
end

section
set_option maxRecDepth 100000
set_option maxHeartbeats 4000000
/-! QEv: the evaluator's equations where the state is written out. -/
namespace Q
open PySem L2

@[simp] theorem get_mk (l : List (Option D)) (b : List (List D)) (i : Nat) : (S.mk l b).get i = (l[i]?).bind id := rfl
@[simp] theorem put_mk (l : List (Option D)) (b : List (List D)) (i : Nat) (d : D) : (S.mk l b).put i d = ⟨l.set i (some d), b⟩ := rfl
@[simp] theorem frz_int (i : Int) : (D.int i).frz = .int i := rfl
@[simp] theorem frz_bl (i : Bool) : (D.bl i).frz = .bl i := rfl
@[simp] theorem frz_tup (i : List D) : (D.tup i).frz = .tup i := rfl
@[simp] theorem frz_lst (i : List D) : (D.lst i).frz = .lst i := rfl
@[simp] theorem frz_dic (i : List (Key × D)) : (D.dic i).frz = .dic i := rfl
@[simp] theorem frz_own' (i : List D) : (D.own i).frz = .lst i := rfl
@[simp] theorem frz_odc (i : List (Key × D)) : (D.odc i).frz = .dic i := rfl
@[simp] theorem frz_non : D.non.frz = .non := rfl
@[simp] theorem frz_str (x : Str) : (D.str x).frz = .str x := rfl
@[simp] theorem frz_box (x : Nat) : (D.box x).frz = .box x := rfl
@[simp] theorem frz_scr (x : List Int) : (D.scr x).frz = .scr x := rfl
@[simp] theorem isOwn_int (i : Int) : (D.int i).isOwn = false := rfl
@[simp] theorem isOwn_bl (i : Bool) : (D.bl i).isOwn = false := rfl
@[simp] theorem isOwn_tup (i : List D) : (D.tup i).isOwn = false := rfl
@[simp] theorem isOwn_lst (i : List D) : (D.lst i).isOwn = false := rfl
@[simp] theorem isOwn_non : D.non.isOwn = false := rfl
@[simp] theorem isOwn_str (x : Str) : (D.str x).isOwn = false := rfl
@[simp] theorem isOwn_box (x : Nat) : (D.box x).isOwn = false := rfl
@[simp] theorem isOwn_dic (x : List (Key × D)) : (D.dic x).isOwn = false := rfl
@[simp] theorem isOwn_scr (x : List Int) : (D.scr x).isOwn = false := rfl
/-- a slot given out -/
def gv : Option (Option D) → List (Option D) → List (List D) → Nat → Res D
  | some (some (.own xs)), l, b, i => .ok (.lst xs) ⟨l.set i (some (.lst xs)), b⟩
  | some (some (.odc xs)), l, b, i => .ok (.dic xs) ⟨l.set i (some (.dic xs)), b⟩
  | some (some d), l, b, _ => .ok d ⟨l, b⟩
  | _, _, _, _ => .bad
section
variable (l : List (Option D)) (b : List (List D)) (i : Nat)
@[simp] theorem gv_own (xs : List D) : gv (some (some (.own xs))) l b i = .ok (.lst xs) ⟨l.set i (some (.lst xs)), b⟩ := rfl
@[simp] theorem gv_odc (xs : List (Key × D)) : gv (some (some (.odc xs))) l b i = .ok (.dic xs) ⟨l.set i (some (.dic xs)), b⟩ := rfl
@[simp] theorem gv_d {d : D} (h : d.isOwn = false) : gv (some (some d)) l b i = .ok d ⟨l, b⟩ := by cases d <;> first | rfl | cases h
@[simp] theorem gv_int (x : Int) : gv (some (some (.int x))) l b i = .ok (.int x) ⟨l, b⟩ := rfl
@[simp] theorem gv_bl (x : Bool) : gv (some (some (.bl x))) l b i = .ok (.bl x) ⟨l, b⟩ := rfl
@[simp] theorem gv_tup (x : List D) : gv (some (some (.tup x))) l b i = .ok (.tup x) ⟨l, b⟩ := rfl
@[simp] theorem gv_lst (x : List D) : gv (some (some (.lst x))) l b i = .ok (.lst x) ⟨l, b⟩ := rfl
@[simp] theorem gv_non : gv (some (some .non)) l b i = .ok .non ⟨l, b⟩ := rfl
@[simp] theorem gv_str (x : Str) : gv (some (some (.str x))) l b i = .ok (.str x) ⟨l, b⟩ := rfl
@[simp] theorem gv_box (x : Nat) : gv (some (some (.box x))) l b i = .ok (.box x) ⟨l, b⟩ := rfl
@[simp] theorem gv_dic (x : List (Key × D)) : gv (some (some (.dic x))) l b i = .ok (.dic x) ⟨l, b⟩ := rfl
@[simp] theorem gv_scr (x : List Int) : gv (some (some (.scr x))) l b i = .ok (.scr x) ⟨l, b⟩ := rfl
@[simp] theorem gv_n : gv none l b i = .bad := rfl
@[simp] theorem gv_nn : gv (some none) l b i = .bad := rfl
end
section
variable (c : Env) (l : List (Option D)) (bx : List (List D)) (a b d : E) (v : Nat)
@[simp] theorem ev_var (i : Nat) : evE c (.var i) ⟨l, bx⟩ = gv (l[i]?) l bx i := by
  show Res.opt (((l[i]?).bind id).map D.frz) (S.frz ⟨l, bx⟩ i) = _
  unfold S.frz
  simp only [get_mk]
  cases l[i]? with
  | none => rfl
  | some o =>
    cases o with
    | none => rfl
    | some d => cases d <;> rfl
@[simp] theorem ev_cst (d : D) : evE c (.cst d) ⟨l, bx⟩ = .ok d ⟨l, bx⟩ := rfl
@[simp] theorem ev_glb (k : Nat) : evE c (.glb k) ⟨l, bx⟩ = Res.opt (c.glb k) ⟨l, bx⟩ := rfl
@[simp] theorem ev_bin (o : BOp) : evE c (.bin o a b) ⟨l, bx⟩ = (evE c a ⟨l, bx⟩).bnd fun x s1 => (evE c b s1).bnd fun y s2 => Res.opt (opB o x.frz y.frz) s2 := rfl
@[simp] theorem ev_cmp (o : COp) : evE c (.cmp o a b) ⟨l, bx⟩ = (evE c a ⟨l, bx⟩).bnd fun x s1 => (evE c b s1).bnd fun y s2 => Res.opt ((opC o x.frz y.frz).map .bl) s2 := rfl
@[simp] theorem ev_chn (o p : COp) : evE c (.chn o p a b d) ⟨l, bx⟩ = (evE c a ⟨l, bx⟩).bnd fun x s1 => (evE c b s1).bnd fun y s2 => (Res.opt (opC o x.frz y.frz) s2).bnd fun k s3 =>
      if k then (evE c d s3).bnd fun z s4 => Res.opt ((opC p y.frz z.frz).map .bl) s4 else .ok (.bl false) s3 := rfl
def andK (c : Env) (b : E) : D → S → Res D
  | .bl true, s1 => (evE c b s1).bnd fun y s2 => .ok y.frz s2
  | .bl false, s1 => .ok (.bl false) s1
  | _, _ => .bad
def orK (c : Env) (b : E) : D → S → Res D
  | .bl false, s1 => (evE c b s1).bnd fun y s2 => .ok y.frz s2
  | .bl true, s1 => .ok (.bl true) s1
  | _, _ => .bad
def notK : D → S → Res D
  | .bl k, s1 => .ok (.bl (!k)) s1
  | _, _ => .bad
def negK : D → S → Res D
  | .int k, s1 => .ok (.int (-k)) s1
  | _, _ => .bad
@[simp] theorem andK_t (s : S) : andK c b (.bl true) s = (evE c b s).bnd fun y s2 => .ok y.frz s2 := rfl
@[simp] theorem andK_f (s : S) : andK c b (.bl false) s = .ok (.bl false) s := rfl
@[simp] theorem orK_f (s : S) : orK c b (.bl false) s = (evE c b s).bnd fun y s2 => .ok y.frz s2 := rfl
@[simp] theorem orK_t (s : S) : orK c b (.bl true) s = .ok (.bl true) s := rfl
@[simp] theorem notK_b (k : Bool) (s : S) : notK (.bl k) s = .ok (.bl (!k)) s := rfl
@[simp] theorem negK_i (k : Int) (s : S) : negK (.int k) s = .ok (.int (-k)) s := rfl
@[simp] theorem ev_and : evE c (.and a b) ⟨l, bx⟩ = (evE c a ⟨l, bx⟩).bnd (andK c b) := by
  show (evE c a ⟨l, bx⟩).bnd _ = _
  congr 1; funext x s; cases x <;> first | rfl | (rename_i k; cases k <;> rfl)
@[simp] theorem ev_or : evE c (.or a b) ⟨l, bx⟩ = (evE c a ⟨l, bx⟩).bnd (orK c b) := by
  show (evE c a ⟨l, bx⟩).bnd _ = _
  congr 1; funext x s; cases x <;> first | rfl | (rename_i k; cases k <;> rfl)
@[simp] theorem ev_not : evE c (.not a) ⟨l, bx⟩ = (evE c a ⟨l, bx⟩).bnd notK := by
  show (evE c a ⟨l, bx⟩).bnd _ = _
  congr 1; funext x s; cases x <;> rfl
@[simp] theorem ev_neg : evE c (.neg a) ⟨l, bx⟩ = (evE c a ⟨l, bx⟩).bnd negK := by
  show (evE c a ⟨l, bx⟩).bnd _ = _
  congr 1; funext x s; cases x <;> rfl
@[simp] theorem ev_ite : evE c (.ite d a b) ⟨l, bx⟩ = (evT c d ⟨l, bx⟩).bnd fun k s1 => if k then (evE c a s1).bnd fun y s2 => .ok y.frz s2 else (evE c b s1).bnd fun y s2 => .ok y.frz s2 := rfl
@[simp] theorem ev_tup : evE c (.tup a) ⟨l, bx⟩ = (evA c a ⟨l, bx⟩).bnd fun xs s1 => if xs.length ≤ LINE then .ok (.tup xs) s1 else .bad := rfl
@[simp] theorem ev_lst : evE c (.lst a) ⟨l, bx⟩ = (evA c a ⟨l, bx⟩).bnd fun xs s1 => if xs.length ≤ LINE then .ok (.own xs) s1 else .bad := rfl
@[simp] theorem ev_bxl : evE c (.bxl a) ⟨l, bx⟩ = (evA c a ⟨l, bx⟩).bnd fun xs s1 => if xs.length ≤ LINE then .ok (.box s1.box.length) { s1 with box := s1.box ++ [xs] } else .bad := rfl
@[simp] theorem ev_dic : evE c (.dic a) ⟨l, bx⟩ = (evA c a ⟨l, bx⟩).bnd fun xs s1 => (Res.opt (pairsD xs) s1).bnd fun ps s2 => if ps.length ≤ 15 then .ok (.odc (mergeD [] ps)) s2 else .bad := rfl
@[simp] theorem ev_idx : evE c (.idx a b) ⟨l, bx⟩ = (evE c a ⟨l, bx⟩).bnd fun x s1 => (evE c b s1).bnd fun y s2 => Res.opt (ixD x.frz y.frz) s2 := rfl
@[simp] theorem ev_slc (h : E) : evE c (.slc a b h) ⟨l, bx⟩ = (evE c a ⟨l, bx⟩).bnd fun x s1 => (evO c b s1).bnd fun lo s2 => (evO c h s2).bnd fun hi s3 => Res.opt (slD x.frz lo hi) s3 := rfl
@[simp] theorem ev_call (k : Nat) : evE c (.call k a) ⟨l, bx⟩ = (evA c a ⟨l, bx⟩).bnd fun xs s1 => callR c k xs s1 := rfl
@[simp] theorem ev_blt (k : Blt) : evE c (.blt k a) ⟨l, bx⟩ = (evA c a ⟨l, bx⟩).bnd fun xs s1 => Res.opt (bltD k xs) s1 := rfl
@[simp] theorem ev_rgl (t : Bool) : evE c (.rgl t a) ⟨l, bx⟩ = (evI c a ⟨l, bx⟩).bnd fun ds s1 => if ds.length ≤ LINE then .ok (if t then .tup ds else .own ds) s1 else .bad := rfl
@[simp] theorem ev_lenv : evE c (.lenv v) ⟨l, bx⟩ = Res.opt (((S.cont ⟨l, bx⟩ v).bind lenD).map fun (n : Nat) => D.int (n : Int)) ⟨l, bx⟩ := rfl
@[simp] theorem ev_isi (ts : List Ty) : evE c (.isi a ts) ⟨l, bx⟩ = (evE c a ⟨l, bx⟩).bnd fun x s1 => if isTyOk x then .ok (.bl (ts.any (isTy x.frz))) s1 else .bad := rfl
@[simp] theorem ev_ixv : evE c (.ixv v a) ⟨l, bx⟩ = if ((l[v]?).bind id).isSome then (evE c a ⟨l, bx⟩).bnd fun y s1 => Res.opt ((s1.cont v).bind fun x => ixD x y.frz) s1 else .bad := rfl
@[simp] theorem ev_slv : evE c (.slv v a b) ⟨l, bx⟩ = if ((l[v]?).bind id).isSome then (evO c a ⟨l, bx⟩).bnd fun lo s2 => (evO c b s2).bnd fun hi s3 => Res.opt ((s3.cont v).bind fun x => slD x lo hi) s3 else .bad := rfl
@[simp] theorem ev_mut (m : Mth) : evE c (.mut m v a) ⟨l, bx⟩ = if ownL ⟨l, bx⟩ v then (evA c a ⟨l, bx⟩).bnd fun xs s1 => (Res.opt (mutD s1 v m xs) s1).bnd fun p _ => .ok p.1 p.2 else .bad := rfl
/-- one turn of a comprehension -/
def lcT (c : Env) (elt tg cond : E) (own : List Nat) (d : D) (s2 : S) : Res (Option D) := (Res.opt (asgT tg d { s2 with loc := wipeL s2.loc own }) s2).bnd fun s3 _ => (evT c cond s3).nox.bnd fun k s4 =>
        if k then (evE c elt s4).nox.bnd fun y s5 => .ok (some y.frz) s5 else .ok none s4
theorem ev_lc (elt tg it cond : E) (own : List Nat) : evE c (.lc elt tg it cond own) ⟨l, bx⟩ = (evI c it ⟨l, bx⟩).bnd fun ds s1 => if ds.length ≤ LINE then
      (lcL (lcT c elt tg cond own) ds (s1.frzs own)).bnd fun ys s2 => .ok (.own ys) { s2 with loc := backL s2.loc (s1.frzs own).loc own } else .bad := rfl
@[simp] theorem eo_nil : evO c .nil ⟨l, bx⟩ = .ok none ⟨l, bx⟩ := rfl
def prtK : D → S → Res (Option Int)
  | .int i, s => .ok (some i) s
  | _, _ => .bad
@[simp] theorem prtK_i (k : Int) (s : S) : prtK (.int k) s = .ok (some k) s := rfl
@[simp] theorem eo_prt : evO c (.prt a) ⟨l, bx⟩ = (evE c a ⟨l, bx⟩).bnd prtK := by
  show (evE c a ⟨l, bx⟩).bnd _ = _
  congr 1; funext x s; cases x <;> rfl
@[simp] theorem et_nil : evT c .nil ⟨l, bx⟩ = .ok true ⟨l, bx⟩ := rfl
@[simp] theorem et_and : evT c (.and a b) ⟨l, bx⟩ = (evT c a ⟨l, bx⟩).bnd fun k s1 => if k then evT c b s1 else .ok false s1 := rfl
@[simp] theorem et_or : evT c (.or a b) ⟨l, bx⟩ = (evT c a ⟨l, bx⟩).bnd fun k s1 => if k then .ok true s1 else evT c b s1 := rfl
@[simp] theorem et_not : evT c (.not a) ⟨l, bx⟩ = (evT c a ⟨l, bx⟩).bnd fun k s1 => .ok (!k) s1 := rfl
@[simp] theorem et_tru : evT c (.tru a) ⟨l, bx⟩ = (evE c a ⟨l, bx⟩).bnd fun d s1 => Res.opt (truD d) s1 := rfl
@[simp] theorem et_trv : evT c (.trv v) ⟨l, bx⟩ = Res.opt (((l[v]?).bind id).bind truD) ⟨l, bx⟩ := rfl
@[simp] theorem ea_nil : evA c .nil ⟨l, bx⟩ = .ok [] ⟨l, bx⟩ := rfl
@[simp] theorem ea_cons : evA c (.cons a b) ⟨l, bx⟩ = (evE c a ⟨l, bx⟩).bnd fun x s1 => (evA c b s1).bnd fun xs s2 => .ok (x.frz :: xs) s2 := rfl
def r1K : D → S → Res (List D)
  | .int j, s1 => if rngOk 0 j then .ok (rangeD 0 j.toNat) s1 else .bad
  | _, _ => .bad
def r2K : D → D → S → Res (List D)
  | .int i, .int j, s2 => if rngOk i j then .ok (rangeD i (j - i).toNat) s2 else .bad
  | _, _, _ => .bad
@[simp] theorem r1K_i (j : Int) (s : S) : r1K (.int j) s = if rngOk 0 j then .ok (rangeD 0 j.toNat) s else .bad := rfl
@[simp] theorem r2K_i (i j : Int) (s : S) : r2K (.int i) (.int j) s = if rngOk i j then .ok (rangeD i (j - i).toNat) s else .bad := rfl
def zpK (o p : Option (List D)) (s : S) : Res (List D) := match o, p with
  | some xs, some ys => .ok (zipD xs ys) s
  | _, _ => .bad
@[simp] theorem zpK_s (xs ys : List D) (s : S) : zpK (some xs) (some ys) s = .ok (zipD xs ys) s := rfl
@[simp] theorem ei_r1 : evI c (.rng1 a) ⟨l, bx⟩ = (evE c a ⟨l, bx⟩).bnd r1K := by
  show (evE c a ⟨l, bx⟩).bnd _ = _
  congr 1; funext x s; cases x <;> rfl
@[simp] theorem ei_r2 : evI c (.rng2 a b) ⟨l, bx⟩ = (evE c a ⟨l, bx⟩).bnd fun x s1 => (evE c b s1).bnd (r2K x) := by
  show (evE c a ⟨l, bx⟩).bnd _ = _
  congr 1; funext x s
  congr 1; funext y s; cases x <;> cases y <;> rfl
@[simp] theorem ei_zip : evI c (.zip a b) ⟨l, bx⟩ = (evE c a ⟨l, bx⟩).bnd fun x s1 => (evE c b s1).bnd fun y s2 => zpK x.frz.items y.frz.items s2 := rfl
@[simp] theorem ei_its : evI c (.its a) ⟨l, bx⟩ = (evE c a ⟨l, bx⟩).bnd fun x s1 => Res.opt x.frz.items s1 := rfl
end
@[simp] theorem items_tup (xs : List D) : (D.tup xs).items = some xs := rfl
@[simp] theorem items_lst (xs : List D) : (D.lst xs).items = some xs := rfl
section
variable (c : Env) (L : Nat) (l : List (Option D)) (bx : List (List D)) (a b : E) (x y : St) (v w : Nat)
@[simp] theorem es_nil : evS c L .nil ⟨l, bx⟩ = .ok .nx ⟨l, bx⟩ := rfl
def seqK (c : Env) (L : Nat) (y : St) : Flow → S → Res Flow
  | .nx, s1 => evS c L y s1
  | fl, s1 => .ok fl s1
@[simp] theorem seqK_nx (s : S) : seqK c L y .nx s = evS c L y s := rfl
@[simp] theorem seqK_rt (d : D) (s : S) : seqK c L y (.rt d) s = .ok (.rt d) s := rfl
@[simp] theorem seqK_bk (s : S) : seqK c L y .bk s = .ok .bk s := rfl
@[simp] theorem seqK_ct (s : S) : seqK c L y .ct s = .ok .ct s := rfl
@[simp] theorem es_seq : evS c L (.seq x y) ⟨l, bx⟩ = (evS c L x ⟨l, bx⟩).bnd (seqK c L y) := by
  show (evS c L x ⟨l, bx⟩).bnd _ = _
  congr 1; funext f s; cases f <;> rfl
@[simp] theorem es_asg : evS c L (.asg a b) ⟨l, bx⟩ = (evE c b ⟨l, bx⟩).bnd fun d s1 => (Res.opt (asgT a d s1) s1).bnd fun s2 _ => .ok .nx s2 := rfl
@[simp] theorem es_asv : evS c L (.asv v b) ⟨l, bx⟩ = (evE c b ⟨l, bx⟩).bnd fun d s1 => if v < s1.loc.length then .ok .nx (s1.put v d) else .bad := rfl
def par3K (v w u : Nat) : List D → S → Res Flow
  | [x, y, z], s1 => if v < s1.loc.length ∧ w < s1.loc.length ∧ u < s1.loc.length then .ok .nx (((s1.put v x).put w y).put u z) else .bad
  | _, _ => .bad
@[simp] theorem par3K_eq {v w u : Nat} {x y z : D} {l : List (Option D)} {bx : List (List D)} : par3K v w u [x, y, z] ⟨l, bx⟩ = if v < l.length ∧ w < l.length ∧ u < l.length then .ok .nx ((((⟨l, bx⟩ : S).put v x).put w y).put u z) else .bad := rfl
@[simp] theorem es_par3 {es : E} : evS c L (.par3 v w u es) ⟨l, bx⟩ = (evA c es ⟨l, bx⟩).bnd (par3K v w u) := by
  show (evA c es ⟨l, bx⟩).bnd _ = _
  congr 1
  funext xs s1
  match xs with
  | [] => rfl
  | [_] => rfl
  | [_, _] => rfl
  | [_, _, _] => rfl
  | _ :: _ :: _ :: _ :: _ => rfl
def enmK : Option (List D) → S → Res (List D)
  | some xs, s => .ok (enumD 0 xs) s
  | none, _ => .bad
@[simp] theorem enmK_some {xs : List D} {s : S} : enmK (some xs) s = .ok (enumD 0 xs) s := rfl
@[simp] theorem es_par : evS c L (.par v w a b) ⟨l, bx⟩ = (evE c a ⟨l, bx⟩).bnd fun x s1 => (evE c b s1).bnd fun y s2 => if v < s2.loc.length ∧ w < s2.loc.length ∧ v ≠ w then .ok .nx ((s2.put v x).put w y) else .bad := rfl
@[simp] theorem setR_eq {c : Env} {l : List (Option D)} {bx : List (List D)} (v : Nat) (i : E) (x : D) : setR c v i x ⟨l, bx⟩ = if ((l[v]?).bind id).isSome then (evE c i ⟨l, bx⟩).bnd fun k s2 => (Res.opt (s2.setItem v k.frz x) s2).bnd fun s3 _ => .ok () s3 else .bad := rfl
def set2K (c : Env) (v w : Nat) (i j : E) : D → S → Res Flow
  | .tup [x, y], s1 => (setR c v i x s1).bnd fun _ s2 => (setR c w j y s2).bnd fun _ s3 => .ok .nx s3
  | _, _ => .bad
@[simp] theorem set2K_eq {c : Env} {v w : Nat} {i j : E} {x y : D} {s : S} : set2K c v w i j (.tup [x, y]) s = (setR c v i x s).bnd fun _ s2 => (setR c w j y s2).bnd fun _ s3 => .ok .nx s3 := rfl
@[simp] theorem es_set2 (w : Nat) (i j e : E) : evS c L (.set2 v w i j e) ⟨l, bx⟩ = (evE c e ⟨l, bx⟩).bnd (set2K c v w i j) := by
  show ((evE c e ⟨l, bx⟩).bnd fun d s1 => _) = _
  congr 1
  funext d s1
  cases d <;> first | rfl | skip
  rename_i xs
  rcases xs with _ | ⟨x, _ | ⟨y, _ | ⟨z, r⟩⟩⟩ <;> rfl
@[simp] theorem es_set : evS c L (.set v a b) ⟨l, bx⟩ = (evE c b ⟨l, bx⟩).bnd fun x s1 => if (s1.get v).isSome then (evE c a s1).bnd fun k s2 => (Res.opt (s2.setItem v k.frz x.frz) s2).bnd fun s3 _ => .ok .nx s3 else .bad := rfl
def augK (c : Env) (v : Nat) (o : BOp) (b : E) (s : S) : Option D → Res Flow
  | some x => (evE c b s).bnd fun y s1 => (Res.opt (opA o x y.frz) s1).bnd fun z s2 => .ok .nx (s2.put v z)
  | none => .bad
@[simp] theorem augK_s (o : BOp) (s : S) (d : D) : augK c v o b s (some d) = (evE c b s).bnd fun y s1 => (Res.opt (opA o d y.frz) s1).bnd fun z s2 => .ok .nx (s2.put v z) := rfl
@[simp] theorem es_aug (o : BOp) : evS c L (.aug v o b) ⟨l, bx⟩ = augK c v o b ⟨l, bx⟩ ((l[v]?).bind id) := by
  show (match (S.mk l bx).get v with | some x => (evE c b ⟨l, bx⟩).bnd fun y s1 => (Res.opt (opA o x y.frz) s1).bnd fun z s2 => (Res.ok Flow.nx (s2.put v z) : Res Flow) | none => (Res.bad : Res Flow)) = _
  rw [get_mk]
  cases (l[v]?).bind id <;> rfl
@[simp] theorem es_ex : evS c L (.ex a) ⟨l, bx⟩ = (evE c a ⟨l, bx⟩).bnd fun _ s1 => .ok .nx s1 := rfl
@[simp] theorem es_ret : evS c L (.ret a) ⟨l, bx⟩ = (evE c a ⟨l, bx⟩).bnd fun d s1 => .ok (.rt d) s1 := rfl
@[simp] theorem es_retN : evS c L .retN ⟨l, bx⟩ = .ok (.rt .non) ⟨l, bx⟩ := rfl
@[simp] theorem es_ite : evS c L (.ite a x y) ⟨l, bx⟩ = (evT c a ⟨l, bx⟩).bnd fun k s1 => if k then evS c L x s1 else evS c L y s1 := rfl
@[simp] theorem es_whl : evS c L (.whl a x) ⟨l, bx⟩ = whlL (evT c a) (evS c L x) L ⟨l, bx⟩ := rfl
/-- one turn of a for -/
def forT (c : Env) (L : Nat) (tg : E) (x : St) (d : D) (s2 : S) : Res Flow := (Res.opt (asgT tg d s2) s2).bnd fun s3 _ => evS c L x s3
@[simp] theorem es_for : evS c L (.for a b x) ⟨l, bx⟩ = (evI c b ⟨l, bx⟩).bnd fun ds s1 => forL (forT c L a x) ds s1 := rfl
@[simp] theorem es_pass : evS c L .pass ⟨l, bx⟩ = .ok .nx ⟨l, bx⟩ := rfl
@[simp] theorem es_brk : evS c L .brk ⟨l, bx⟩ = .ok .bk ⟨l, bx⟩ := rfl
@[simp] theorem es_cnt : evS c L .cnt ⟨l, bx⟩ = .ok .ct ⟨l, bx⟩ := rfl
theorem whl_t {t : S → Res Bool} {f : S → Res Flow} {m : Nat} {s s1 s2 : S} {r : Res Flow} (h1 : t s = .ok true s1) (h2 : f s1 = .ok .nx s2) (h3 : whlL t f m s2 = r) : whlL t f (m + 1) s = r := by
  unfold whlL
  rw [h1, Res.bnd_ok, if_pos rfl, h2]
  exact h3
theorem whl_f {t : S → Res Bool} {f : S → Res Flow} {m : Nat} {s s1 : S} (h1 : t s = .ok false s1) : whlL t f (m + 1) s = .ok .nx s1 := by
  unfold whlL
  rw [h1]; rfl
end
section
variable (c : Env) (l : List (Option D)) (bx : List (List D)) (v : Nat)
/-- a container at a slot -/
def ctD (bx : List (List D)) : D → Option D
  | .box k => (bx[k]?).map .own
  | d => some d
@[simp] theorem cont_mk : (S.mk l bx).cont v = ((l[v]?).bind id).bind (ctD bx) := by
  show (((l[v]?).bind id).bind _) = _
  congr 1
@[simp] theorem ctD_tup (xs : List D) : ctD bx (.tup xs) = some (.tup xs) := rfl
@[simp] theorem ctD_lst (xs : List D) : ctD bx (.lst xs) = some (.lst xs) := rfl
@[simp] theorem ctD_own (xs : List D) : ctD bx (.own xs) = some (.own xs) := rfl
@[simp] theorem ctD_scr (xs : List Int) : ctD bx (.scr xs) = some (.scr xs) := rfl
@[simp] theorem ctD_box (k : Nat) : ctD bx (.box k) = (bx[k]?).map .own := rfl
end
@[simp] theorem opB_addI (i j : Int) : opB .add (.int i) (.int j) = some (.int (i + j)) := rfl
@[simp] theorem opB_subI (i j : Int) : opB .sub (.int i) (.int j) = some (.int (i - j)) := rfl
@[simp] theorem opB_subB (i j : Bool) : opB .sub (.bl i) (.bl j) = some (.int ((if i = true then (1 : Int) else 0) - if j = true then (1 : Int) else 0)) := rfl
@[simp] theorem opB_mulI (i j : Int) : opB .mul (.int i) (.int j) = if mulOk i j then some (.int (i * j)) else none := rfl
@[simp] theorem opB_divI (i j : Int) : opB .fdiv (.int i) (.int j) = if divOk j then some (.int (i.fdiv j)) else none := rfl
@[simp] theorem opB_modI (i j : Int) : opB .mod (.int i) (.int j) = if j ≠ 0 then some (.int (i.fmod j)) else none := rfl
@[simp] theorem opB_powI (i j : Int) : opB .pow (.int i) (.int j) = if powOk i j then some (.int (i ^ j.toNat)) else none := rfl
@[simp] theorem opB_addT (i j : List D) : opB .add (.tup i) (.tup j) = if i.length + j.length ≤ LINE then some (.tup (i ++ j)) else none := rfl
@[simp] theorem opB_addL (i j : List D) : opB .add (.lst i) (.lst j) = if i.length + j.length ≤ LINE then some (.own (i ++ j)) else none := rfl
@[simp] theorem opB_mulT (i : List D) (j : Int) : opB .mul (.tup i) (.int j) = if repTOk i.length j then some (.tup (rep i j)) else none := rfl
@[simp] theorem opC_lt (i j : Int) : opC .lt (.int i) (.int j) = some (decide (i < j)) := rfl
@[simp] theorem opC_le (i j : Int) : opC .le (.int i) (.int j) = some (decide (i ≤ j)) := rfl
@[simp] theorem opC_gt (i j : Int) : opC .gt (.int i) (.int j) = some (decide (j < i)) := rfl
@[simp] theorem opC_ge (i j : Int) : opC .ge (.int i) (.int j) = some (decide (j ≤ i)) := rfl
@[simp] theorem opC_eq (x y : D) : opC .eq x y = if shN 60 x && shN 60 y then some (eqD x y) else none := by cases x <;> cases y <;> rfl
@[simp] theorem opC_ne (x y : D) : opC .ne x y = if shN 60 x && shN 60 y then some (!eqD x y) else none := by cases x <;> cases y <;> rfl
@[simp] theorem blt_len (d : D) : bltD .len [d] = (lenD d).map fun (n : Nat) => D.int (n : Int) := rfl
@[simp] theorem blt_abs (i : Int) : bltD .abs [.int i] = some (.int (if i < 0 then -i else i)) := rfl
@[simp] theorem blt_int (i : Int) : bltD .int [.int i] = some (.int i) := rfl
@[simp] theorem blt_intb (i : Bool) : bltD .int [.bl i] = some (.int (if i then 1 else 0)) := rfl
@[simp] theorem blt_all (xs : List D) : bltD .all [.lst xs] = (allB xs).map fun bs => .bl (bs.all id) := rfl
@[simp] theorem blt_any (xs : List D) : bltD .any [.lst xs] = (allB xs).map fun bs => .bl (bs.any id) := rfl
@[simp] theorem blt_tupL (xs : List D) : bltD .tuple [.lst xs] = some (.tup xs) := rfl
@[simp] theorem blt_tupT (xs : List D) : bltD .tuple [.tup xs] = some (.tup xs) := rfl
@[simp] theorem blt_lstL (xs : List D) : bltD .list [.lst xs] = some (.own xs) := rfl
@[simp] theorem blt_lstT (xs : List D) : bltD .list [.tup xs] = some (.own xs) := rfl
@[simp] theorem lenD_tup (xs : List D) : lenD (.tup xs) = some xs.length := rfl
@[simp] theorem lenD_lst (xs : List D) : lenD (.lst xs) = some xs.length := rfl
@[simp] theorem lenD_own (xs : List D) : lenD (.own xs) = some xs.length := rfl
@[simp] theorem lenD_scr (xs : List Int) : lenD (.scr xs) = some xs.length := rfl
@[simp] theorem ixD_tup (xs : List D) (i : Int) : ixD (.tup xs) (.int i) = atI xs i := rfl
@[simp] theorem ixD_lst (xs : List D) (i : Int) : ixD (.lst xs) (.int i) = atI xs i := rfl
@[simp] theorem ixD_own (xs : List D) (i : Int) : ixD (.own xs) (.int i) = atI xs i := rfl
@[simp] theorem truD_bl (k : Bool) : truD (.bl k) = some k := rfl
@[simp] theorem truD_int (k : Int) : truD (.int k) = some (k != 0) := rfl
@[simp] theorem eqD_int (i j : Int) : eqD (.int i) (.int j) = (i == j) := rfl
@[simp] theorem eqD_bl (i j : Bool) : eqD (.bl i) (.bl j) = (i == j) := rfl
@[simp] theorem shN_int (n : Nat) (i : Int) : shN n (.int i) = true := by cases n <;> rfl
@[simp] theorem shN_bl (n : Nat) (i : Bool) : shN n (.bl i) = true := by cases n <;> rfl
@[simp] theorem shN_non (n : Nat) : shN n .non = true := by cases n <;> rfl
@[simp] theorem shN_tup (n : Nat) (xs : List D) : shN (n + 1) (.tup xs) = xs.all (shN n) := rfl
@[simp] theorem shN_lst (n : Nat) (xs : List D) : shN (n + 1) (.lst xs) = xs.all (shN n) := rfl
@[simp] theorem bnd_bnd {α β γ : Type} (r : Res α) (f : α → S → Res β) (g : β → S → Res γ) : (r.bnd f).bnd g = r.bnd fun a s => (f a s).bnd g := by cases r <;> rfl
@[simp] theorem line_lit : LINE = 16777216 := rfl
theorem callN_eq {tb : Nat → Option Fn} {gb : Nat → Option D} {L n k : Nat} {f : Fn} (h : tb k = some f) (xs : List D) (b : List (List D)) : callN tb gb L (n + 1) k xs b = runF ⟨callN tb gb L n, gb⟩ L f xs b := by
  show (match tb k with | some f => runF ⟨callN tb gb L n, gb⟩ L f xs b | none => .bad) = _
  rw [h]
theorem callR_ok {c : Env} {k : Nat} {xs : List D} {l : List (Option D)} {b b' : List (List D)} {d : D} (h : c.call k xs b = .ok d b') : callR c k xs ⟨l, b⟩ = .ok d ⟨l, b'⟩ := by
  unfold callR; rw [show (S.mk l b).box = b from rfl, h]
theorem runF_rt {c : Env} {L : Nat} {f : Fn} {xs : List D} {b : List (List D)} {d : D} {s : S} (hn : xs.length = f.np) (h : evS c L f.body ⟨startL f xs, b⟩ = .ok (.rt d) s) : runF c L f xs b = .ok d s.box := by
  unfold runF; rw [if_pos hn, h]
theorem runF_nx {c : Env} {L : Nat} {f : Fn} {xs : List D} {b : List (List D)} {s : S} (hn : xs.length = f.np) (h : evS c L f.body ⟨startL f xs, b⟩ = .ok .nx s) : runF c L f xs b = .ok .non s.box := by
  unfold runF; rw [if_pos hn, h]
end Q
end

section
set_option maxRecDepth 100000
set_option maxHeartbeats 4000000
/-! QLc: loops and comprehensions by their turns. -/
namespace Q
open PySem L2

theorem back_wipe {l l2 : List (Option D)} {own : List Nat} (h : wipeL l2 own = wipeL l own) : backL l2 l own = l := by
  have hl : l2.length = l.length := by rw [← wipeL_len l2 own, h, wipeL_len]
  refine List.ext_getElem? fun i => ?_
  by_cases hi : i ∈ own
  · by_cases hlt : i < l2.length
    · rw [backL_in hi hlt]
      have : i < l.length := by omega
      rw [List.getElem?_eq_getElem this]; rfl
    · rw [List.getElem?_eq_none (by rw [backL_len]; omega), List.getElem?_eq_none (by omega)]
  · rw [backL_out hi, ← wipeL_out (l := l2) hi, h, wipeL_out hi]
/-- a comprehension's turns, the boxes going along -/
theorem lcL_st {f : D → S → Res (Option D)} {ds : List D} {own : List Nat} {w : List (Option D)} (Pr : Nat → List (List D) → List D → Prop)
    (h : ∀ i d bx acc l, ds[i]? = some d → Pr i bx acc → wipeL l own = w → ∃ l' bx' y, f d ⟨l, bx⟩ = .ok y ⟨l', bx'⟩ ∧ wipeL l' own = w ∧ Pr (i + 1) bx' (acc ++ y.toList)) :
    ∀ (r : Nat) (i : Nat) (bx : List (List D)) (acc : List D) (l : List (Option D)), ds.length - i = r → i ≤ ds.length → Pr i bx acc → wipeL l own = w → ∃ l' bx' ys, lcL f (ds.drop i) ⟨l, bx⟩ = .ok ys ⟨l', bx'⟩ ∧ wipeL l' own = w ∧ Pr ds.length bx' (acc ++ ys)
  | 0, i, bx, acc, l, hr, hi, hp, hw => by
    have e : i = ds.length := by omega
    subst e
    rw [List.drop_length]
    exact ⟨l, bx, [], rfl, hw, by rw [List.append_nil]; exact hp⟩
  | r + 1, i, bx, acc, l, hr, hi, hp, hw => by
    have hlt : i < ds.length := by omega
    obtain ⟨l1, bx1, y, e1, w1, p1⟩ := h i ds[i] bx acc l (by simp [hlt]) hp hw
    obtain ⟨l2, bx2, ys, e2, w2, p2⟩ := lcL_st Pr h r (i + 1) bx1 (acc ++ y.toList) l1 (by omega) hlt p1 w1
    refine ⟨l2, bx2, y.toList ++ ys, ?_, w2, by rw [← List.append_assoc]; exact p2⟩
    rw [List.drop_eq_getElem_cons hlt]
    unfold lcL
    rw [e1, Res.bnd_ok, e2, Res.bnd_ok]
    cases y <;> rfl
theorem lcT_eq {c : Env} {elt tg cond : E} {own : List Nat} {d y : D} {b : Bool} {l l2 l3 l4 : List (Option D)} {bx bx2 bx3 : List (List D)} (h1 : asgT tg d ⟨wipeL l own, bx⟩ = some ⟨l2, bx⟩) (h2 : evT c cond ⟨l2, bx⟩ = .ok b ⟨l3, bx2⟩) (h3 : b = true → evE c elt ⟨l3, bx2⟩ = .ok y ⟨l4, bx3⟩) :
    lcT c elt tg cond own d ⟨l, bx⟩ = if b then .ok (some y.frz) ⟨l4, bx3⟩ else .ok none ⟨l3, bx2⟩ := by
  unfold lcT
  rw [h1, Res.opt_some, Res.bnd_ok, h2]
  cases b with
  | false => rfl
  | true =>
    show ((evE c elt ⟨l3, bx2⟩).nox.bnd fun y s5 => Res.ok (some y.frz) s5) = _
    rw [h3 rfl]; rfl
/-- a comprehension that leaves the boxes, every item taken -/
theorem lc_map {c : Env} {elt tg it : E} {own : List Nat} {ds : List D} {g : D → D} {l l1 : List (Option D)} {bx : List (List D)} (hi : evI c it ⟨l, bx⟩ = .ok ds ⟨l1, bx⟩) (hl : ds.length ≤ LINE) (hf : S.frzs ⟨l1, bx⟩ own = ⟨l1, bx⟩)
    (h : ∀ d, d ∈ ds → ∃ l2 l3 y, asgT tg d ⟨wipeL l1 own, bx⟩ = some ⟨l2, bx⟩ ∧ evE c elt ⟨l2, bx⟩ = .ok y ⟨l3, bx⟩ ∧ y.frz = g d ∧ wipeL l3 own = wipeL l1 own) :
    evE c (.lc elt tg it .nil own) ⟨l, bx⟩ = .ok (.own (ds.map g)) ⟨l1, bx⟩ := by
  rw [ev_lc, hi, Res.bnd_ok, if_pos hl, hf]
  obtain ⟨l2, bx2, ys, e1, w1, e2, e3⟩ := lcL_st (f := lcT c elt tg .nil own) (ds := ds) (own := own) (w := wipeL l1 own) (fun i b acc => b = bx ∧ acc = (ds.take i).map g) (fun i d b acc l' hd hp hw => by
    obtain ⟨rfl, rfl⟩ := hp
    obtain ⟨l2, l3, y, a1, a2, a3, a4⟩ := h d (List.mem_of_getElem? hd)
    refine ⟨l3, b, some y.frz, (lcT_eq (cond := .nil) (b := true) (by rw [hw]; exact a1) rfl (fun _ => a2)).trans rfl, a4, rfl, ?_⟩
    obtain ⟨q1, q2⟩ := List.getElem?_eq_some_iff.mp hd
    rw [List.take_succ_eq_append_getElem q1, List.map_append, q2, a3]; rfl) _ 0 bx [] l1 rfl (Nat.zero_le _) ⟨rfl, by simp⟩ rfl
  rw [List.drop_zero] at e1
  rw [e1, Res.bnd_ok]
  subst e2
  rw [List.nil_append, List.take_length] at e3
  subst e3
  rw [back_wipe w1]
theorem lc_mapA {α : Type} (xs : List α) (f g : α → D) {c : Env} {elt tg it : E} {own : List Nat} {l l1 : List (Option D)} {bx : List (List D)} (hi : evI c it ⟨l, bx⟩ = .ok (xs.map f) ⟨l1, bx⟩) (hl : xs.length ≤ LINE) (hf : S.frzs ⟨l1, bx⟩ own = ⟨l1, bx⟩)
    (h : ∀ x, x ∈ xs → ∃ l2 l3 y, asgT tg (f x) ⟨wipeL l1 own, bx⟩ = some ⟨l2, bx⟩ ∧ evE c elt ⟨l2, bx⟩ = .ok y ⟨l3, bx⟩ ∧ y.frz = g x ∧ wipeL l3 own = wipeL l1 own) :
    evE c (.lc elt tg it .nil own) ⟨l, bx⟩ = .ok (.own (xs.map g)) ⟨l1, bx⟩ := by
  rw [ev_lc, hi, Res.bnd_ok, if_pos (by simpa using hl), hf]
  obtain ⟨l2, bx2, ys, e1, w1, e2, e3⟩ := lcL_st (f := lcT c elt tg .nil own) (ds := xs.map f) (own := own) (w := wipeL l1 own) (fun i b acc => b = bx ∧ acc = (xs.take i).map g) (fun i d b acc l' hd hp hw => by
    obtain ⟨rfl, rfl⟩ := hp
    rw [List.getElem?_map] at hd
    obtain ⟨x, hx, rfl⟩ := map_inv hd
    obtain ⟨l2, l3, y, a1, a2, a3, a4⟩ := h x (List.mem_of_getElem? hx)
    refine ⟨l3, b, some y.frz, (lcT_eq (cond := .nil) (b := true) (by rw [hw]; exact a1) rfl (fun _ => a2)).trans rfl, a4, rfl, ?_⟩
    obtain ⟨q1, q2⟩ := List.getElem?_eq_some_iff.mp hx
    rw [List.take_succ_eq_append_getElem q1, List.map_append, q2, a3]; rfl) _ 0 bx [] l1 rfl (Nat.zero_le _) ⟨rfl, by simp⟩ rfl
  rw [List.drop_zero] at e1
  rw [e1, Res.bnd_ok]
  subst e2
  rw [List.nil_append, List.length_map, List.take_length] at e3
  subst e3
  rw [back_wipe w1]
theorem zipD_map {α β : Type} (f : α → D) (g : β → D) : ∀ (xs : List α) (ys : List β), zipD (xs.map f) (ys.map g) = (xs.zip ys).map fun p => .tup [f p.1, g p.2]
  | [], ys => by cases ys <;> rfl
  | x :: xs, [] => rfl
  | x :: xs, y :: ys => by
    show D.tup [f x, g y] :: zipD (xs.map f) (ys.map g) = _
    rw [zipD_map f g xs ys]; rfl
/-- .. some items taken -/
theorem lc_filter {c : Env} {elt tg it cond : E} {own : List Nat} {ds : List D} {p : D → Bool} {g : D → D} {l l1 : List (Option D)} {bx : List (List D)} (hi : evI c it ⟨l, bx⟩ = .ok ds ⟨l1, bx⟩) (hl : ds.length ≤ LINE) (hf : S.frzs ⟨l1, bx⟩ own = ⟨l1, bx⟩)
    (h : ∀ d, d ∈ ds → ∃ l2 l3 l4 y, asgT tg d ⟨wipeL l1 own, bx⟩ = some ⟨l2, bx⟩ ∧ evT c cond ⟨l2, bx⟩ = .ok (p d) ⟨l3, bx⟩ ∧ wipeL l3 own = wipeL l1 own ∧ (p d = true → evE c elt ⟨l3, bx⟩ = .ok y ⟨l4, bx⟩ ∧ y.frz = g d ∧ wipeL l4 own = wipeL l1 own)) :
    evE c (.lc elt tg it cond own) ⟨l, bx⟩ = .ok (.own ((ds.filter p).map g)) ⟨l1, bx⟩ := by
  rw [ev_lc, hi, Res.bnd_ok, if_pos hl, hf]
  obtain ⟨l2, bx2, ys, e1, w1, e2, e3⟩ := lcL_st (f := lcT c elt tg cond own) (ds := ds) (own := own) (w := wipeL l1 own) (fun i b acc => b = bx ∧ acc = ((ds.take i).filter p).map g) (fun i d b acc l' hd hp hw => by
    obtain ⟨rfl, rfl⟩ := hp
    obtain ⟨l2, l3, l4, y, a1, a2, a3, a4⟩ := h d (List.mem_of_getElem? hd)
    obtain ⟨q1, q2⟩ := List.getElem?_eq_some_iff.mp hd
    have e := lcT_eq (elt := elt) (y := y) (l4 := l4) (bx3 := b) (by rw [hw]; exact a1) a2 (fun z => (a4 z).1)
    rw [List.take_succ_eq_append_getElem q1, List.filter_append, List.map_append, q2]
    cases hp : p d with
    | false =>
      rw [hp] at e
      exact ⟨l3, b, none, e, a3, rfl, by simp [hp]⟩
    | true =>
      rw [hp] at e
      obtain ⟨_, a5, a6⟩ := a4 hp
      exact ⟨l4, b, some y.frz, e, a6, rfl, by simp [hp, a5]⟩) _ 0 bx [] l1 rfl (Nat.zero_le _) ⟨rfl, by simp⟩ rfl
  rw [List.drop_zero] at e1
  rw [e1, Res.bnd_ok]
  subst e2
  rw [List.nil_append, List.take_length] at e3
  subst e3
  rw [back_wipe w1]
theorem lc_filterA {α : Type} {c : Env} {elt tg it cond : E} {own : List Nat} {l l1 : List (Option D)} {bx : List (List D)} (xs : List α) (e : α → D) (p : α → Bool) (g : α → D) (hi : evI c it ⟨l, bx⟩ = .ok (xs.map e) ⟨l1, bx⟩) (hl : xs.length ≤ LINE) (hf : S.frzs ⟨l1, bx⟩ own = ⟨l1, bx⟩)
    (h : ∀ x, x ∈ xs → ∃ l2 l3 l4 y, asgT tg (e x) ⟨wipeL l1 own, bx⟩ = some ⟨l2, bx⟩ ∧ evT c cond ⟨l2, bx⟩ = .ok (p x) ⟨l3, bx⟩ ∧ wipeL l3 own = wipeL l1 own ∧ (p x = true → evE c elt ⟨l3, bx⟩ = .ok y ⟨l4, bx⟩ ∧ y.frz = g x ∧ wipeL l4 own = wipeL l1 own)) :
    evE c (.lc elt tg it cond own) ⟨l, bx⟩ = .ok (.own ((xs.filter p).map g)) ⟨l1, bx⟩ := by
  rw [ev_lc, hi, Res.bnd_ok, if_pos (by simpa using hl), hf]
  obtain ⟨l2, bx2, ys, e1, w1, e2, e3⟩ := lcL_st (f := lcT c elt tg cond own) (ds := xs.map e) (own := own) (w := wipeL l1 own) (fun i b acc => b = bx ∧ acc = ((xs.take i).filter p).map g) (fun i d b acc l' hd hp hw => by
    obtain ⟨rfl, rfl⟩ := hp
    rw [List.getElem?_map] at hd
    obtain ⟨x, hx, rfl⟩ := map_inv hd
    obtain ⟨l2, l3, l4, y, a1, a2, a3, a4⟩ := h x (List.mem_of_getElem? hx)
    obtain ⟨q1, q2⟩ := List.getElem?_eq_some_iff.mp hx
    have e := lcT_eq (elt := elt) (y := y) (l4 := l4) (bx3 := b) (by rw [hw]; exact a1) a2 (fun z => (a4 z).1)
    rw [List.take_succ_eq_append_getElem q1, List.filter_append, List.map_append, q2]
    cases hp : p x with
    | false =>
      rw [hp] at e
      exact ⟨l3, b, none, e, a3, rfl, by simp [hp]⟩
    | true =>
      rw [hp] at e
      obtain ⟨_, a5, a6⟩ := a4 hp
      exact ⟨l4, b, some y.frz, e, a6, rfl, by simp [hp, a5]⟩) _ 0 bx [] l1 rfl (Nat.zero_le _) ⟨rfl, by simp⟩ rfl
  rw [List.drop_zero] at e1
  rw [e1, Res.bnd_ok]
  subst e2
  rw [List.nil_append, List.length_map, List.take_length] at e3
  subst e3
  rw [back_wipe w1]
/-- .. every item taken, the boxes going along -/
theorem lc_st {c : Env} {elt tg it : E} {own : List Nat} {ds : List D} {l l1 : List (Option D)} {bx bx1 : List (List D)} (Pr : Nat → List (List D) → List D → Prop) (hi : evI c it ⟨l, bx⟩ = .ok ds ⟨l1, bx1⟩) (hl : ds.length ≤ LINE) (hf : S.frzs ⟨l1, bx1⟩ own = ⟨l1, bx1⟩) (h0 : Pr 0 bx1 [])
    (h : ∀ i d b acc, ds[i]? = some d → Pr i b acc → ∃ l2 l3 b' y, asgT tg d ⟨wipeL l1 own, b⟩ = some ⟨l2, b⟩ ∧ evE c elt ⟨l2, b⟩ = .ok y ⟨l3, b'⟩ ∧ wipeL l3 own = wipeL l1 own ∧ Pr (i + 1) b' (acc ++ [y.frz])) :
    ∃ b' ys, evE c (.lc elt tg it .nil own) ⟨l, bx⟩ = .ok (.own ys) ⟨l1, b'⟩ ∧ Pr ds.length b' ys := by
  obtain ⟨l2, bx2, ys, e1, w1, e2⟩ := lcL_st (f := lcT c elt tg .nil own) (ds := ds) (own := own) (w := wipeL l1 own) Pr (fun i d b acc l' hd hp hw => by
    obtain ⟨l2, l3, b', y, a1, a2, a3, a4⟩ := h i d b acc hd hp
    exact ⟨l3, b', some y.frz, (lcT_eq (cond := .nil) (b := true) (by rw [hw]; exact a1) rfl (fun _ => a2)).trans rfl, a3, a4⟩) _ 0 bx1 [] l1 rfl (Nat.zero_le _) h0 rfl
  refine ⟨bx2, ys, ?_, by simpa using e2⟩
  rw [ev_lc, hi, Res.bnd_ok, if_pos hl, hf]
  rw [List.drop_zero] at e1
  rw [e1, Res.bnd_ok, back_wipe w1]
/-- a comprehension in general, by the wiped slots -/
theorem lcL_gen {f : D → S → Res (Option D)} {ds : List D} {own : List Nat} (Pr : Nat → List (Option D) → List (List D) → List D → Prop)
    (h : ∀ i d bx acc l, ds[i]? = some d → Pr i (wipeL l own) bx acc → ∃ l' bx' y, f d ⟨l, bx⟩ = .ok y ⟨l', bx'⟩ ∧ Pr (i + 1) (wipeL l' own) bx' (acc ++ y.toList)) :
    ∀ (r : Nat) (i : Nat) (bx : List (List D)) (acc : List D) (l : List (Option D)), ds.length - i = r → i ≤ ds.length → Pr i (wipeL l own) bx acc → ∃ l' bx' ys, lcL f (ds.drop i) ⟨l, bx⟩ = .ok ys ⟨l', bx'⟩ ∧ Pr ds.length (wipeL l' own) bx' (acc ++ ys)
  | 0, i, bx, acc, l, hr, hi, hp => by
    have e : i = ds.length := by omega
    subst e
    rw [List.drop_length]
    exact ⟨l, bx, [], rfl, by rw [List.append_nil]; exact hp⟩
  | r + 1, i, bx, acc, l, hr, hi, hp => by
    have hlt : i < ds.length := by omega
    obtain ⟨l1, bx1, y, e1, p1⟩ := h i ds[i] bx acc l (by simp [hlt]) hp
    obtain ⟨l2, bx2, ys, e2, p2⟩ := lcL_gen Pr h r (i + 1) bx1 (acc ++ y.toList) l1 (by omega) hlt p1
    refine ⟨l2, bx2, y.toList ++ ys, ?_, by rw [← List.append_assoc]; exact p2⟩
    rw [List.drop_eq_getElem_cons hlt]
    unfold lcL
    rw [e1, Res.bnd_ok, e2, Res.bnd_ok]
    cases y <;> rfl
theorem lc_gen {c : Env} {elt tg it : E} {own : List Nat} {ds : List D} {l l1 : List (Option D)} {bx bx1 : List (List D)} (Pr : Nat → List (Option D) → List (List D) → List D → Prop) (hi : evI c it ⟨l, bx⟩ = .ok ds ⟨l1, bx1⟩) (hl : ds.length ≤ LINE) (hf : S.frzs ⟨l1, bx1⟩ own = ⟨l1, bx1⟩) (h0 : Pr 0 (wipeL l1 own) bx1 [])
    (h : ∀ i d w b acc, ds[i]? = some d → Pr i w b acc → ∃ l2 l3 b' y, asgT tg d ⟨w, b⟩ = some ⟨l2, b⟩ ∧ evE c elt ⟨l2, b⟩ = .ok y ⟨l3, b'⟩ ∧ Pr (i + 1) (wipeL l3 own) b' (acc ++ [y.frz])) :
    ∃ l' b' ys, evE c (.lc elt tg it .nil own) ⟨l, bx⟩ = .ok (.own ys) ⟨backL l' l1 own, b'⟩ ∧ Pr ds.length (wipeL l' own) b' ys := by
  obtain ⟨l2, bx2, ys, e1, e2⟩ := lcL_gen (f := lcT c elt tg .nil own) (ds := ds) (own := own) Pr (fun i d b acc l' hd hp => by
    obtain ⟨l2, l3, b', y, a1, a2, a3⟩ := h i d _ b acc hd hp
    exact ⟨l3, b', some y.frz, (lcT_eq (cond := .nil) (b := true) a1 rfl (fun _ => a2)).trans rfl, a3⟩) _ 0 bx1 [] l1 rfl (Nat.zero_le _) h0
  refine ⟨l2, bx2, ys, ?_, by simpa using e2⟩
  rw [ev_lc, hi, Res.bnd_ok, if_pos hl, hf]
  rw [List.drop_zero] at e1
  rw [e1, Res.bnd_ok]
theorem back_wipe' {l l2 ln : List (Option D)} {own : List Nat} (h : wipeL l2 own = wipeL ln own) (ho : ∀ i, i ∈ own → ln[i]? = l[i]?) (hl : ln.length = l.length) : backL l2 l own = ln := by
  have hl2 : l2.length = ln.length := by rw [← wipeL_len l2 own, h, wipeL_len]
  refine List.ext_getElem? fun i => ?_
  by_cases hi : i ∈ own
  · by_cases hlt : i < l2.length
    · rw [backL_in hi hlt, ho i hi]
      have : i < l.length := by omega
      rw [List.getElem?_eq_getElem this]; rfl
    · rw [List.getElem?_eq_none (by rw [backL_len]; omega), List.getElem?_eq_none (by omega)]
  · rw [backL_out hi, ← wipeL_out (l := l2) hi, h, wipeL_out hi]
@[simp] theorem allB_nil : allB [] = some [] := rfl
@[simp] theorem allB_cons (b : Bool) (r : List D) : allB (.bl b :: r) = (allB r).map (b :: ·) := rfl
theorem allB_map {α : Type} (f : α → Bool) : ∀ ds : List α, allB (ds.map fun d => D.bl (f d)) = some (ds.map f)
  | [] => rfl
  | d :: ds => by
    show (allB (ds.map fun d => D.bl (f d))).map (f d :: ·) = _
    rw [allB_map f ds]; rfl
/-- a for, turn by turn -/
theorem forL_st {f : D → S → Res Flow} {ds : List D} (Pr : Nat → S → Prop) (h : ∀ i d s, ds[i]? = some d → Pr i s → ∃ s', (f d s = .ok .nx s' ∨ f d s = .ok .ct s') ∧ Pr (i + 1) s') :
    ∀ (r i : Nat) (s : S), ds.length - i = r → i ≤ ds.length → Pr i s → ∃ s', forL f (ds.drop i) s = .ok .nx s' ∧ Pr ds.length s'
  | 0, i, s, hr, hi, hp => by
    have e : i = ds.length := by omega
    subst e
    rw [List.drop_length]
    exact ⟨s, rfl, hp⟩
  | r + 1, i, s, hr, hi, hp => by
    have hlt : i < ds.length := by omega
    obtain ⟨s1, e1, p1⟩ := h i ds[i] s (by simp [hlt]) hp
    obtain ⟨s2, e2, p2⟩ := forL_st Pr h r (i + 1) s1 (by omega) hlt p1
    refine ⟨s2, ?_, p2⟩
    rw [List.drop_eq_getElem_cons hlt]
    unfold forL
    rcases e1 with e1 | e1 <;> (rw [e1, Res.bnd_ok]; exact e2)
theorem for_st {f : D → S → Res Flow} {ds : List D} {s : S} (Pr : Nat → S → Prop) (h0 : Pr 0 s) (h : ∀ i d s, ds[i]? = some d → Pr i s → ∃ s', (f d s = .ok .nx s' ∨ f d s = .ok .ct s') ∧ Pr (i + 1) s') : ∃ s', forL f ds s = .ok .nx s' ∧ Pr ds.length s' := by
  have := forL_st Pr h _ 0 s rfl (Nat.zero_le _) h0
  rwa [List.drop_zero] at this
end Q
end

section
set_option maxRecDepth 100000
set_option maxHeartbeats 4000000
/-! QMath: what the small defs of shares do. -/
namespace Q
open PySem L2

/-- the gcd by Euclid, as the loop goes -/
def cmC : E := (.tru (.cmp .ne (.var 1) (.cst (.int 0))))
def cmB : St := (.seq (.par 0 1 (.var 1) (.bin .mod (.var 0) (.var 1))) .nil)
def irCommon : St := (.seq (.whl cmC cmB) (.seq (.ret (.blt .abs (.cons (.var 0) .nil))) .nil))
theorem common_loop (c : Env) (L : Nat) (bx : List (List D)) : ∀ (m : Nat) (a b : Int), 0 ≤ b → b.toNat < m → ∃ g : Int, whlL (evT c cmC) (evS c L cmB) m ⟨[some (.int a), some (.int b)], bx⟩ = .ok .nx ⟨[some (.int g), some (.int 0)], bx⟩ ∧ g.natAbs = Int.gcd a b
  | 0, a, b, h0, h => by omega
  | m + 1, a, b, h0, h => by
    by_cases hb : b = 0
    · subst hb
      exact ⟨a, whl_f (by simp [cmC]), by simp⟩
    · have hm : (Int.fmod a b).toNat < m := by
        have h1 := Int.fmod_lt_of_pos a (show 0 < b by omega)
        have h2 := Int.fmod_nonneg_of_pos a (show 0 < b by omega)
        omega
      obtain ⟨g, h1, h2⟩ := common_loop c L bx m b (Int.fmod a b) (Int.fmod_nonneg_of_pos a (by omega)) hm
      refine ⟨g, whl_t (s1 := ⟨[some (.int a), some (.int b)], bx⟩) (by simp [cmC, hb]) (by simp [cmB, hb]) h1, ?_⟩
      rw [h2, Int.fmod_eq_emod_of_nonneg _ h0, Int.gcd_comm b]
      have e : Int.gcd (a % b + b * (a / b)) b = Int.gcd (a % b) b := Int.gcd_add_mul_left_left _ _ _
      rw [Int.emod_add_mul_ediv] at e
      exact e.symm
theorem common_run (c : Env) (L : Nat) (a b : Int) (bx : List (List D)) (h0 : 0 ≤ b) (h : b.toNat < L) : runF c L ⟨2, 2, irCommon⟩ [.int a, .int b] bx = .ok (.int (Int.gcd a b)) bx := by
  obtain ⟨g, h1, h2⟩ := common_loop c L bx L a b h0 h
  have h3 : (if g < 0 then -g else g) = ((Int.gcd a b : Nat) : Int) := by
    rw [← h2]; split <;> omega
  refine runF_rt (s := ⟨[some (.int g), some (.int 0)], bx⟩) rfl ?_
  simp [irCommon, startL, h1, h3]
/-- a share by its worth -/
def sh (q : Rat) : D := .tup [.int q.num, .int q.den]
theorem sh_norm (t : Int) (b : Nat) (h : b ≠ 0) : D.tup [.int (t / ((Int.gcd t b : Nat) : Int)), .int ((b : Int) / ((Int.gcd t b : Nat) : Int))] = sh (Rat.normalize t b h) := by
  unfold sh
  rw [Rat.normalize_eq]
  simp [Int.gcd]
theorem divOk_of {j : Int} (h0 : j ≠ 0) (h : j.natAbs < 2 ^ 9000) : divOk j = true := decide_eq_true ⟨h0, (Nat.log2_lt (by omega)).mpr h⟩
def irShare (k : Nat) : St := (.seq (.asv 2 (.call k (.cons (.var 0) (.cons (.var 1) .nil)))) (.seq (.asv 2 (.ite (.tru (.cmp .gt (.var 1) (.cst (.int 0)))) (.var 2) (.bin .sub (.cst (.int 0)) (.var 2)))) (.seq (.ret (.tup (.cons (.bin .fdiv (.var 0) (.var 2)) (.cons (.bin .fdiv (.var 1) (.var 2)) .nil)))) .nil)))
theorem share_run (c : Env) (L k : Nat) (t : Int) (b : Nat) (bx : List (List D)) (h0 : b ≠ 0) (hb : b < 2 ^ 9000) (hc : c.call k [.int t, .int b] bx = .ok (.int (Int.gcd t b)) bx) :
    runF c L ⟨2, 3, irShare k⟩ [.int t, .int b] bx = .ok (sh (Rat.normalize t b h0)) bx := by
  have g0 : 0 < Int.gcd t b := Int.gcd_pos_iff.mpr (.inr (by omega))
  have gb : Int.gcd t b ≤ b := Nat.le_of_dvd (by omega) (by have := Int.gcd_dvd_natAbs_right t b; simpa using this)
  have hd : divOk ((Int.gcd t b : Nat) : Int) = true := divOk_of (by omega) (by omega)
  have hp : 0 < b := by omega
  refine runF_rt (s := ⟨[some (.int t), some (.int b), some (.int (Int.gcd t b))], bx⟩) rfl ?_
  rw [← sh_norm]
  simp [irShare, startL, callR_ok hc, hp, hd]
  rw [Int.fdiv_eq_ediv_of_nonneg _ (by omega), Int.fdiv_eq_ediv_of_nonneg _ (by omega)]
  exact ⟨rfl, rfl⟩
end Q
end

section
set_option maxRecDepth 100000
set_option maxHeartbeats 4000000
/-! QMath2: shares with a bottom of either sign. -/
namespace Q
open PySem L2
theorem fmod_small (a : Int) {b : Int} (hb : b ≠ 0) : (Int.fmod a b).natAbs < b.natAbs := by
  rcases Int.lt_or_gt_of_ne hb with h | h
  · have h1 := Int.fmod_lt_of_pos (-a) (show 0 < -b by omega)
    have h2 := Int.fmod_nonneg_of_pos (-a) (show 0 < -b by omega)
    rw [Int.neg_fmod_neg] at h1 h2
    omega
  · have h1 := Int.fmod_lt_of_pos a h
    have h2 := Int.fmod_nonneg_of_pos a h
    omega
theorem gcd_fmod (a b : Int) : Int.gcd b (Int.fmod a b) = Int.gcd a b := by
  rw [Int.gcd_comm b]
  have e : Int.gcd (Int.fmod a b + b * (Int.fdiv a b)) b = Int.gcd (Int.fmod a b) b := Int.gcd_add_mul_left_left _ _ _
  rw [Int.fmod_add_mul_fdiv] at e
  exact e.symm
theorem common_loop2 (c : Env) (L : Nat) (bx : List (List D)) : ∀ (m : Nat) (a b : Int), b.natAbs < m → ∃ g : Int, whlL (evT c cmC) (evS c L cmB) m ⟨[some (.int a), some (.int b)], bx⟩ = .ok .nx ⟨[some (.int g), some (.int 0)], bx⟩ ∧ g.natAbs = Int.gcd a b
  | 0, a, b, h => by omega
  | m + 1, a, b, h => by
    by_cases hb : b = 0
    · subst hb
      exact ⟨a, whl_f (by simp [cmC]), by simp⟩
    · have hm : (Int.fmod a b).natAbs < m := by have := fmod_small a hb; omega
      obtain ⟨g, h1, h2⟩ := common_loop2 c L bx m b (Int.fmod a b) hm
      exact ⟨g, whl_t (s1 := ⟨[some (.int a), some (.int b)], bx⟩) (by simp [cmC, hb]) (by simp [cmB, hb]) h1, by rw [h2, gcd_fmod]⟩
theorem common_run2 (c : Env) (L : Nat) (a b : Int) (bx : List (List D)) (h : b.natAbs < L) : runF c L ⟨2, 2, irCommon⟩ [.int a, .int b] bx = .ok (.int (Int.gcd a b)) bx := by
  obtain ⟨g, h1, h2⟩ := common_loop2 c L bx L a b h
  have h3 : (if g < 0 then -g else g) = ((Int.gcd a b : Nat) : Int) := by
    rw [← h2]; split <;> omega
  refine runF_rt (s := ⟨[some (.int g), some (.int 0)], bx⟩) rfl ?_
  simp [irCommon, startL, h1, h3]
/-- a bottom below zero: the share of the two turned round -/
theorem share_neg (c : Env) (L k : Nat) (t : Int) (b : Nat) (bx : List (List D)) (h0 : b ≠ 0) (hb : b < 2 ^ 9000) (hc : c.call k [.int t, .int (-(b : Int))] bx = .ok (.int (Int.gcd t (-(b : Int)))) bx) :
    runF c L ⟨2, 3, irShare k⟩ [.int t, .int (-(b : Int))] bx = .ok (sh (Rat.normalize (-t) b h0)) bx := by
  have ge : Int.gcd t (-(b : Int)) = Int.gcd (-t) b := by rw [Int.gcd_neg, Int.neg_gcd]
  have g0 : 0 < Int.gcd (-t) b := Int.gcd_pos_iff.mpr (.inr (by omega))
  have gb : Int.gcd (-t) b ≤ b := Nat.le_of_dvd (by omega) (by have := Int.gcd_dvd_natAbs_right (-t) b; simpa using this)
  rw [ge] at hc
  have hd : divOk (-((Int.gcd (-t) b : Nat) : Int)) = true := divOk_of (by omega) (by omega)
  have hp : ¬ (0 < -(b : Int)) := by omega
  refine runF_rt (s := ⟨[some (.int t), some (.int (-(b : Int))), some (.int (-((Int.gcd (-t) b : Nat) : Int)))], bx⟩) rfl ?_
  rw [← sh_norm]
  have f1 : Int.fdiv t (-((Int.gcd (-t) b : Nat) : Int)) = (-t) / ((Int.gcd (-t) b : Nat) : Int) := by
    rw [← Int.fdiv_eq_ediv_of_nonneg _ (by omega), ← Int.neg_fdiv_neg, Int.neg_neg]
  have f2 : Int.fdiv (-(b : Int)) (-((Int.gcd (-t) b : Nat) : Int)) = (b : Int) / ((Int.gcd (-t) b : Nat) : Int) := by
    rw [Int.neg_fdiv_neg, Int.fdiv_eq_ediv_of_nonneg _ (by omega)]
  generalize Int.gcd (-t) b = G at *
  have hp2 : ¬ ((b : Int) < 0) := by omega
  simp [irShare, startL, callR_ok hc, hd, f1, f2, hp2]
end Q
end

section
set_option maxRecDepth 100000
set_option maxHeartbeats 4000000
/-! M46a: the package's defs on shares. -/
namespace Q.K26
open PySem L2 Q

section
variable {L : Nat}
/-- a call that leaves the boxes -/
def Pu (L n k : Nat) (xs : List D) (d : D) : Prop := ∀ bx, callN prg.tb prg.gb L n k xs bx = .ok d bx
abbrev cc (L n : Nat) : Env := ⟨callN prg.tb prg.gb L n, prg.gb⟩
theorem Pu.r {L n k : Nat} {xs : List D} {d : D} (h : Pu L n k xs d) (l : List (Option D)) (bx : List (List D)) : callR (cc L n) k xs ⟨l, bx⟩ = .ok d ⟨l, bx⟩ := callR_ok (h bx)
theorem Pu.run {L n k : Nat} {f : Fn} {xs : List D} {d : D} (hn : 0 < n) (ht : prg.tb k = some f) (h : ∀ m, n = m + 1 → ∀ bx, runF (cc L m) L f xs bx = .ok d bx) : Pu L n k xs d := fun bx => by
  obtain ⟨m, rfl⟩ : ∃ m, n = m + 1 := ⟨n - 1, by omega⟩
  rw [callN_eq ht]
  exact h m rfl bx
theorem Pu.mk {L n k : Nat} {f : Fn} {xs : List D} {d : D} (hn : 0 < n) (ht : prg.tb k = some f) (hl : xs.length = f.np) (h : ∀ m, n = m + 1 → ∀ bx, ∃ l, evS (cc L m) L f.body ⟨startL f xs, bx⟩ = .ok (.rt d) ⟨l, bx⟩) : Pu L n k xs d := Pu.run hn ht fun m e bx => by
  obtain ⟨l, q⟩ := h m e bx
  exact runF_rt hl q
/-- whole size of a share -/
def Sz (k : Nat) (q : Rat) : Prop := q.num.natAbs < 2 ^ k ∧ q.den < 2 ^ k
theorem Sz.mono {j k : Nat} {q : Rat} (h : Sz j q) (hk : j ≤ k) : Sz k q := ⟨Nat.lt_of_lt_of_le h.1 (Nat.pow_le_pow_right (by omega) hk), Nat.lt_of_lt_of_le h.2 (Nat.pow_le_pow_right (by omega) hk)⟩
theorem log2_le {a k : Nat} (h : a < 2 ^ k) : a.log2 ≤ k := by
  by_cases h0 : a = 0
  · subst h0; simp
  · exact Nat.le_of_lt ((Nat.log2_lt h0).mpr h)
theorem mulOk_of {i j : Int} {k m : Nat} (hi : i.natAbs < 2 ^ k) (hj : j.natAbs < 2 ^ m) (h : k + m < 1000000) : mulOk i j = true := decide_eq_true (by have := log2_le hi; have := log2_le hj; omega)
theorem norm_sz {t : Int} {b k : Nat} (h : b ≠ 0) (ht : t.natAbs < 2 ^ k) (hb : b < 2 ^ k) : Sz k (Rat.normalize t b h) := by
  rw [Rat.normalize_eq]
  refine ⟨?_, ?_⟩
  · show (t / ((t.natAbs.gcd b : Nat) : Int)).natAbs < 2 ^ k
    refine Nat.lt_of_le_of_lt (Int.natAbs_ediv_le_natAbs _ _) ht
  · exact Nat.lt_of_le_of_lt (Nat.div_le_self _ _) hb
theorem sz_mul {k m : Nat} {p q : Rat} (hp : Sz k p) (hq : Sz m q) : Sz (k + m) (p * q) := by
  rw [Rat.mul_def]
  refine norm_sz _ ?_ ?_
  · rw [Int.natAbs_mul, Nat.pow_add]; exact Nat.mul_lt_mul'' hp.1 hq.1
  · rw [Nat.pow_add]; exact Nat.mul_lt_mul'' hp.2 hq.2
theorem sz_num {k m : Nat} {a b : Int} {c d : Nat} (h1 : a.natAbs < 2 ^ k) (h2 : d < 2 ^ m) (h3 : b.natAbs < 2 ^ m) (h4 : c < 2 ^ k) : (a * d + b * c).natAbs < 2 ^ (k + m + 1) := by
  have e1 : (a * (d : Int)).natAbs < 2 ^ (k + m) := by rw [Int.natAbs_mul, Nat.pow_add]; exact Nat.mul_lt_mul'' h1 (by simpa using h2)
  have e2 : (b * (c : Int)).natAbs < 2 ^ (k + m) := by rw [Int.natAbs_mul, Nat.pow_add, Nat.mul_comm (2 ^ k)]; exact Nat.mul_lt_mul'' h3 (by simpa using h4)
  have := Int.natAbs_add_le (a * d) (b * c)
  rw [Nat.pow_succ]; omega
theorem sz_add {k m : Nat} {p q : Rat} (hp : Sz k p) (hq : Sz m q) : Sz (k + m + 1) (p + q) := by
  rw [Rat.add_def]
  refine norm_sz _ (sz_num hp.1 hq.2 hq.1 hp.2) ?_
  have : p.den * q.den < 2 ^ (k + m) := by rw [Nat.pow_add]; exact Nat.mul_lt_mul'' hp.2 hq.2
  rw [Nat.pow_succ]; omega
theorem sz_neg {k : Nat} {p : Rat} (hp : Sz k p) : Sz k (-p) := ⟨by rw [Rat.neg_num, Int.natAbs_neg]; exact hp.1, by rw [Rat.neg_den]; exact hp.2⟩
theorem sz_sub {k m : Nat} {p q : Rat} (hp : Sz k p) (hq : Sz m q) : Sz (k + m + 1) (p - q) := by
  rw [Rat.sub_eq_add_neg]; exact sz_add hp (sz_neg hq)
theorem sz_one : Sz 1 1 := by constructor <;> decide
theorem sz_zero : Sz 1 0 := by constructor <;> decide
section
variable (hL : 2 ^ 9000 ≤ L)
include hL
theorem common_ok {n : Nat} (hn : 1 ≤ n) (a : Int) (b : Nat) (hb : b < 2 ^ 9000) : Pu L n 3 [.int a, .int b] (.int (Int.gcd a b)) :=
  Pu.run (f := ⟨2, 2, i3⟩) hn rfl fun m e bx => common_run _ _ _ _ _ (by omega) (by simpa using Nat.lt_of_lt_of_le hb hL)
theorem share_ok {n : Nat} (hn : 2 ≤ n) (t : Int) (b : Nat) (h0 : b ≠ 0) (hb : b < 2 ^ 9000) : Pu L n 4 [.int t, .int b] (sh (Rat.normalize t b h0)) :=
  Pu.run (f := ⟨2, 3, i4⟩) (by omega) rfl fun m e bx => share_run _ _ _ _ _ _ h0 hb (common_ok hL (by omega) t b hb bx)
theorem times_ok {n k m : Nat} (hn : 3 ≤ n) {p q : Rat} (hp : Sz k p) (hq : Sz m q) (h : k + m ≤ 9000) : Pu L n 8 [sh p, sh q] (sh (p * q)) :=
  Pu.mk (f := ⟨2, 2, i8⟩) (by omega) rfl rfl fun j e bx => by
    have hb : p.den * q.den < 2 ^ 9000 := Nat.lt_of_lt_of_le (by rw [Nat.pow_add]; exact Nat.mul_lt_mul'' hp.2 hq.2 : p.den * q.den < 2 ^ (k + m)) (Nat.pow_le_pow_right (by omega) h)
    have h0 : p.den * q.den ≠ 0 := Nat.mul_ne_zero p.den_nz q.den_nz
    have m1 := mulOk_of (i := p.num) (j := q.num) hp.1 hq.1 (by omega)
    have m2 := mulOk_of (i := (p.den : Int)) (j := (q.den : Int)) (k := k) (m := m) (by simpa using hp.2) (by simpa using hq.2) (by omega)
    refine ⟨[some (sh p), some (sh q)], ?_⟩
    have hc := (share_ok hL (n := j) (by omega) (p.num * q.num) (p.den * q.den) h0 hb).r [some (sh p), some (sh q)] bx
    rw [Rat.mul_def]
    rw [Int.natCast_mul] at hc
    simp [i8, startL, sh, atI, ixN, m1, m2] at hc ⊢
    rw [hc]; rfl
theorem plus_ok {n k m : Nat} (hn : 3 ≤ n) {p q : Rat} (hp : Sz k p) (hq : Sz m q) (h : k + m ≤ 8000) : Pu L n 6 [sh p, sh q] (sh (p + q)) :=
  Pu.mk (f := ⟨2, 2, i6⟩) (by omega) rfl rfl fun j e bx => by
    have hb : p.den * q.den < 2 ^ 9000 := Nat.lt_of_lt_of_le (by rw [Nat.pow_add]; exact Nat.mul_lt_mul'' hp.2 hq.2 : p.den * q.den < 2 ^ (k + m)) (Nat.pow_le_pow_right (by omega) (by omega))
    have h0 : p.den * q.den ≠ 0 := Nat.mul_ne_zero p.den_nz q.den_nz
    have m1 := mulOk_of (i := p.num) (j := (q.den : Int)) hp.1 (m := m) (by simpa using hq.2) (by omega)
    have m3 := mulOk_of (i := q.num) (j := (p.den : Int)) hq.1 (m := k) (by simpa using hp.2) (by omega)
    have m2 := mulOk_of (i := (p.den : Int)) (j := (q.den : Int)) (k := k) (m := m) (by simpa using hp.2) (by simpa using hq.2) (by omega)
    refine ⟨[some (sh p), some (sh q)], ?_⟩
    have hc := (share_ok hL (n := j) (by omega) (p.num * q.den + q.num * p.den) (p.den * q.den) h0 hb).r [some (sh p), some (sh q)] bx
    rw [Rat.add_def]
    rw [Int.natCast_mul] at hc
    simp [i6, startL, sh, atI, ixN, m1, m2, m3] at hc ⊢
    rw [hc]; rfl
theorem minus_ok {n k m : Nat} (hn : 3 ≤ n) {p q : Rat} (hp : Sz k p) (hq : Sz m q) (h : k + m ≤ 8000) : Pu L n 7 [sh p, sh q] (sh (p - q)) :=
  Pu.mk (f := ⟨2, 2, i7⟩) (by omega) rfl rfl fun j e bx => by
    have hb : p.den * q.den < 2 ^ 9000 := Nat.lt_of_lt_of_le (by rw [Nat.pow_add]; exact Nat.mul_lt_mul'' hp.2 hq.2 : p.den * q.den < 2 ^ (k + m)) (Nat.pow_le_pow_right (by omega) (by omega))
    have h0 : p.den * q.den ≠ 0 := Nat.mul_ne_zero p.den_nz q.den_nz
    have m1 := mulOk_of (i := p.num) (j := (q.den : Int)) hp.1 (m := m) (by simpa using hq.2) (by omega)
    have m3 := mulOk_of (i := q.num) (j := (p.den : Int)) hq.1 (m := k) (by simpa using hp.2) (by omega)
    have m2 := mulOk_of (i := (p.den : Int)) (j := (q.den : Int)) (k := k) (m := m) (by simpa using hp.2) (by simpa using hq.2) (by omega)
    refine ⟨[some (sh p), some (sh q)], ?_⟩
    have hc := (share_ok hL (n := j) (by omega) (p.num * q.den - q.num * p.den) (p.den * q.den) h0 hb).r [some (sh p), some (sh q)] bx
    rw [Rat.sub_def]
    rw [Int.natCast_mul] at hc
    simp [i7, startL, sh, atI, ixN, m1, m2, m3] at hc ⊢
    rw [hc]; rfl
/-! ### looks at values -/
omit hL
def isIntD : D → Bool
  | .int _ => true
  | _ => false
def isSzD (lo hi : Int) : D → Bool
  | .tup xs => decide (lo ≤ xs.length) && decide ((xs.length : Int) ≤ hi)
  | _ => false
/-- a value as one meets it -/
def okD (d : D) : Bool := !d.isOwn && isTyOk d
theorem isInt_ok {n : Nat} (hn : 1 ≤ n) {d : D} (h : okD d = true) : Pu L n 0 [d] (.bl (isIntD d)) :=
  Pu.mk (f := ⟨1, 1, i0⟩) (by omega) rfl rfl fun j e bx => by
    refine ⟨[some d], ?_⟩
    cases d <;> first | (cases h; done) | simp [i0, startL, isTyOk, isTy, isIntD]
theorem isWithin_ok {n : Nat} (hn : 2 ≤ n) {d : D} (h : okD d = true) (lo hi : Int) : Pu L n 1 [d, .int lo, .int hi] (.bl (match d with | .int i => decide (lo ≤ i) && decide (i ≤ hi) | _ => false)) :=
  Pu.mk (f := ⟨3, 3, i1⟩) (by omega) rfl rfl fun j e bx => by
    refine ⟨[some d, some (.int lo), some (.int hi)], ?_⟩
    have hc := (isInt_ok (L := L) (n := j) (by omega) h).r [some d, some (.int lo), some (.int hi)] bx
    cases d <;> first | (cases h; done) | skip
    all_goals simp [i1, startL, hc, isIntD]
    rename_i i
    by_cases c : lo ≤ i <;> simp [c]
theorem isSized_ok {n : Nat} (hn : 1 ≤ n) {d : D} (h : okD d = true) (lo hi : Int) : Pu L n 2 [d, .int lo, .int hi] (.bl (isSzD lo hi d)) :=
  Pu.mk (f := ⟨3, 3, i2⟩) (by omega) rfl rfl fun j e bx => by
    refine ⟨[some d, some (.int lo), some (.int hi)], ?_⟩
    cases d <;> first | (cases h; done) | skip
    all_goals simp [i2, startL, isTyOk, isTy, isSzD]
    rename_i i
    by_cases c : lo ≤ i.length <;> simp [c]
end
end
end Q.K26
end

section
set_option maxRecDepth 100000
set_option maxHeartbeats 4000000
set_option exponentiation.threshold 10
/-! M46b: looks at values; layers and sheets. -/
namespace Q.K26
open PySem L2 Q

mutual
/-- any value as one meets it, its numbers of some thousand figures at most -/
def Gd : D → Prop
  | .int i => i.natAbs < 2 ^ 9000
  | .tup xs => Gds xs
  | .lst xs => Gds xs
  | .own _ => False
  | .odc _ => False
  | .fn _ => False
  | _ => True
def Gds : List D → Prop
  | [] => True
  | x :: xs => Gd x ∧ Gds xs
end
theorem Gd.ok {d : D} (h : Gd d) : okD d = true := by
  cases d <;> first | rfl | (unfold Gd at h; exact h.elim)
theorem Gds.mem : ∀ {xs : List D} {d : D}, Gds xs → d ∈ xs → Gd d
  | x :: xs, d, h, hd => by
    unfold Gds at h
    rcases List.mem_cons.mp hd with rfl | hd
    · exact h.1
    · exact Gds.mem h.2 hd
theorem Gds.of : ∀ {xs : List D}, (∀ d, d ∈ xs → Gd d) → Gds xs
  | [], _ => by unfold Gds; trivial
  | x :: xs, h => by
    unfold Gds
    exact ⟨h x List.mem_cons_self, Gds.of fun d hd => h d (List.mem_cons_of_mem _ hd)⟩
def isShareD : D → Bool
  | .tup [.int a, .int b] => decide (0 < b) && decide (Int.gcd a b = 1)
  | _ => false
section
variable {L : Nat} (hL : 2 ^ 9000 ≤ L)
theorem allInt_lc (j : Nat) (hj : 1 ≤ j) (xs : List D) (h : Gds xs) (hl : xs.length ≤ LINE) (bx : List (List D)) :
    evE (cc L j) (.lc (.call 0 (.cons (.var 1) .nil)) (.var 1) (.its (.var 0)) .nil [1]) ⟨[some (.tup xs), none], bx⟩ = .ok (.own (xs.map fun d => .bl (isIntD d))) ⟨[some (.tup xs), none], bx⟩ :=
  lc_map (ds := xs) (by simp) hl (by simp [S.frzs, S.frz]) fun d hd => by
    have hc := (isInt_ok (L := L) (n := j) hj (Gd.ok (h.mem hd)))
    have ho : d.isOwn = false := by have := Gd.ok (h.mem hd); unfold okD at this; simp at this; exact this.1
    have hf : d.frz = d := frz_of ho
    refine ⟨[some (.tup xs), some d], [some (.tup xs), some d], .bl (isIntD d), ?_, ?_, rfl, ?_⟩
    · simp [asgT, wipeL]
    · simp [gv_d _ _ _ ho, hf, hc.r]
    · simp [wipeL]
include hL
theorem isShare_ok {n : Nat} (hn : 2 ≤ n) {d : D} (h : Gd d) : Pu L n 5 [d] (.bl (isShareD d)) :=
  Pu.mk (f := ⟨1, 2, i5⟩) (by omega) rfl rfl fun j e bx => by
    have hs := (isSized_ok (L := L) (n := j) (by omega) h.ok 2 2)
    refine ⟨[some d, none], ?_⟩
    have ho : d.isOwn = false := by have := Gd.ok h; unfold okD at this; simp at this; exact this.1
    have hf : d.frz = d := frz_of ho
    by_cases hz : isSzD 2 2 d = true
    · obtain ⟨x, y, rfl⟩ : ∃ x y, d = .tup [x, y] := by
        cases d <;> first | (cases hz; done) | skip
        rename_i xs
        simp [isSzD] at hz
        match xs, hz with
        | [x, y], _ => exact ⟨x, y, rfl⟩
        | [], hz => simp at hz
        | [x], hz => simp at hz
        | _ :: _ :: _ :: _, hz => simp at hz; omega
      have hg : Gds [x, y] := by unfold Gd at h; exact h
      have hlc := allInt_lc (L := L) j (by omega) [x, y] hg (by show 2 ≤ LINE; decide) bx
      simp only [List.map_cons, List.map_nil] at hlc
      cases hx : isIntD x with
      | false =>
        have e2 : isShareD (.tup [x, y]) = false := by cases x <;> first | (cases hx; done) | rfl
        simp [i5, startL, hs.r, hz, hlc, hx, e2]
      | true =>
        cases hy : isIntD y with
        | false =>
          have e2 : isShareD (.tup [x, y]) = false := by cases x <;> cases y <;> first | (cases hy; done) | rfl
          simp [i5, startL, hs.r, hz, hlc, hx, hy, e2]
        | true =>
          cases x <;> first | (cases hx; done) | skip
          cases y <;> first | (cases hy; done) | skip
          rename_i a b
          unfold Gds Gds Gd at hg
          by_cases hb0 : 0 < b
          · obtain ⟨b', rfl⟩ : ∃ b' : Nat, b = b' := ⟨b.toNat, by omega⟩
            have hcm := common_ok hL (n := j) (by omega) a b' (by have := hg.2.1; simpa using this)
            have hb1 : 0 < b' := by omega
            simp [i5, startL, hs.r, hz, hlc, hx, hy, atI, ixN, hb1, hcm.r, isShareD]
            by_cases c1 : a.gcd b' = 1
            · simp [c1]
            · have c2 : ¬ ((a.gcd b' : Nat) : Int) = 1 := by omega
              simp [c1, c2]
          · simp [i5, startL, hs.r, hz, hlc, hx, hy, atI, ixN, hb0, isShareD]
    · have hz' : isSzD 2 2 d = false := by simpa using hz
      have e2 : isShareD d = false := by
        cases hd : isShareD d with
        | false => rfl
        | true =>
          exfalso
          unfold isShareD at hd
          split at hd
          · exact hz rfl
          · cases hd
      simp [i5, startL, gv_d _ _ _ ho, hf, hs.r, hz', e2]
def isIn1D : D → Bool
  | .tup [.int a, .int b] => isShareD (.tup [.int a, .int b]) && (decide (0 ≤ a) && decide (a ≤ b))
  | _ => false
omit hL in
theorem shareD_inv {d : D} (h : isShareD d = true) : ∃ a b, d = .tup [.int a, .int b] ∧ 0 < b ∧ Int.gcd a b = 1 := by
  unfold isShareD at h
  split at h
  · rename_i a b
    simp at h
    exact ⟨a, b, rfl, h.1, h.2⟩
  · cases h
omit hL
/-- a colour: shares in a row -/
def shs (cs : List Rat) : D := .tup (cs.map sh)
def addR (w : Rat) (cs ds : List Rat) : List Rat := (cs.zip ds).map fun p => p.1 + w * p.2
def Szs (k : Nat) (cs : List Rat) : Prop := ∀ q, q ∈ cs → Sz k q
theorem szs_add {k m j : Nat} {w : Rat} {cs ds : List Rat} (hc : Szs k cs) (hd : Szs m ds) (hw : Sz j w) : Szs (k + (j + m) + 1) (addR w cs ds) := fun q hq => by
  unfold addR at hq
  obtain ⟨p, hp, rfl⟩ := List.mem_map.mp hq
  exact sz_add (hc _ (List.of_mem_zip hp).1) (sz_mul hw (hd _ (List.of_mem_zip hp).2))
@[simp] theorem sh_frz (q : Rat) : (sh q).frz = sh q := rfl
@[simp] theorem sh_own (q : Rat) : (sh q).isOwn = false := rfl
@[simp] theorem gv_sh (l : List (Option D)) (b : List (List D)) (i : Nat) (q : Rat) : gv (some (some (sh q))) l b i = .ok (sh q) ⟨l, b⟩ := rfl
@[simp] theorem shs_frz (q : List Rat) : (shs q).frz = shs q := rfl
@[simp] theorem shs_own (q : List Rat) : (shs q).isOwn = false := rfl
@[simp] theorem gv_shs (l : List (Option D)) (b : List (List D)) (i : Nat) (q : List Rat) : gv (some (some (shs q))) l b i = .ok (shs q) ⟨l, b⟩ := rfl
include hL
end
end Q.K26
end

section
set_option maxRecDepth 100000
set_option maxHeartbeats 4000000
set_option exponentiation.threshold 10
/-! M46c: fragments, layers. -/
namespace Q.K26
open PySem L2 Q

structure Frg where
  dep : Rat
  num : Int
  r : Rat
  g : Rat
  b : Rat
  op : Rat
def Frg.col (f : Frg) : List Rat := [f.r, f.g, f.b]
def fr (f : Frg) : D := .tup [sh f.dep, .int f.num, .tup [sh f.r, sh f.g, sh f.b, sh f.op]]
def frs (fs : List Frg) : D := .tup (fs.map fr)
/-- from 0 to 1 -/
def In1 (q : Rat) : Prop := 0 ≤ q ∧ q ≤ 1
structure Fv (f : Frg) : Prop where
  dep : 0 < f.dep
  n0 : 0 ≤ f.num
  n7 : f.num ≤ 7
  r : In1 f.r
  g : In1 f.g
  b : In1 f.b
  op : In1 f.op
  sd : Sz 10 f.dep
  sr : Sz 10 f.r
  sg : Sz 10 f.g
  sb : Sz 10 f.b
  so : Sz 10 f.op
theorem Fv.scol {f : Frg} (h : Fv f) : Szs 10 f.col := fun q hq => by
  unfold Frg.col at hq
  simp at hq
  rcases hq with rfl | rfl | rfl
  · exact h.sr
  · exact h.sg
  · exact h.sb
def stepR (s : List Rat × Rat) (f : Frg) : List Rat × Rat := (addR (s.2 * f.op) s.1 f.col, s.2 * (1 - f.op))
def rawR (fs : List Frg) : List Rat × Rat := fs.foldl stepR ([0, 0, 0], 1)
theorem rawR_snoc (fs : List Frg) (f : Frg) : rawR (fs ++ [f]) = stepR (rawR fs) f := by unfold rawR; rw [List.foldl_append]; rfl
theorem rawR_len (fs : List Frg) : (rawR fs).1.length = 3 := by
  unfold rawR
  have : ∀ (fs : List Frg) (s : List Rat × Rat), s.1.length = 3 → (fs.foldl stepR s).1.length = 3 := fun fs => by
    induction fs with
    | nil => exact fun s h => h
    | cons f fs ih =>
      intro s h
      refine ih _ ?_
      simp [stepR, addR, Frg.col, h]
  exact this fs _ rfl
theorem rawR_sz : ∀ (n : Nat) (fs : List Frg), fs.length = n → n ≤ 5 → (∀ f, f ∈ fs → Fv f) → Szs (1 + 82 * n) (rawR fs).1 ∧ Sz (1 + 12 * n) (rawR fs).2
  | 0, fs, hn, _, _ => by
    have : fs = [] := List.length_eq_zero_iff.mp hn
    subst this
    refine ⟨fun q hq => ?_, sz_one⟩
    simp [rawR] at hq
    subst hq
    exact sz_zero
  | n + 1, fs, hn, h5, hv => by
    have hne : fs ≠ [] := fun e => by subst e; simp at hn
    have e := (List.dropLast_concat_getLast hne).symm
    have hl : fs.dropLast.length = n := by rw [List.length_dropLast]; omega
    obtain ⟨h1, h2⟩ := rawR_sz n fs.dropLast hl (by omega) fun f hf => hv f ((List.dropLast_sublist fs).subset hf)
    have fv := hv _ (List.getLast_mem hne)
    rw [e, rawR_snoc]
    refine ⟨fun q hq => ?_, ?_⟩
    · exact (szs_add h1 fv.scol (sz_mul h2 fv.so) q hq).mono (by omega)
    · exact (sz_mul h2 (sz_sub sz_one fv.so)).mono (by omega)
@[simp] theorem gb_one : prg.gb 1 = some (sh 1) := rfl
def pr (s : List Rat × Rat) : D := .tup [shs s.1, sh s.2]
section
variable {L : Nat} (hL : 2 ^ 9000 ≤ L)
include hL
omit hL
theorem sh_share (q : Rat) : isShareD (sh q) = true := by
  have h1 : (0 : Int) < q.den := by have := q.den_pos; omega
  have h2 : Int.gcd q.num q.den = 1 := by
    have := q.reduced
    unfold Nat.Coprime at this
    simpa [Int.gcd] using this
  show (decide (0 < (q.den : Int)) && decide (Int.gcd q.num q.den = 1)) = true
  simp [h2]
  exact q.den_pos
theorem sh_in1 {q : Rat} (h : In1 q) : isIn1D (sh q) = true := by
  have h1 : 0 ≤ q.num := Rat.num_nonneg.mpr h.1
  have h2 : q.num ≤ q.den := by
    have := (Rat.le_iff q 1).mp h.2
    simpa using this
  show (isShareD (sh q) && (decide (0 ≤ q.num) && decide (q.num ≤ (q.den : Int)))) = true
  rw [sh_share]
  simp [h1, h2]
theorem sh_gd {k : Nat} {q : Rat} (h : Sz k q) (hk : k ≤ 9000) : Gd (sh q) := by
  have := h.mono hk
  unfold sh
  unfold Gd Gds Gds Gd Gds
  exact ⟨this.1, by simpa using this.2, trivial⟩
def nnD : D → Bool
  | .tup [.int a, .int b] => isShareD (.tup [.int a, .int b]) && decide (0 ≤ a)
  | _ => false
def allNn : D → Bool
  | .tup xs => xs.all nnD
  | _ => false
def isSheetD : D → Bool
  | .tup [c, w] => isIn1D w && (isSzD 3 3 c && allNn c)
  | _ => false
theorem sized2 {d : D} (hz : isSzD 2 2 d = true) : ∃ x y, d = .tup [x, y] := by
  cases d <;> first | (cases hz; done) | skip
  rename_i xs
  simp [isSzD] at hz
  match xs, hz with
  | [x, y], _ => exact ⟨x, y, rfl⟩
  | [], hz => simp at hz
  | [x], hz => simp at hz
  | _ :: _ :: _ :: _, hz => simp at hz; omega
theorem gd_own {d : D} (h : Gd d) : d.isOwn = false := by have := h.ok; unfold okD at this; simp at this; exact this.1
theorem gd_tup {xs : List D} (h : Gd (.tup xs)) : Gds xs := by unfold Gd at h; exact h
include hL
omit hL
/-- a sheet -/
structure Sv (s : List Rat × Rat) : Prop where
  l3 : s.1.length = 3
  nn : ∀ q, q ∈ s.1 → 0 ≤ q
  w : In1 s.2
  sc : Szs 1000 s.1
  sw : Sz 1000 s.2
theorem shs_gd {k : Nat} {cs : List Rat} (h : Szs k cs) (hk : k ≤ 9000) : Gd (shs cs) := by
  unfold shs
  unfold Gd
  refine Gds.of fun d hd => ?_
  obtain ⟨q, hq, rfl⟩ := List.mem_map.mp hd
  exact sh_gd (h q hq) hk
theorem Sv.gd {s : List Rat × Rat} (h : Sv s) : Gd (pr s) := by
  unfold pr
  unfold Gd Gds Gds Gds
  exact ⟨shs_gd h.sc (by omega), sh_gd h.sw (by omega), trivial⟩
theorem sh_nn {q : Rat} (h : 0 ≤ q) : nnD (sh q) = true := by
  have h1 : 0 ≤ q.num := Rat.num_nonneg.mpr h
  show (isShareD (sh q) && decide (0 ≤ q.num)) = true
  rw [sh_share]; simp [h1]
theorem Sv.is {s : List Rat × Rat} (h : Sv s) : isSheetD (pr s) = true := by
  have h2 : isSzD 3 3 (shs s.1) = true := by
    show (decide ((3 : Int) ≤ ((s.1.map sh).length : Nat)) && decide (((s.1.map sh).length : Int) ≤ 3)) = true
    rw [List.length_map, h.l3]; rfl
  have h3 : allNn (shs s.1) = true := by
    show (s.1.map sh).all nnD = true
    rw [List.all_eq_true]
    intro d hd
    obtain ⟨q, hq, rfl⟩ := List.mem_map.mp hd
    exact sh_nn (h.nn q hq)
  show (isIn1D (sh s.2) && (isSzD 3 3 (shs s.1) && allNn (shs s.1))) = true
  rw [sh_in1 h.w, h2, h3]; rfl
def layR (s t : List Rat × Rat) : List Rat × Rat := (addR s.2 s.1 t.1, s.2 * t.2)
@[simp] theorem gv_pr (l : List (Option D)) (b : List (List D)) (i : Nat) (q : List Rat × Rat) : gv (some (some (pr q))) l b i = .ok (pr q) ⟨l, b⟩ := rfl
@[simp] theorem pr_frz (q : List Rat × Rat) : (pr q).frz = pr q := rfl
@[simp] theorem ctD_pr (bx : List (List D)) (q : List Rat × Rat) : ctD bx (pr q) = some (pr q) := rfl
@[simp] theorem ix_pr0 (q : List Rat × Rat) : ixD (pr q) (.int 0) = some (shs q.1) := rfl
@[simp] theorem ix_pr1 (q : List Rat × Rat) : ixD (pr q) (.int 1) = some (sh q.2) := rfl
include hL
/-- a ground -/
structure Gv (g : List Rat) : Prop where
  l3 : g.length = 3
  i1 : ∀ q, q ∈ g → In1 q
  sz : Szs 20 g
end
end Q.K26
end

section
set_option maxRecDepth 100000
set_option maxHeartbeats 4000000
set_option exponentiation.threshold 10
/-! M46d: layers judged. -/
namespace Q.K26
open PySem L2 Q

theorem cut_dl (xs : List D) : cutD xs none (some (-1)) = xs.dropLast := by
  unfold cutD
  have h1 : HT.sIx xs.length 0 none = 0 := rfl
  have h2 : HT.sIx xs.length xs.length (some (-1)) = xs.length - 1 := by
    simp [HT.sIx]; omega
  rw [h1, h2, List.drop_zero, Nat.sub_zero, List.dropLast_eq_take]
theorem cut_d1 (xs : List D) : cutD xs (some 1) none = xs.drop 1 := by
  unfold cutD
  have h1 : HT.sIx xs.length 0 (some 1) = min 1 xs.length := by
    simp [HT.sIx]
  have h2 : HT.sIx xs.length xs.length none = xs.length := rfl
  rw [h1, h2]
  cases xs with
  | nil => rfl
  | cons x xs => simp
theorem eqD_sh (p q : Rat) : eqD (sh p) (sh q) = decide (p = q) := by
  show (p.num == q.num && ((p.den : Int) == (q.den : Int) && true)) = _
  by_cases h : p = q
  · subst h; simp
  · have : ¬ (p.num = q.num ∧ p.den = q.den) := fun e => h (Rat.ext e.1 e.2)
    simp [h]
    intro e1 e2
    exact this ⟨e1, by omega⟩
@[simp] theorem shN_sh (q : Rat) : shN 60 (sh q) = true := rfl
@[simp] theorem gv_fr (l : List (Option D)) (b : List (List D)) (i : Nat) (q : Frg) : gv (some (some (fr q))) l b i = .ok (fr q) ⟨l, b⟩ := rfl
@[simp] theorem fr_frz (q : Frg) : (fr q).frz = fr q := rfl
@[simp] theorem fr_own (q : Frg) : (fr q).isOwn = false := rfl
@[simp] theorem ctD_fr (bx : List (List D)) (q : Frg) : ctD bx (fr q) = some (fr q) := rfl
@[simp] theorem ix_fr0 (q : Frg) : ixD (fr q) (.int 0) = some (sh q.dep) := rfl
@[simp] theorem ix_fr1 (q : Frg) : ixD (fr q) (.int 1) = some (.int q.num) := rfl
def col4 (f : Frg) : D := .tup [sh f.r, sh f.g, sh f.b, sh f.op]
@[simp] theorem ix_fr2 (q : Frg) : ixD (fr q) (.int 2) = some (col4 q) := rfl
@[simp] theorem ix_c3 (q : Frg) : ixD (col4 q) (.int 3) = some (sh q.op) := rfl
@[simp] theorem c4_frz (q : Frg) : (col4 q).frz = col4 q := rfl
@[simp] theorem c4_items (q : Frg) : (col4 q).items = some ([q.r, q.g, q.b, q.op].map sh) := rfl
@[simp] theorem frs_frz (q : List Frg) : (frs q).frz = frs q := rfl
@[simp] theorem frs_items (q : List Frg) : (frs q).items = some (q.map fr) := rfl
@[simp] theorem gv_frs (l : List (Option D)) (b : List (List D)) (i : Nat) (q : List Frg) : gv (some (some (frs q))) l b i = .ok (frs q) ⟨l, b⟩ := rfl
@[simp] theorem ctD_frs (bx : List (List D)) (q : List Frg) : ctD bx (frs q) = some (frs q) := rfl
@[simp] theorem sl_frs_dl (q : List Frg) : slD (frs q) none (some (-1)) = some (frs q.dropLast) := by
  show some (D.tup (cutD (q.map fr) none (some (-1)))) = _
  rw [cut_dl, ← List.map_dropLast]; rfl
@[simp] theorem sl_frs_d1 (q : List Frg) : slD (frs q) (some 1) none = some (frs q.tail) := by
  show some (D.tup (cutD (q.map fr) (some 1) none)) = _
  rw [cut_d1, ← List.map_drop, List.drop_one]; rfl
@[simp] theorem ty_frs (q : List Frg) : isTy (frs q) .tuple = true := rfl
@[simp] theorem tyok_frs (q : List Frg) : isTyOk (frs q) = true := rfl
theorem fr_gd {f : Frg} (h : Fv f) : Gd (fr f) := by
  unfold fr
  unfold Gd Gds Gds Gds Gds
  refine ⟨sh_gd h.sd (by omega), ?_, ?_, trivial⟩
  · unfold Gd
    have : f.num.natAbs < 2 ^ 10 := by have := h.n0; have := h.n7; omega
    exact Nat.lt_of_lt_of_le this (Nat.pow_le_pow_right (by omega) (by omega))
  · show Gd (col4 f)
    unfold col4
    unfold Gd Gds Gds Gds Gds Gds
    exact ⟨sh_gd h.sr (by omega), sh_gd h.sg (by omega), sh_gd h.sb (by omega), sh_gd h.so (by omega), trivial⟩
def isAhd (f g : Frg) : Bool := decide (f.dep < g.dep) || (decide (f.dep = g.dep) && decide (f.num < g.num))
structure Lay (fs : List Frg) : Prop where
  l5 : fs.length ≤ 5
  v : ∀ f, f ∈ fs → Fv f
  nf : ∀ f, f ∈ fs.dropLast → f.op ≠ 1
  ah : ∀ p, p ∈ fs.zip fs.tail → isAhd p.1 p.2 = true
section
variable {L : Nat} (hL : 2 ^ 9000 ≤ L)
include hL
end
end Q.K26
end

section
set_option maxRecDepth 100000
set_option maxHeartbeats 4000000
set_option exponentiation.threshold 70
/-! M46e: the hand. -/
namespace Q.K26
open PySem L2 Q

def hb (cs : List D) (a h2 h3 h4 : Int) : List (List D) := [[.lst cs, .int a, .int h2, .int h3, .int h4]]
/-- the hand, after at most m draws by its count -/
def Hd (m : Nat) (bx : List (List D)) : Prop := ∃ (cells : List Int) (a h2 h3 h4 : Int), bx = hb (cells.map .int) a h2 h3 h4 ∧ (∀ c, c ∈ cells → 0 ≤ c) ∧ 0 ≤ a ∧ a ≤ cells.length ∧ 0 ≤ h2 ∧ 0 ≤ h3 ∧ h3 < 2 ^ 31 ∧ 0 ≤ h4 ∧ h4 ≤ m
theorem fm {a b : Int} (h : 0 < b) : 0 ≤ a.fmod b ∧ a.fmod b < b := ⟨Int.fmod_nonneg_of_pos a h, Int.fmod_lt_of_pos a h⟩
theorem ok_mul {i j : Int} (hi : i.natAbs < 2 ^ 64) (hj : j.natAbs < 2 ^ 64) : mulOk i j = true := mulOk_of hi hj (by omega)
theorem ok_div {j : Int} (h0 : 0 < j) (h : j < 2 ^ 64) : divOk j = true := divOk_of (by omega) (Nat.lt_of_lt_of_le (show j.natAbs < 2 ^ 64 by omega) (Nat.pow_le_pow_right (by omega) (by omega)))
def d1 : St := (.ite (.and (.tru (.cmp .eq (.ixv 0 (.cst (.int 2))) (.cst (.int 0)))) (.tru (.cmp .lt (.ixv 0 (.cst (.int 1))) (.blt .len (.cons (.ixv 0 (.cst (.int 0))) .nil))))) (.seq (.asv 3 (.idx (.ixv 0 (.cst (.int 0))) (.ixv 0 (.cst (.int 1))))) (.seq (.set 0 (.cst (.int 1)) (.bin .add (.ixv 0 (.cst (.int 1))) (.cst (.int 1)))) (.seq (.set 0 (.cst (.int 3)) (.bin .mod (.blt .int (.cons (.bin .add (.bin .add (.bin .mul (.ixv 0 (.cst (.int 3))) (.cst (.int 48271))) (.var 3)) (.cst (.int 31))) .nil)) (.cst (.int 2147483647)))) (.seq (.ite (.tru (.cmp .ge (.var 3) (.bin .pow (.cst (.int 10)) (.cst (.int 18))))) (.seq (.set 0 (.cst (.int 2)) (.var 3)) .nil) .nil) .nil)))) .nil)
def d2 : St := (.seq (.ite (.tru (.cmp .gt (.ixv 0 (.cst (.int 2))) (.cst (.int 0)))) (.seq (.asv 4 (.bin .mod (.blt .int (.cons (.ixv 0 (.cst (.int 2))) .nil)) (.var 1))) (.seq (.set 0 (.cst (.int 2)) (.bin .fdiv (.ixv 0 (.cst (.int 2))) (.var 1))) (.seq (.ret (.var 4)) .nil))) .nil) (.seq (.set 0 (.cst (.int 4)) (.bin .add (.ixv 0 (.cst (.int 4))) (.cst (.int 1)))) (.seq (.asv 2 (.bin .mod (.blt .int (.cons (.bin .mul (.blt .int (.cons (.bin .add (.ixv 0 (.cst (.int 3))) (.bin .mul (.cst (.int 6151)) (.ixv 0 (.cst (.int 4))))) .nil)) (.cst (.int 40692))) .nil)) (.cst (.int 2147483399)))) (.seq (.asv 2 (.bin .mod (.blt .int (.cons (.bin .mul (.var 2) (.bin .add (.bin .fdiv (.var 2) (.cst (.int 1223))) (.cst (.int 52027)))) .nil)) (.cst (.int 2147483629)))) (.seq (.asv 2 (.bin .mod (.blt .int (.cons (.bin .mul (.var 2) (.bin .add (.bin .fdiv (.var 2) (.cst (.int 2671))) (.cst (.int 69621)))) .nil)) (.cst (.int 2147483647)))) (.seq (.ret (.bin .mod (.blt .int (.cons (.bin .fdiv (.var 2) (.cst (.int 32))) .nil)) (.var 1))) .nil))))))
@[simp] theorem set_hb (l : List (Option D)) (cs : List D) (a h2 h3 h4 : Int) (x : D) (r : List (Option D)) : S.setItem ⟨some (.box 0) :: r, hb cs a h2 h3 h4⟩ 0 (.int 1) x = some ⟨some (.box 0) :: r, [[.lst cs, x, .int h2, .int h3, .int h4]]⟩ := rfl
@[simp] theorem set_hb2 (cs : List D) (a h2 h3 h4 : Int) (x : D) (r : List (Option D)) : S.setItem ⟨some (.box 0) :: r, hb cs a h2 h3 h4⟩ 0 (.int 2) x = some ⟨some (.box 0) :: r, [[.lst cs, .int a, x, .int h3, .int h4]]⟩ := rfl
@[simp] theorem set_hb3 (cs : List D) (a h2 h3 h4 : Int) (x : D) (r : List (Option D)) : S.setItem ⟨some (.box 0) :: r, hb cs a h2 h3 h4⟩ 0 (.int 3) x = some ⟨some (.box 0) :: r, [[.lst cs, .int a, .int h2, x, .int h4]]⟩ := rfl
@[simp] theorem set_hb4 (cs : List D) (a h2 h3 h4 : Int) (x : D) (r : List (Option D)) : S.setItem ⟨some (.box 0) :: r, hb cs a h2 h3 h4⟩ 0 (.int 4) x = some ⟨some (.box 0) :: r, [[.lst cs, .int a, .int h2, .int h3, x]]⟩ := rfl
@[simp] theorem hb_fold (cs : List D) (a h2 h3 h4 : Int) : [[D.lst cs, .int a, .int h2, .int h3, .int h4]] = hb cs a h2 h3 h4 := rfl
@[simp] theorem hb_get (cs : List D) (a h2 h3 h4 : Int) : (hb cs a h2 h3 h4)[0]? = some [.lst cs, .int a, .int h2, .int h3, .int h4] := rfl
theorem at_nat {xs : List D} {j : Nat} (h : j < xs.length) : atI xs (j : Int) = xs[j]? := by
  have h' : (j : Int) < (xs.length : Int) := by omega
  simp [atI, ixN, h]
@[simp] theorem at0 (x : D) (r : List D) : atI (x :: r) 0 = some x := by simp [atI, ixN]
@[simp] theorem at1 (x y : D) (r : List D) : atI (x :: y :: r) 1 = some y := at_nat (j := 1) (by simp)
@[simp] theorem at2 (x y z : D) (r : List D) : atI (x :: y :: z :: r) 2 = some z := at_nat (j := 2) (by simp)
@[simp] theorem at3 (x y z w : D) (r : List D) : atI (x :: y :: z :: w :: r) 3 = some w := at_nat (j := 3) (by simp)
@[simp] theorem at4 (x y z w v : D) (r : List D) : atI (x :: y :: z :: w :: v :: r) 4 = some v := at_nat (j := 4) (by simp)
theorem at_cells {cells : List Int} {a : Int} (h0 : 0 ≤ a) (h : a < cells.length) : ∃ c, c ∈ cells ∧ atI (cells.map D.int) a = some (.int c) := by
  have hl : a.toNat < cells.length := by omega
  refine ⟨cells[a.toNat], List.getElem_mem hl, ?_⟩
  unfold atI ixN
  simp [h0, h, hl]
section
variable {c : Env} {L : Nat}
theorem draw1 {m : Nat} {bx : List (List D)} (many : Int) (h : Hd m bx) : ∃ x3 bx', evS c L d1 ⟨[some (.box 0), some (.int many), none, none, none], bx⟩ = .ok .nx ⟨[some (.box 0), some (.int many), none, x3, none], bx'⟩ ∧ Hd m bx' := by
  obtain ⟨cells, a, h2, h3, h4, rfl, hc, a0, a1, b0, g0, g1, f0, f1⟩ := h
  by_cases e1 : h2 = 0
  · subst e1
    by_cases e2 : a < cells.length
    · obtain ⟨x, hx, hat⟩ := at_cells a0 e2
      have m1 : mulOk h3 48271 = true := ok_mul (by omega) (by omega)
      have p1 : powOk 10 18 = true := by decide
      have q := fm (a := h3 * 48271 + x + 31) (b := 2147483647) (by omega)
      by_cases e3 : (1000000000000000000 : Int) ≤ x
      · refine ⟨some (.int x), hb (cells.map .int) (a + 1) x ((h3 * 48271 + x + 31).fmod 2147483647) h4, ?_, cells, a + 1, x, _, h4, rfl, hc, by omega, by omega, hc x hx, q.1, by omega, f0, f1⟩
        simp [d1, e2, hat, m1, p1, e3]
      · refine ⟨some (.int x), hb (cells.map .int) (a + 1) 0 ((h3 * 48271 + x + 31).fmod 2147483647) h4, ?_, cells, a + 1, 0, _, h4, rfl, hc, by omega, by omega, by omega, q.1, by omega, f0, f1⟩
        simp [d1, e2, hat, m1, p1, e3]
    · refine ⟨none, _, ?_, cells, a, 0, h3, h4, rfl, hc, a0, a1, b0, g0, g1, f0, f1⟩
      simp [d1, e2]
  · refine ⟨none, _, ?_, cells, a, h2, h3, h4, rfl, hc, a0, a1, b0, g0, g1, f0, f1⟩
    simp [d1, e1]
theorem draw2 {m : Nat} {bx : List (List D)} {many : Int} (hm : m < 2 ^ 40) (m0 : 0 < many) (m1 : many < 2 ^ 60) (x3 : Option D) (h : Hd m bx) : ∃ l r bx', evS c L d2 ⟨[some (.box 0), some (.int many), none, x3, none], bx⟩ = .ok (.rt (.int r)) ⟨l, bx'⟩ ∧ 0 ≤ r ∧ r < many ∧ Hd (m + 1) bx' := by
  obtain ⟨cells, a, h2, h3, h4, rfl, hc, a0, a1, b0, g0, g1, f0, f1⟩ := h
  have n0 : many ≠ 0 := by omega
  by_cases e1 : 0 < h2
  · have q := fm (a := h2) m0
    have k1 := ok_div m0 (by omega)
    have k2 : 0 ≤ h2.fdiv many := by rw [Int.fdiv_eq_ediv_of_nonneg _ (by omega)]; exact Int.ediv_nonneg b0 (by omega)
    refine ⟨[some (.box 0), some (.int many), none, x3, some (.int (h2.fmod many))], h2.fmod many, hb (cells.map .int) a (h2.fdiv many) h3 h4, ?_, q.1, q.2, cells, a, _, h3, h4, rfl, hc, a0, a1, k2, g0, g1, f0, by omega⟩
    simp [d2, e1, n0, k1]
  · have k1 : mulOk 6151 (h4 + 1) = true := ok_mul (by omega) (by omega)
    obtain ⟨n1, hn1⟩ : ∃ n1, n1 = ((h3 + 6151 * (h4 + 1)) * 40692).fmod 2147483399 := ⟨_, rfl⟩
    have q1 := fm (a := (h3 + 6151 * (h4 + 1)) * 40692) (b := 2147483399) (by omega)
    rw [← hn1] at q1
    have k2 : mulOk (h3 + 6151 * (h4 + 1)) 40692 = true := ok_mul (by omega) (by omega)
    have k3 : divOk 1223 = true := ok_div (by omega) (by omega)
    have w1 : 0 ≤ n1.fdiv 1223 ∧ n1.fdiv 1223 ≤ n1 := by rw [Int.fdiv_eq_ediv_of_nonneg _ (by omega)]; omega
    have k4 : mulOk n1 (n1.fdiv 1223 + 52027) = true := ok_mul (by omega) (by omega)
    obtain ⟨n2, hn2⟩ : ∃ n2, n2 = (n1 * (n1.fdiv 1223 + 52027)).fmod 2147483629 := ⟨_, rfl⟩
    have q2 := fm (a := n1 * (n1.fdiv 1223 + 52027)) (b := 2147483629) (by omega)
    rw [← hn2] at q2
    have k5 : divOk 2671 = true := ok_div (by omega) (by omega)
    have w2 : 0 ≤ n2.fdiv 2671 ∧ n2.fdiv 2671 ≤ n2 := by rw [Int.fdiv_eq_ediv_of_nonneg _ (by omega)]; omega
    have k6 : mulOk n2 (n2.fdiv 2671 + 69621) = true := ok_mul (by omega) (by omega)
    obtain ⟨n3, hn3⟩ : ∃ n3, n3 = (n2 * (n2.fdiv 2671 + 69621)).fmod 2147483647 := ⟨_, rfl⟩
    have k7 : divOk 32 = true := ok_div (by omega) (by omega)
    have q4 := fm (a := n3.fdiv 32) m0
    refine ⟨[some (.box 0), some (.int many), some (.int n3), x3, none], (n3.fdiv 32).fmod many, hb (cells.map .int) a h2 h3 (h4 + 1), ?_, q4.1, q4.2, cells, a, h2, h3, _, rfl, hc, a0, a1, b0, g0, g1, by omega, by omega⟩
    simp [d2, e1, k1, k2, ← hn1, k3, k4, ← hn2, k5, k6, ← hn3, k7, n0]
end
end Q.K26
end

section
set_option maxRecDepth 100000
set_option maxHeartbeats 4000000
set_option exponentiation.threshold 70
/-! M46f: the law's own shares. -/
namespace Q.K26
open PySem L2 Q

section
variable {L : Nat}
/-! ### lowest terms -/
def lwC : E := (.tru (.cmp .gt (.var 3) (.cst (.int 0))))
def lwB : St := (.seq (.par 3 2 (.bin .mod (.blt .int (.cons (.var 2) .nil)) (.var 3)) (.var 3)) .nil)
theorem low_loop (c : Env) (bx : List (List D)) (t b : D) : ∀ (m : Nat) (x y : Nat), x < m → whlL (evT c lwC) (evS c L lwB) m ⟨[some t, some b, some (.int y), some (.int x)], bx⟩ = .ok .nx ⟨[some t, some b, some (.int (Nat.gcd x y)), some (.int 0)], bx⟩
  | 0, x, y, h => by omega
  | m + 1, x, y, h => by
    by_cases hx : x = 0
    · subst hx
      rw [Nat.gcd_zero_left]
      exact whl_f (by simp [lwC])
    · have hm : y % x < m := by have := Nat.mod_lt y (show 0 < x by omega); omega
      have ih := low_loop c bx t b m (y % x) x hm
      rw [show Nat.gcd x y = Nat.gcd (y % x) x by rw [Nat.gcd_rec]]
      refine whl_t (s1 := ⟨[some t, some b, some (.int y), some (.int x)], bx⟩) (by simp [lwC]; omega) ?_ ih
      have e : (y : Int).fmod (x : Int) = ((y % x : Nat) : Int) := by
        rw [Int.fmod_eq_emod_of_nonneg _ (by omega)]; rfl
      simp [lwB, hx, e]
variable (hL : 2 ^ 9000 ≤ L)
include hL
omit hL
/-! ### sums, sheets -/
def sumR (ps : List Rat) : Rat := ps.foldl (· + ·) 0
theorem sumR_snoc (ps : List Rat) (p : Rat) : sumR (ps ++ [p]) = sumR ps + p := by unfold sumR; rw [List.foldl_append]; rfl
theorem sumR_sz {k : Nat} : ∀ (n : Nat) (ps : List Rat), ps.length = n → Szs k ps → Sz (1 + n * (k + 1)) (sumR ps)
  | 0, ps, hn, _ => by
    have : ps = [] := List.length_eq_zero_iff.mp hn
    subst this
    exact sz_zero.mono (by omega)
  | n + 1, ps, hn, hv => by
    have hne : ps ≠ [] := fun e => by subst e; simp at hn
    have e := (List.dropLast_concat_getLast hne).symm
    have hl : ps.dropLast.length = n := by rw [List.length_dropLast]; omega
    have h1 := sumR_sz n ps.dropLast hl fun f hf => hv f ((List.dropLast_sublist ps).subset hf)
    rw [e, sumR_snoc]
    refine (sz_add h1 (hv _ (List.getLast_mem hne))).mono ?_
    rw [Nat.succ_mul]; omega
include hL
/-- the weights, what is left behind them -/
def weiS (s : List Rat × Rat) (f : Frg) : List Rat × Rat := (s.1 ++ [s.2 * f.op], s.2 * (1 - f.op))
def weiR (fs : List Frg) : List Rat × Rat := fs.foldl weiS ([], 1)
omit hL in
theorem weiR_snoc (fs : List Frg) (f : Frg) : weiR (fs ++ [f]) = weiS (weiR fs) f := by unfold weiR; rw [List.foldl_append]; rfl
omit hL in
theorem weiR_sz : ∀ (n : Nat) (fs : List Frg), fs.length = n → n ≤ 5 → (∀ f, f ∈ fs → Fv f) → Szs 80 (weiR fs).1 ∧ Sz (1 + 12 * n) (weiR fs).2 ∧ (weiR fs).1.length = n
  | 0, fs, hn, _, _ => by
    have : fs = [] := List.length_eq_zero_iff.mp hn
    subst this
    exact ⟨fun q hq => by simp [weiR] at hq, sz_one, rfl⟩
  | n + 1, fs, hn, h5, hv => by
    have hne : fs ≠ [] := fun e => by subst e; simp at hn
    have e := (List.dropLast_concat_getLast hne).symm
    have hl : fs.dropLast.length = n := by rw [List.length_dropLast]; omega
    obtain ⟨h1, h2, h3⟩ := weiR_sz n fs.dropLast hl (by omega) fun f hf => hv f ((List.dropLast_sublist fs).subset hf)
    have fv := hv _ (List.getLast_mem hne)
    rw [e, weiR_snoc]
    refine ⟨fun q hq => ?_, (sz_mul h2 (sz_sub sz_one fv.so)).mono (by omega), by simp [weiS, h3]⟩
    simp [weiS] at hq
    rcases hq with hq | rfl
    · exact h1 q hq
    · exact (sz_mul h2 fv.so).mono (by omega)
end
end Q.K26
end

section
set_option maxRecDepth 100000
set_option maxHeartbeats 4000000
set_option exponentiation.threshold 70
/-! M46g: the law's own sheets. -/
namespace Q.K26
open PySem L2 Q

def Frg.at (f : Frg) : Nat → Rat
  | 0 => f.r
  | 1 => f.g
  | _ => f.b
theorem Fv.sat {f : Frg} (h : Fv f) (a : Nat) : Sz 10 (f.at a) := by
  unfold Frg.at
  split
  · exact h.sr
  · exact h.sg
  · exact h.sb
theorem ix_at (f : Frg) {a : Nat} (h : a < 3) : ixD (col4 f) (.int (a : Int)) = some (sh (f.at a)) := by
  match a, h with
  | 0, _ => rfl
  | 1, _ => rfl
  | 2, _ => rfl
/-- the parts of one colour -/
def parts (fs : List Frg) (a : Nat) : List Rat := ((weiR fs).1.zip fs).map fun p => p.1 * p.2.at a
theorem parts_sz {fs : List Frg} (h5 : fs.length ≤ 5) (hv : ∀ f, f ∈ fs → Fv f) (a : Nat) : Szs 90 (parts fs a) := fun q hq => by
  unfold parts at hq
  obtain ⟨p, hp, rfl⟩ := List.mem_map.mp hq
  obtain ⟨s1, s2, s3⟩ := weiR_sz fs.length fs rfl h5 hv
  exact sz_mul (s1 _ (List.of_mem_zip hp).1) ((hv _ (List.of_mem_zip hp).2).sat a)
theorem parts_len {fs : List Frg} (h5 : fs.length ≤ 5) (hv : ∀ f, f ∈ fs → Fv f) (a : Nat) : (parts fs a).length = fs.length := by
  obtain ⟨s1, s2, s3⟩ := weiR_sz fs.length fs rfl h5 hv
  unfold parts; simp [s3]
theorem parts_snoc {fs : List Frg} {f : Frg} (h : (weiR fs).1.length = fs.length) (a : Nat) : parts (fs ++ [f]) a = parts fs a ++ [(weiR fs).2 * f.op * f.at a] := by
  unfold parts
  rw [weiR_snoc]
  simp [weiS, List.zip_append h]
/-- the law's own sheet of layers is that of the package -/
def shR (fs : List Frg) : List Rat × Rat := ([sumR (parts fs 0), sumR (parts fs 1), sumR (parts fs 2)], (weiR fs).2)
theorem shR_raw : ∀ (n : Nat) (fs : List Frg), fs.length = n → shR fs = rawR fs ∧ (weiR fs).1.length = fs.length
  | 0, fs, hn => by
    have : fs = [] := List.length_eq_zero_iff.mp hn
    subst this
    exact ⟨rfl, rfl⟩
  | n + 1, fs, hn => by
    have hne : fs ≠ [] := fun e => by subst e; simp at hn
    have e := (List.dropLast_concat_getLast hne).symm
    have hl : fs.dropLast.length = n := by rw [List.length_dropLast]; omega
    obtain ⟨h1, h2⟩ := shR_raw n fs.dropLast hl
    generalize fs.dropLast = gs at e h1 h2
    generalize fs.getLast hne = f at e
    subst e
    rw [rawR_snoc, ← h1]
    refine ⟨?_, by rw [weiR_snoc]; simp [weiS, h2]⟩
    unfold shR
    rw [parts_snoc h2, parts_snoc h2, parts_snoc h2, sumR_snoc, sumR_snoc, sumR_snoc, weiR_snoc]
    simp [stepR, addR, Frg.col, weiS, Frg.at]
def wD (fs : List Frg) : List D := ((weiR fs).1 ++ [(weiR fs).2]).map sh
theorem zip_w (fs : List Frg) (h : (weiR fs).1.length = fs.length) : zipD (wD fs) (fs.map fr) = ((weiR fs).1.zip fs).map fun p => .tup [sh p.1, fr p.2] := by
  unfold wD
  rw [zipD_map]
  congr 1
  rw [show fs = fs ++ [] by simp, List.zip_append (by simpa using h)]
  simp
def lcIn : E := (.lc (.call 58 (.cons (.var 4) (.cons (.idx (.ixv 5 (.cst (.int 2))) (.var 3)) .nil))) (.tup (.cons (.var 4) (.cons (.var 5) .nil))) (.zip (.var 1) (.var 0)) .nil [4, 5])
theorem sh_three (fs : List Frg) (a : Nat) : [sumR (parts fs 0), sumR (parts fs 1), sumR (parts fs 2)].map sh = [sh (sumR (parts fs 0)), sh (sumR (parts fs 1)), sh (sumR (parts fs 2))] := rfl
section
variable {L : Nat} (hL : 2 ^ 9000 ≤ L)
include hL
end
end Q.K26
end

section
set_option maxRecDepth 100000
set_option maxHeartbeats 4000000
set_option exponentiation.threshold 70
/-! M46h: the law's own sheets laid over, layers seen, the look at likeness. -/
namespace Q.K26
open PySem L2 Q

/-- ints, flags, tuples of such, at most n deep -/
def Pl : Nat → D → Prop
  | _, .int _ => True
  | _, .bl _ => True
  | n + 1, .tup xs => xs.length ≤ 100 ∧ ∀ x, x ∈ xs → Pl n x
  | _, _ => False
theorem eqD_int_self (i : Int) : eqD (.int i) (.int i) = true := by simp
theorem shs_pl (cs : List Rat) (h : cs.length ≤ 100) : Pl 2 (shs cs) := by
  refine ⟨by simpa using h, fun x hx => ?_⟩
  obtain ⟨q, _, rfl⟩ := List.mem_map.mp hx
  refine ⟨by simp, fun y hy => ?_⟩
  simp at hy
  rcases hy with rfl | rfl <;> trivial
theorem pr_pl (s : List Rat × Rat) (h : s.1.length ≤ 100) : Pl 3 (pr s) := by
  refine ⟨by simp, fun x hx => ?_⟩
  simp at hx
  rcases hx with rfl | rfl
  · exact shs_pl _ h
  · refine ⟨by simp, fun y hy => ?_⟩
    simp at hy
    rcases hy with rfl | rfl <;> trivial
theorem ix_shs {cs : List Rat} {a : Nat} {q : Rat} (h : cs[a]? = some q) : ixD (shs cs) (.int (a : Int)) = some (sh q) := by
  show atI (cs.map sh) (a : Int) = _
  exact atI_nat (by simp [h])
section
variable {L : Nat}
variable (hL : 2 ^ 9000 ≤ L)
include hL
def lcSe : E := (.lc (.call 58 (.cons (.var 6) (.cons (.idx (.ixv 7 (.cst (.int 2))) (.var 2)) .nil))) (.tup (.cons (.var 6) (.cons (.var 7) .nil))) (.zip (.var 3) (.var 0)) .nil [6, 7])
end
end Q.K26
end

section
set_option maxRecDepth 100000
set_option maxHeartbeats 4000000
set_option exponentiation.threshold 70
/-! M46i: the law's own look at sheets. -/
namespace Q.K26
open PySem L2 Q

theorem forL_all {f : D → S → Res Flow} {p : D → Bool} {r : D} (Inv : S → Prop) : ∀ (ds : List D) (h1 : ∀ d, d ∈ ds → ∀ s, Inv s → p d = true → ∃ s', f d s = .ok .nx s' ∧ Inv s') (h2 : ∀ d, d ∈ ds → ∀ s, Inv s → p d = false → ∃ s', f d s = .ok (.rt r) s' ∧ Inv s') (s : S), Inv s →
    ∃ s', Inv s' ∧ forL f ds s = .ok (if ds.all p then .nx else .rt r) s'
  | [], h1, h2, s, hs => ⟨s, hs, rfl⟩
  | d :: ds, h1, h2, s, hs => by
    cases hp : p d with
    | true =>
      obtain ⟨s1, e1, i1⟩ := h1 d (by simp) s hs hp
      obtain ⟨s2, i2, e2⟩ := forL_all Inv ds (fun d hd => h1 d (by simp [hd])) (fun d hd => h2 d (by simp [hd])) s1 i1
      refine ⟨s2, i2, ?_⟩
      unfold forL
      rw [e1, Res.bnd_ok]
      simp only [List.all_cons, hp, Bool.true_and]
      exact e2
    | false =>
      obtain ⟨s1, e1, i1⟩ := h2 d (by simp) s hs hp
      refine ⟨s1, i1, ?_⟩
      unfold forL
      rw [e1, Res.bnd_ok]
      simp [hp]
theorem in1_nn {a b : D} : isIn1D (.tup [a, b]) = (nnD (.tup [a, b]) && (match a, b with | .int x, .int y => decide (x ≤ y) | _, _ => false)) := by
  cases a <;> cases b <;> first | rfl | simp [isIn1D, nnD, Bool.and_assoc]
theorem nnD_inv {d : D} (h : nnD d = true) : ∃ (a b : Nat), d = .tup [.int a, .int b] ∧ 0 < b ∧ Nat.gcd a b = 1 := by
  unfold nnD at h
  split at h
  · rename_i a b
    simp [isShareD] at h
    refine ⟨a.toNat, b.toNat, ?_, by omega, ?_⟩
    · rw [Int.toNat_of_nonneg h.2, Int.toNat_of_nonneg (by omega)]
    · have := h.1.2
      rw [Int.gcd] at this
      rw [show a.toNat = a.natAbs by omega, show b.toNat = b.natAbs by omega]; exact this
  · cases h
theorem low_eq {a b : Nat} (h0 : b ≠ 0) : eqD (sh (Rat.normalize a b h0)) (.tup [.int a, .int b]) = decide (Nat.gcd a b = 1) := by
  rw [← sh_norm]
  show ((a : Int) / ((Int.gcd a b : Nat) : Int) == (a : Int) && ((b : Int) / ((Int.gcd a b : Nat) : Int) == (b : Int) && true)) = _
  have hg : Int.gcd a b = Nat.gcd a b := by simp [Int.gcd]
  rw [hg]
  have g0 : 0 < Nat.gcd a b := Nat.gcd_pos_of_pos_right _ (by omega)
  by_cases h : Nat.gcd a b = 1
  · simp [h]
  · simp [h]
    intro _ hb
    have h2 : b / Nat.gcd a b = b := by
      have : ((b / Nat.gcd a b : Nat) : Int) = (b : Int) := by rw [Int.natCast_ediv]; exact hb
      omega
    have h3 : b / Nat.gcd a b < b := Nat.div_lt_self (by omega) (by omega)
    omega
section
variable {L : Nat}
variable (hL : 2 ^ 9000 ≤ L)
include hL
end
end Q.K26
end

section
set_option maxRecDepth 100000
set_option maxHeartbeats 4000000
set_option exponentiation.threshold 70
/-! M46j: layers put together. -/
namespace Q.K26
open PySem L2 Q

def sameK (f g : Frg) : Bool := decide (f.dep = g.dep) && decide (f.num = g.num)
theorem ahd_trans {f g h : Frg} (a : isAhd f g = true) (b : isAhd g h = true) : isAhd f h = true := by
  unfold isAhd at *
  simp at *
  rcases a with a | ⟨a, a'⟩ <;> rcases b with b | ⟨b, b'⟩
  · left; grind
  · left; grind
  · left; grind
  · right; exact ⟨a.trans b, by omega⟩
theorem ahd_total {f g : Frg} (h : isAhd f g = false) (k : sameK f g = false) : isAhd g f = true := by
  unfold isAhd sameK at *
  simp at *
  by_cases e : f.dep = g.dep
  · right
    have h2 := h.2 e
    have k2 := k e
    exact ⟨e.symm, by omega⟩
  · left
    have h1 := h.1
    grind
def Srt (fs : List Frg) : Prop := fs.Pairwise fun f g => isAhd f g = true
/-- f's place among the others -/
def ins (f : Frg) : List Frg → List Frg
  | [] => [f]
  | x :: xs => if isAhd x f then x :: ins f xs else f :: x :: xs
theorem ins_eq (f : Frg) : ∀ {fs : List Frg}, Srt fs → fs.filter (fun x => isAhd x f) ++ [f] ++ fs.drop (fs.filter (fun x => isAhd x f)).length = ins f fs
  | [], _ => rfl
  | x :: xs, h => by
    have h' := List.pairwise_cons.mp h
    cases hx : isAhd x f with
    | true =>
      have ih := ins_eq f h'.2
      simp [ins, hx] at ih ⊢
      exact ih
    | false =>
      have hn : xs.filter (fun x => isAhd x f) = [] := by
        rw [List.filter_eq_nil_iff]
        intro y hy hyf
        have := ahd_trans (h'.1 y hy) hyf
        rw [hx] at this; cases this
      simp [ins, hx, hn]
theorem ins_mem {f y : Frg} : ∀ {fs : List Frg}, y ∈ ins f fs → y = f ∨ y ∈ fs
  | [], h => by simp [ins] at h; exact .inl h
  | x :: xs, h => by
    unfold ins at h
    split at h
    · rcases List.mem_cons.mp h with rfl | h
      · right; simp
      · rcases ins_mem h with h | h
        · exact .inl h
        · right; simp [h]
    · rcases List.mem_cons.mp h with rfl | h
      · exact .inl rfl
      · exact .inr h
theorem ins_srt {f : Frg} : ∀ {fs : List Frg}, Srt fs → (∀ x, x ∈ fs → sameK x f = false) → Srt (ins f fs)
  | [], _, _ => List.pairwise_singleton _ _
  | x :: xs, h, hk => by
    have h' := List.pairwise_cons.mp h
    unfold ins
    split
    · rename_i hx
      refine List.pairwise_cons.mpr ⟨fun y hy => ?_, ins_srt h'.2 fun z hz => hk z (by simp [hz])⟩
      rcases ins_mem hy with rfl | hy
      · exact hx
      · exact h'.1 y hy
    · rename_i hx
      have hx' : isAhd x f = false := by simpa using hx
      have hf := ahd_total hx' (hk x (by simp))
      refine List.pairwise_cons.mpr ⟨fun y hy => ?_, h⟩
      rcases List.mem_cons.mp hy with rfl | hy
      · exact hf
      · exact ahd_trans hf (h'.1 y hy)
theorem ins_len (f : Frg) : ∀ fs : List Frg, (ins f fs).length = fs.length + 1
  | [] => rfl
  | x :: xs => by
    unfold ins
    split
    · simp [ins_len f xs]
    · simp
/-- nothing behind a full one -/
def cutF : List Frg → List Frg
  | [] => []
  | x :: xs => if x.op = 1 then [x] else x :: cutF xs
theorem cutF_sub : ∀ fs : List Frg, (cutF fs).Sublist fs
  | [] => .slnil
  | x :: xs => by
    unfold cutF
    split
    · exact (List.nil_sublist xs).cons_cons x
    · exact (cutF_sub xs).cons_cons x
theorem cutF_nf : ∀ (fs : List Frg) (f : Frg), f ∈ (cutF fs).dropLast → f.op ≠ 1
  | [], f, h => by simp [cutF] at h
  | x :: xs, f, h => by
    unfold cutF at h
    split at h
    · simp at h
    · rename_i hx
      cases hc : cutF xs with
      | nil => rw [hc] at h; simp at h
      | cons y ys =>
        rw [hc] at h
        simp at h
        rcases h with rfl | h
        · exact hx
        · exact cutF_nf xs f (by rw [hc]; exact h)
def putR (fs : List Frg) (f : Frg) : List Frg := cutF (ins f (fs.filter fun x => !sameK x f))
theorem srt_zip : ∀ {fs : List Frg}, Srt fs → ∀ p, p ∈ fs.zip fs.tail → isAhd p.1 p.2 = true
  | [], _, p, h => by simp at h
  | [x], _, p, h => by simp at h
  | x :: y :: r, hs, p, h => by
    have h' := List.pairwise_cons.mp hs
    simp at h
    rcases h with rfl | h
    · exact h'.1 y (by simp)
    · exact srt_zip h'.2 p (by simpa using h)
structure Ly (n : Nat) (fs : List Frg) : Prop where
  l : fs.length ≤ n
  v : ∀ f, f ∈ fs → Fv f
  nf : ∀ f, f ∈ fs.dropLast → f.op ≠ 1
  s : Srt fs
theorem Ly.lay {n : Nat} {fs : List Frg} (h : Ly n fs) (hn : n ≤ 5) : Lay fs := ⟨Nat.le_trans h.l hn, h.v, h.nf, srt_zip h.s⟩
theorem ly_put {n : Nat} {fs : List Frg} {f : Frg} (h : Ly n fs) (hf : Fv f) : Ly (n + 1) (putR fs f) := by
  have hsub : (fs.filter fun x => !sameK x f).Sublist fs := List.filter_sublist
  have hs : Srt (fs.filter fun x => !sameK x f) := List.Pairwise.sublist hsub h.s
  have hk : ∀ x, x ∈ (fs.filter fun x => !sameK x f) → sameK x f = false := fun x hx => by simpa using (List.mem_filter.mp hx).2
  refine ⟨?_, fun g hg => ?_, cutF_nf _, List.Pairwise.sublist (cutF_sub _) (ins_srt hs hk)⟩
  · have := (cutF_sub (ins f (fs.filter fun x => !sameK x f))).length_le
    rw [ins_len] at this
    have := hsub.length_le
    have := h.l
    unfold putR; omega
  · rcases ins_mem ((cutF_sub _).subset hg) with rfl | hg
    · exact hf
    · exact h.v g (hsub.subset hg)
theorem ly_take {n : Nat} {fs : List Frg} (h : Ly n fs) (k : Nat) : Ly n (fs.take k) := by
  refine ⟨by rw [List.length_take]; have := h.l; omega, fun f hf => h.v f (List.mem_of_mem_take hf), fun f hf => ?_, List.Pairwise.sublist (List.take_sublist k fs) h.s⟩
  refine h.nf f ?_
  rw [List.dropLast_eq_take] at hf ⊢
  rw [List.take_take, List.length_take] at hf
  exact (List.take_subset_take_left fs (by omega)) hf
theorem ly_drop {n : Nat} {fs : List Frg} (h : Ly n fs) (k : Nat) : Ly n (fs.drop k) := by
  refine ⟨by rw [List.length_drop]; have := h.l; omega, fun f hf => h.v f (List.mem_of_mem_drop hf), fun f hf => ?_, List.Pairwise.sublist (List.drop_sublist k fs) h.s⟩
  refine h.nf f ?_
  rw [List.dropLast_eq_take] at hf ⊢
  rw [List.length_drop, List.take_drop] at hf
  refine List.take_subset_take_left fs (i := k + (fs.length - k - 1)) (j := fs.length - 1) ?_ (List.mem_of_mem_drop hf)
  by_cases c : k < fs.length
  · omega
  · exfalso
    rw [List.drop_eq_nil_of_le (by rw [List.length_take]; omega)] at hf
    cases hf
section
variable {L : Nat}
theorem key_ne (f g : Frg) : opC .ne (.tup [sh f.dep, .int f.num]) (.tup [sh g.dep, .int g.num]) = some (!sameK f g) := by
  rw [opC_ne]
  have h : eqD (.tup [sh f.dep, .int f.num]) (.tup [sh g.dep, .int g.num]) = sameK f g := by
    show (eqD (sh f.dep) (sh g.dep) && ((f.num == g.num) && true)) = _
    rw [eqD_sh]
    unfold sameK
    rw [Bool.and_true]; rfl
  rw [h]; rfl
theorem sl_fr2 (f : Frg) : slD (fr f) none (some 2) = some (.tup [sh f.dep, .int f.num]) := rfl
theorem sl_from {xs : List D} (k : Nat) : slD (.lst xs) (some (k : Int)) none = some (.own (xs.drop k)) := by
  show some (D.own (cutD xs (some (k : Int)) none)) = _
  unfold cutD
  rw [show HT.sIx xs.length 0 (some (k : Int)) = min k xs.length from HT.sIx_nat _ _ _, show HT.sIx xs.length xs.length none = xs.length from rfl]
  congr 2
  by_cases c : k ≤ xs.length
  · rw [Nat.min_eq_left c, List.take_of_length_le (by rw [List.length_drop]; omega)]
  · rw [Nat.min_eq_right (by omega), List.drop_length, List.drop_eq_nil_of_le (by omega)]; simp
def ptB : St := (.seq (.ite (.or (.tru (.cmp .eq (.lenv 6) (.cst (.int 0)))) (.tru (.cmp .ne (.idx (.idx (.ixv 6 (.neg (.cst (.int 1)))) (.cst (.int 2))) (.cst (.int 3))) (.tup (.cons (.cst (.int 1)) (.cons (.cst (.int 1)) .nil)))))) (.seq (.ex (.mut .append 6 (.cons (.var 4) .nil))) .nil) .nil) .nil)
/-- what has been taken: all, or up to a full one -/
theorem pt_loop (c : Env) (l0 l1 l2 l3 l5 : Option D) (bx : List (List D)) : ∀ (rs ac : List Frg) (x4 : Option D), rs.length + ac.length ≤ 1000 → (∀ f, f ∈ ac → f.op ≠ 1) →
    ∃ x4', forL (forT c L (.var 4) ptB) (rs.map fr) ⟨[l0, l1, l2, l3, x4, l5, some (.own (ac.map fr))], bx⟩ = .ok .nx ⟨[l0, l1, l2, l3, x4', l5, some (.own ((ac ++ cutF rs).map fr))], bx⟩
  | [], ac, x4, hl, ha => ⟨x4, by simp [forL, cutF]⟩
  | f :: rs, ac, x4, hl, ha => by
    have h1 : D.tup [.int 1, .int 1] = sh 1 := rfl
    have hlen : ac.length < 16777216 := by simp at hl; omega
    have step : forT c L (.var 4) ptB (fr f) ⟨[l0, l1, l2, l3, x4, l5, some (.own (ac.map fr))], bx⟩ = .ok .nx ⟨[l0, l1, l2, l3, some (fr f), l5, some (.own ((ac ++ [f]).map fr))], bx⟩ := by
      cases hac : ac with
      | nil => simp [forT, asgT, ptB, ownL, mutD]
      | cons a r =>
        have hne : ac ≠ [] := by rw [hac]; simp
        have hla : atI (ac.map fr) (-1) = some (fr (ac.getLast hne)) := by
          conv => lhs; rw [← List.dropLast_concat_getLast hne, List.map_append]
          exact atI_last _ _
        have hop : ¬ (ac.getLast hne).op = 1 := ha _ (List.getLast_mem hne)
        rw [← hac]
        have hz : ¬ ((ac.length : Int) = 0) := by rw [hac]; simp; omega
        have hz' : ¬ ac = [] := hne
        simp [forT, asgT, ptB, ownL, mutD, hla, h1, eqD_sh, hop, hz, hz', hlen]
    by_cases hf : f.op = 1
    · -- nothing more is taken
      have rest : ∀ (rs : List Frg) (x4 : Option D), ∃ x4', forL (forT c L (.var 4) ptB) (rs.map fr) ⟨[l0, l1, l2, l3, x4, l5, some (.own ((ac ++ [f]).map fr))], bx⟩ = .ok .nx ⟨[l0, l1, l2, l3, x4', l5, some (.own ((ac ++ [f]).map fr))], bx⟩ := by
        intro rs
        induction rs with
        | nil => exact fun x4 => ⟨x4, rfl⟩
        | cons g rs ih =>
          intro x4
          obtain ⟨x4', e⟩ := ih (some (fr g))
          refine ⟨x4', ?_⟩
          have hla : atI ((ac ++ [f]).map fr) (-1) = some (fr f) := by
            rw [List.map_append]; exact atI_last _ _
          have hz : ¬ ((ac.length : Int) + 1 = 0) := by omega
          have s1 : forT c L (.var 4) ptB (fr g) ⟨[l0, l1, l2, l3, x4, l5, some (.own ((ac ++ [f]).map fr))], bx⟩ = .ok .nx ⟨[l0, l1, l2, l3, some (fr g), l5, some (.own ((ac ++ [f]).map fr))], bx⟩ := by
            generalize hA : (ac ++ [f]).map fr = A at hla ⊢
            have hlA : (A.length : Int) = ac.length + 1 := by rw [← hA]; simp
            simp [forT, asgT, ptB, hla, h1, eqD_sh, hf, hlA, hz]
          show forL _ (fr g :: rs.map fr) _ = _
          unfold forL
          rw [s1, Res.bnd_ok]
          exact e
      obtain ⟨x4', e⟩ := rest rs (some (fr f))
      refine ⟨x4', ?_⟩
      show forL _ (fr f :: rs.map fr) _ = _
      unfold forL
      rw [step, Res.bnd_ok]
      simp only [cutF, hf, if_true]
      exact e
    · obtain ⟨x4', e⟩ := pt_loop c l0 l1 l2 l3 l5 bx rs (ac ++ [f]) (some (fr f)) (by simp at hl ⊢; omega) (fun g hg => by
        rcases List.mem_append.mp hg with hg | hg
        · exact ha g hg
        · simp at hg; subst hg; exact hf)
      refine ⟨x4', ?_⟩
      show forL _ (fr f :: rs.map fr) _ = _
      unfold forL
      rw [step, Res.bnd_ok]
      simp only [cutF, hf, if_false]
      rw [List.append_assoc] at e
      exact e
end
end Q.K26
end

section
set_option maxRecDepth 100000
set_option maxHeartbeats 4000000
set_option exponentiation.threshold 70
/-! M46k: what is drawn. -/
namespace Q.K26
open PySem L2 Q

theorem Hd.mono {m m' : Nat} {bx : List (List D)} (h : Hd m bx) (hm : m ≤ m') : Hd m' bx := by
  obtain ⟨c, a, h2, h3, h4, r1, r2, r3, r4, r5, r6, r7, r8, r9⟩ := h
  exact ⟨c, a, h2, h3, h4, r1, r2, r3, r4, r5, r6, r7, r8, by omega⟩
theorem norm_nn {t : Int} {b : Nat} (h0 : b ≠ 0) (h : 0 ≤ t) : 0 ≤ Rat.normalize t b h0 := by
  rw [← Rat.num_nonneg, Rat.normalize_eq]
  show 0 ≤ t / ((t.natAbs.gcd b : Nat) : Int)
  exact Int.ediv_nonneg h (by omega)
theorem norm_le1 {t : Int} {b : Nat} (h0 : b ≠ 0) (h : t ≤ b) : Rat.normalize t b h0 ≤ 1 := by
  rw [Rat.le_iff, Rat.normalize_eq]
  show t / ((t.natAbs.gcd b : Nat) : Int) * 1 ≤ 1 * (((b / t.natAbs.gcd b : Nat)) : Int)
  rw [Int.mul_one, Int.one_mul, Int.natCast_ediv]
  have g0 : 0 < t.natAbs.gcd b := Nat.gcd_pos_of_pos_right _ (by omega)
  exact Int.ediv_le_ediv (by omega) h
theorem norm_in1 {t : Int} {b : Nat} (h0 : b ≠ 0) (h : 0 ≤ t) (h1 : t ≤ b) : In1 (Rat.normalize t b h0) := ⟨norm_nn h0 h, norm_le1 h0 h1⟩
theorem norm_pos {t : Int} {b : Nat} (h0 : b ≠ 0) (h : 0 < t) : 0 < Rat.normalize t b h0 := by
  have h1 := norm_nn h0 (show 0 ≤ t by omega)
  have h2 : Rat.normalize t b h0 ≠ 0 := fun e => by
    have := congrArg Rat.num e
    rw [Rat.normalize_eq] at this
    have h3 : t / ((t.natAbs.gcd b : Nat) : Int) = 0 := this
    have hd : ((t.natAbs.gcd b : Nat) : Int) ∣ t := by
      have := Nat.gcd_dvd_left t.natAbs b
      exact Int.natAbs_dvd_natAbs.mp (by simpa using this)
    have := Int.ediv_mul_cancel hd
    rw [h3] at this
    omega
  grind
section
variable {L : Nat} (hL : 2 ^ 9000 ≤ L)
include hL
/-! ### odd things -/
omit hL
theorem pow_le : 2 ^ 70 ≤ 2 ^ 9000 := Nat.pow_le_pow_right (by omega) (by omega)
theorem gd_i {i : Int} (h : i.natAbs < 2 ^ 70) : Gd (.int i) := by
  unfold Gd
  exact Nat.lt_of_lt_of_le h pow_le
theorem gd_non : Gd .non := by unfold Gd; exact True.intro
theorem gd_bl (b : Bool) : Gd (.bl b) := by unfold Gd; exact True.intro
theorem gd_str (b : Str) : Gd (.str b) := by unfold Gd; exact True.intro
theorem gd_dc (b : List (Key × D)) : Gd (.dic b) := by unfold Gd; exact True.intro
theorem gd_tp {xs : List D} (h : Gds xs) : Gd (.tup xs) := by unfold Gd; exact h
theorem gd_ls {xs : List D} (h : Gds xs) : Gd (.lst xs) := by unfold Gd; exact h
theorem at_mem {xs : List D} {r : Int} (h0 : 0 ≤ r) (h : r < xs.length) : ∃ d, d ∈ xs ∧ atI xs r = some d := by
  have hl : r.toNat < xs.length := by omega
  refine ⟨xs[r.toNat], List.getElem_mem hl, ?_⟩
  have := at_nat (xs := xs) hl
  rw [Int.toNat_of_nonneg h0] at this
  rw [this]; simp [hl]
end
end Q.K26
end

section
set_option maxRecDepth 100000
set_option maxHeartbeats 4000000
set_option exponentiation.threshold 70
/-! M46l: the plain law of sheets. -/
namespace Q.K26
open PySem L2 Q

theorem eqD_refl : ∀ (h : Nat) (d : D), Pl h d → eqD d d = true
  | _, .int _, _ => by simp
  | _, .bl _, _ => by simp
  | h + 1, .tup xs, hp => by
    show eqDs xs xs = true
    have := hp.2
    clear hp
    induction xs with
    | nil => rfl
    | cons x xs ih =>
      show (eqD x x && eqDs xs xs) = true
      rw [eqD_refl h x (this x (by simp)), ih fun y hy => this y (by simp [hy])]; rfl
  | 0, .tup _, hp => hp.elim
  | 0, .non, hp => hp.elim
  | _ + 1, .non, hp => hp.elim
  | 0, .str _, hp => hp.elim
  | _ + 1, .str _, hp => hp.elim
  | 0, .lst _, hp => hp.elim
  | _ + 1, .lst _, hp => hp.elim
  | 0, .dic _, hp => hp.elim
  | _ + 1, .dic _, hp => hp.elim
  | 0, .own _, hp => hp.elim
  | _ + 1, .own _, hp => hp.elim
  | 0, .odc _, hp => hp.elim
  | _ + 1, .odc _, hp => hp.elim
  | 0, .scr _, hp => hp.elim
  | _ + 1, .scr _, hp => hp.elim
  | 0, .box _, hp => hp.elim
  | _ + 1, .box _, hp => hp.elim
  | 0, .fn _, hp => hp.elim
  | _ + 1, .fn _, hp => hp.elim
theorem shN_pl : ∀ (h k : Nat) (d : D), Pl h d → h ≤ k → shN k d = true
  | _, _, .int _, _, _ => by simp
  | _, _, .bl _, _, _ => by simp
  | h + 1, k + 1, .tup xs, hp, hk => by
    rw [shN_tup, List.all_eq_true]
    exact fun x hx => shN_pl h k x (hp.2 x hx) (by omega)
  | _ + 1, 0, _, _, hk => by omega
  | 0, _, .tup _, hp, _ => hp.elim
  | 0, _, .non, hp, _ => hp.elim
  | _ + 1, _ + 1, .non, hp, _ => hp.elim
  | 0, _, .str _, hp, _ => hp.elim
  | _ + 1, _ + 1, .str _, hp, _ => hp.elim
  | 0, _, .lst _, hp, _ => hp.elim
  | _ + 1, _ + 1, .lst _, hp, _ => hp.elim
  | 0, _, .dic _, hp, _ => hp.elim
  | _ + 1, _ + 1, .dic _, hp, _ => hp.elim
  | 0, _, .own _, hp, _ => hp.elim
  | _ + 1, _ + 1, .own _, hp, _ => hp.elim
  | 0, _, .odc _, hp, _ => hp.elim
  | _ + 1, _ + 1, .odc _, hp, _ => hp.elim
  | 0, _, .scr _, hp, _ => hp.elim
  | _ + 1, _ + 1, .scr _, hp, _ => hp.elim
  | 0, _, .box _, hp, _ => hp.elim
  | _ + 1, _ + 1, .box _, hp, _ => hp.elim
  | 0, _, .fn _, hp, _ => hp.elim
  | _ + 1, _ + 1, .fn _, hp, _ => hp.elim
theorem ne_self {h : Nat} {d : D} (hp : Pl h d) (hh : h ≤ 60) : opC .ne d d = some false := by
  rw [opC_ne, shN_pl h 60 d hp hh, eqD_refl h d hp]; rfl
/-! ### sheets -/
theorem three {cs : List Rat} (h : cs.length = 3) : ∃ a b c, cs = [a, b, c] := by
  match cs, h with
  | [a, b, c], _ => exact ⟨a, b, c, rfl⟩
theorem lay_assoc (s t u : List Rat × Rat) (hs : s.1.length = 3) (ht : t.1.length = 3) (hu : u.1.length = 3) : layR (layR s t) u = layR s (layR t u) := by
  obtain ⟨s1, s2⟩ := s
  obtain ⟨t1, t2⟩ := t
  obtain ⟨u1, u2⟩ := u
  obtain ⟨a, b, c, rfl⟩ := three hs
  obtain ⟨d, e, f, rfl⟩ := three ht
  obtain ⟨g, h, i, rfl⟩ := three hu
  simp [layR, addR]
  refine ⟨⟨?_, ?_, ?_⟩, ?_⟩ <;> grind
theorem step_lay (s : List Rat × Rat) (f : Frg) : stepR s f = layR s ([f.op * f.r, f.op * f.g, f.op * f.b], 1 - f.op) ∨ s.1.length ≠ 3 := by
  by_cases h : s.1.length = 3
  · left
    obtain ⟨s1, s2⟩ := s
    obtain ⟨a, b, c, rfl⟩ := three h
    simp [stepR, layR, addR, Frg.col]
    refine ⟨?_, ?_, ?_⟩ <;> grind
  · exact .inr h
theorem lay_len {s t : List Rat × Rat} (hs : s.1.length = 3) (ht : t.1.length = 3) : (layR s t).1.length = 3 := by simp [layR, addR, hs, ht]
theorem lay_clear (s : List Rat × Rat) (hs : s.1.length = 3) : layR s ([0, 0, 0], 1) = s ∧ layR ([0, 0, 0], 1) s = s := by
  obtain ⟨s1, s2⟩ := s
  obtain ⟨a, b, c, rfl⟩ := three hs
  refine ⟨?_, ?_⟩ <;> simp [layR, addR] <;> grind
theorem raw_app (xs : List Frg) : ∀ (n : Nat) (ys : List Frg), ys.length = n → rawR (xs ++ ys) = layR (rawR xs) (rawR ys)
  | 0, ys, hn => by
    have : ys = [] := List.length_eq_zero_iff.mp hn
    subst this
    rw [List.append_nil]
    exact (lay_clear (rawR xs) (rawR_len xs)).1.symm
  | n + 1, ys, hn => by
    have hne : ys ≠ [] := fun e => by subst e; simp at hn
    have e := (List.dropLast_concat_getLast hne).symm
    have hl : ys.dropLast.length = n := by rw [List.length_dropLast]; omega
    have ih := raw_app xs n ys.dropLast hl
    rw [e, ← List.append_assoc, rawR_snoc, rawR_snoc, ih]
    generalize ys.getLast hne = f
    have l1 := rawR_len xs
    have l2 := rawR_len ys.dropLast
    rcases step_lay (layR (rawR xs) (rawR ys.dropLast)) f with h | h
    · rcases step_lay (rawR ys.dropLast) f with h' | h'
      · rw [h, h', lay_assoc _ _ _ l1 l2 rfl]
      · exact absurd l2 h'
    · exact absurd (lay_len l1 l2) h
theorem add_lay (s t : List Rat × Rat) (g : List Rat) (hs : s.1.length = 3) (ht : t.1.length = 3) (hg : g.length = 3) : addR (layR s t).2 (layR s t).1 g = addR s.2 s.1 (addR t.2 t.1 g) := by
  obtain ⟨s1, s2⟩ := s
  obtain ⟨t1, t2⟩ := t
  obtain ⟨a, b, c, rfl⟩ := three hs
  obtain ⟨d, e, f, rfl⟩ := three ht
  obtain ⟨x, y, z, rfl⟩ := three hg
  simp [layR, addR]
  refine ⟨?_, ?_, ?_⟩ <;> grind
theorem in1_mul {p q : Rat} (hp : In1 p) (hq : In1 q) : In1 (p * q) := by
  refine ⟨Rat.mul_nonneg hp.1 hq.1, ?_⟩
  have h1 := Rat.mul_nonneg hp.1 (show 0 ≤ 1 - q by have := hq.2; grind)
  have := hp.2
  grind
theorem in1_sub {q : Rat} (hq : In1 q) : In1 (1 - q) := ⟨by have := hq.2; grind, by have := hq.1; grind⟩
theorem add_nn {w : Rat} {cs ds : List Rat} (hw : 0 ≤ w) (hc : ∀ q, q ∈ cs → 0 ≤ q) (hd : ∀ q, q ∈ ds → 0 ≤ q) : ∀ q, q ∈ addR w cs ds → 0 ≤ q := fun q hq => by
  unfold addR at hq
  obtain ⟨p, hp, rfl⟩ := List.mem_map.mp hq
  have h1 := hc _ (List.of_mem_zip hp).1
  have h2 := Rat.mul_nonneg hw (hd _ (List.of_mem_zip hp).2)
  grind
theorem raw_sv0 : ∀ (n : Nat) (fs : List Frg), fs.length = n → (∀ f, f ∈ fs → Fv f) → (∀ q, q ∈ (rawR fs).1 → 0 ≤ q) ∧ In1 (rawR fs).2
  | 0, fs, hn, _ => by
    have : fs = [] := List.length_eq_zero_iff.mp hn
    subst this
    refine ⟨fun q hq => ?_, ⟨by decide, by decide⟩⟩
    simp [rawR] at hq
    subst hq
    decide
  | n + 1, fs, hn, hv => by
    have hne : fs ≠ [] := fun e => by subst e; simp at hn
    have e := (List.dropLast_concat_getLast hne).symm
    have hl : fs.dropLast.length = n := by rw [List.length_dropLast]; omega
    obtain ⟨h1, h2⟩ := raw_sv0 n fs.dropLast hl fun f hf => hv f ((List.dropLast_sublist fs).subset hf)
    have fv := hv _ (List.getLast_mem hne)
    rw [e, rawR_snoc]
    refine ⟨add_nn (in1_mul h2 fv.op).1 h1 fun q hq => ?_, in1_mul h2 (in1_sub fv.op)⟩
    simp [Frg.col] at hq
    rcases hq with rfl | rfl | rfl
    · exact fv.r.1
    · exact fv.g.1
    · exact fv.b.1
theorem raw_sv {n : Nat} {fs : List Frg} (h : Ly n fs) (hn : n ≤ 5) : Sv (rawR fs) := by
  have h5 := Nat.le_trans h.l hn
  obtain ⟨s1, s2⟩ := rawR_sz fs.length fs rfl h5 h.v
  obtain ⟨n1, n2⟩ := raw_sv0 fs.length fs rfl h.v
  exact ⟨rawR_len fs, n1, n2, fun q hq => (s1 q hq).mono (by omega), s2.mono (by omega)⟩
/-- a small sheet -/
structure Ss (s : List Rat × Rat) : Prop where
  l3 : s.1.length = 3
  nn : ∀ q, q ∈ s.1 → 0 ≤ q
  w : In1 s.2
  sc : Szs 20 s.1
  sw : Sz 20 s.2
theorem Ss.sv {s : List Rat × Rat} (h : Ss s) : Sv s := ⟨h.l3, h.nn, h.w, fun q hq => (h.sc q hq).mono (by omega), h.sw.mono (by omega)⟩
theorem ss_lay {s t : List Rat × Rat} (hs : Ss s) (ht : Ss t) : Sv (layR s t) :=
  ⟨lay_len hs.l3 ht.l3, add_nn hs.w.1 hs.nn ht.nn, in1_mul hs.w ht.w, fun q hq => (szs_add hs.sc ht.sc hs.sw q hq).mono (by omega), (sz_mul hs.sw ht.sw).mono (by omega)⟩
theorem ss_clear : Ss ([0, 0, 0], 1) := ⟨rfl, fun q hq => by simp at hq; subst hq; decide, ⟨by decide, by decide⟩, fun q hq => by simp at hq; subst hq; exact sz_zero.mono (by omega), sz_one.mono (by omega)⟩
theorem sl_to (fs : List Frg) (k : Nat) : slD (frs fs) none (some (k : Int)) = some (frs (fs.take k)) := by
  show some (D.tup (cutD (fs.map fr) none (some (k : Int)))) = _
  unfold cutD
  rw [show HT.sIx (fs.map fr).length (fs.map fr).length (some (k : Int)) = min k (fs.map fr).length from HT.sIx_nat _ _ _, show HT.sIx (fs.map fr).length 0 none = 0 from rfl, List.drop_zero, Nat.sub_zero]
  rw [← List.take_eq_take_min, ← List.map_take]; rfl
theorem sl_fm (fs : List Frg) (k : Nat) : slD (frs fs) (some (k : Int)) none = some (frs (fs.drop k)) := by
  show some (D.tup (cutD (fs.map fr) (some (k : Int)) none)) = _
  have := sl_from (xs := fs.map fr) k
  have h2 : (D.own (cutD (fs.map fr) (some (k : Int)) none)) = .own ((fs.map fr).drop k) := Option.some.inj this
  injection h2 with h2
  rw [h2, ← List.map_drop]; rfl
end Q.K26
end

section
set_option maxRecDepth 100000
set_option maxHeartbeats 4000000
set_option exponentiation.threshold 70
/-! M27m: over, dot. -/
namespace Q.K26
open PySem L2 Q
section
variable {L : Nat} (hL : 2 ^ 9000 ≤ L)
include hL
theorem common_ok2 {n : Nat} (hn : 1 ≤ n) (a b : Int) (hb : b.natAbs < 2 ^ 9000) : Pu L n 3 [.int a, .int b] (.int (Int.gcd a b)) :=
  Pu.run (f := ⟨2, 2, i3⟩) hn rfl fun m e bx => common_run2 _ _ _ _ _ (Nat.lt_of_lt_of_le hb hL)
theorem share_ok2 {n : Nat} (hn : 2 ≤ n) (t : Int) (b : Nat) (h0 : b ≠ 0) (hb : b < 2 ^ 9000) : Pu L n 4 [.int t, .int (-(b : Int))] (sh (Rat.normalize (-t) b h0)) :=
  Pu.run (f := ⟨2, 3, i4⟩) (by omega) rfl fun m e bx => share_neg _ _ _ _ _ _ h0 hb (common_ok2 hL (by omega) t (-(b : Int)) (by rw [Int.natAbs_neg]; simpa using hb) bx)
end
theorem div_pos {p q : Rat} (h : 0 < q.num) (h0 : p.den * q.num.natAbs ≠ 0) : p / q = Rat.normalize (p.num * q.den) (p.den * q.num.natAbs) h0 := by
  rw [Rat.div_def, Rat.normalize_eq_mkRat, Rat.mul_def, Rat.normalize_eq_mkRat, Rat.num_inv, Rat.den_inv]
  have : q.num.sign = 1 := Int.sign_eq_one_of_pos h
  rw [this, Int.one_mul, if_neg (by omega)]
theorem div_neg {p q : Rat} (h : q.num < 0) (h0 : p.den * q.num.natAbs ≠ 0) : p / q = Rat.normalize (-(p.num * q.den)) (p.den * q.num.natAbs) h0 := by
  rw [Rat.div_def, Rat.normalize_eq_mkRat, Rat.mul_def, Rat.normalize_eq_mkRat, Rat.num_inv, Rat.den_inv]
  have : q.num.sign = -1 := Int.sign_eq_neg_one_of_neg h
  rw [this, if_neg (by omega)]
  congr 1
  simp
  exact Int.mul_neg _ _
section
variable {L : Nat} (hL : 2 ^ 9000 ≤ L)
include hL
theorem over_ok {n k m : Nat} (hn : 3 ≤ n) {p q : Rat} (hp : Sz k p) (hq : Sz m q) (h : k + m ≤ 9000) (hz : q ≠ 0) : Pu L n 9 [sh p, sh q] (sh (p / q)) :=
  Pu.mk (f := ⟨2, 2, i9⟩) (by omega) rfl rfl fun j e bx => by
    have hq0 : q.num ≠ 0 := fun z => hz (Rat.num_eq_zero.mp z)
    have hb : p.den * q.num.natAbs < 2 ^ 9000 := Nat.lt_of_lt_of_le (by rw [Nat.pow_add]; exact Nat.mul_lt_mul'' hp.2 hq.1 : p.den * q.num.natAbs < 2 ^ (k + m)) (Nat.pow_le_pow_right (by omega) h)
    have h0 : p.den * q.num.natAbs ≠ 0 := Nat.mul_ne_zero p.den_nz (by omega)
    have m1 := mulOk_of (i := p.num) (j := (q.den : Int)) (m := m) hp.1 (by simpa using hq.2) (by omega)
    have m2 := mulOk_of (i := (p.den : Int)) (j := q.num) (k := k) (m := m) (by simpa using hp.2) hq.1 (by omega)
    refine ⟨[some (sh p), some (sh q)], ?_⟩
    rcases Int.lt_or_gt_of_ne hq0 with hn' | hp'
    · have hc := (share_ok2 hL (n := j) (by omega) (p.num * q.den) (p.den * q.num.natAbs) h0 hb).r [some (sh p), some (sh q)] bx
      rw [div_neg hn' h0]
      rw [show -((p.den * q.num.natAbs : Nat) : Int) = (p.den : Int) * q.num by rw [Int.natCast_mul, ← Int.mul_neg]; congr 1; omega] at hc
      simp [i9, startL, sh, atI, ixN, m1, m2] at hc ⊢
      rw [hc]; rfl
    · have hc := (share_ok hL (n := j) (by omega) (p.num * q.den) (p.den * q.num.natAbs) h0 hb).r [some (sh p), some (sh q)] bx
      rw [div_pos hp' h0]
      rw [show ((p.den * q.num.natAbs : Nat) : Int) = (p.den : Int) * q.num by rw [Int.natCast_mul]; congr 1; omega] at hc
      simp [i9, startL, sh, atI, ixN, m1, m2] at hc ⊢
      rw [hc]; rfl
theorem dot_ok {n k : Nat} (hn : 4 ≤ n) {a b c d e f : Rat} (ha : Sz k a) (hb : Sz k b) (hc : Sz k c) (hd : Sz k d) (he : Sz k e) (hf : Sz k f) (h : k ≤ 1000) : Pu L n 13 [shs [a, b, c], shs [d, e, f]] (sh (a * d + b * e + c * f)) :=
  Pu.mk (f := ⟨2, 2, i13⟩) (by omega) rfl rfl fun j ej bx => by
    have t1 := times_ok hL (n := j) (by omega) ha hd (by omega)
    have t2 := times_ok hL (n := j) (by omega) hb he (by omega)
    have t3 := times_ok hL (n := j) (by omega) hc hf (by omega)
    have s1 := sz_add (sz_mul ha hd) (sz_mul hb he)
    have p1 := plus_ok hL (n := j) (by omega) (sz_mul ha hd) (sz_mul hb he) (by omega)
    have p2 := plus_ok hL (n := j) (by omega) s1 (sz_mul hc hf) (by omega)
    refine ⟨[some (shs [a, b, c]), some (shs [d, e, f])], ?_⟩
    have g0 := t1.r [some (shs [a, b, c]), some (shs [d, e, f])] bx
    have g1 := t2.r [some (shs [a, b, c]), some (shs [d, e, f])] bx
    have g2 := t3.r [some (shs [a, b, c]), some (shs [d, e, f])] bx
    have g3 := p1.r [some (shs [a, b, c]), some (shs [d, e, f])] bx
    have g4 := p2.r [some (shs [a, b, c]), some (shs [d, e, f])] bx
    simp only [shs, List.map] at g0 g1 g2 g3 g4 ⊢
    simp [i13, startL, atI, ixN, g0, g1, g2, g3, g4]
end
end Q.K26
end

section
set_option maxRecDepth 100000
set_option maxHeartbeats 4000000
set_option exponentiation.threshold 70
/-! M27n: cross. -/
namespace Q.K26
open PySem L2 Q
section
variable {L : Nat} (hL : 2 ^ 9000 ≤ L)
include hL
theorem cross_ok {n k : Nat} (hn : 4 ≤ n) {a b c d e f : Rat} (ha : Sz k a) (hb : Sz k b) (hc : Sz k c) (hd : Sz k d) (he : Sz k e) (hf : Sz k f) (h : k ≤ 500) : Pu L n 14 [shs [a, b, c], shs [d, e, f]] (shs [b * f - c * e, c * d - a * f, a * e - b * d]) :=
  Pu.mk (f := ⟨2, 6, i14⟩) (by omega) rfl rfl fun j ej bx => by
    have u1 := times_ok hL (n := j) (by omega) hb hf (by omega)
    have u2 := times_ok hL (n := j) (by omega) hc he (by omega)
    have u3 := times_ok hL (n := j) (by omega) hc hd (by omega)
    have u4 := times_ok hL (n := j) (by omega) ha hf (by omega)
    have u5 := times_ok hL (n := j) (by omega) ha he (by omega)
    have u6 := times_ok hL (n := j) (by omega) hb hd (by omega)
    have v1 := minus_ok hL (n := j) (by omega) (sz_mul hb hf) (sz_mul hc he) (by omega)
    have v2 := minus_ok hL (n := j) (by omega) (sz_mul hc hd) (sz_mul ha hf) (by omega)
    have v3 := minus_ok hL (n := j) (by omega) (sz_mul ha he) (sz_mul hb hd) (by omega)
    have d3 : divOk 3 = true := divOk_of (by omega) (Nat.lt_of_lt_of_le (by omega : (3 : Int).natAbs < 2 ^ 2) (Nat.pow_le_pow_right (by omega) (by omega)))
    have r3 : rngOk 0 3 = true := rfl
    have rr : rangeD 0 3 = [.int 0, .int 1, .int 2] := rfl
    refine ⟨[some (shs [a, b, c]), some (shs [d, e, f]), some (.lst [sh (b * f - c * e), sh (c * d - a * f), sh (a * e - b * d)]), some (.int 2), some (.int 0), some (.int 1)], ?_⟩
    simp only [shs, List.map]
    simp [i14, startL, atI, ixN, r3, rr, d3, forL, forT, asgT, ownL, mutD, u1.r, u2.r, u3.r, u4.r, u5.r, u6.r, v1.r, v2.r, v3.r]
end
end Q.K26
end

section
set_option maxRecDepth 100000
set_option maxHeartbeats 4000000
set_option exponentiation.threshold 70
/-! M27o: volume, sign_of. -/
namespace Q.K26
open PySem L2 Q
def sgn (q : Rat) : Int := (if 0 < q.num then 1 else 0) - (if q.num < 0 then 1 else 0)
section
variable {L : Nat}
theorem signOf_ok {n : Nat} (hn : 1 ≤ n) (q : Rat) : Pu L n 18 [sh q] (.int (sgn q)) :=
  Pu.mk (f := ⟨1, 1, i18⟩) (by omega) rfl rfl fun j ej bx => by
    refine ⟨[some (sh q)], ?_⟩
    rcases Int.lt_trichotomy q.num 0 with h | h | h
    · have h2 : ¬ (0 < q.num) := by omega
      simp [i18, startL, sh, atI, ixN, sgn, h, h2]
    · simp [i18, startL, sh, atI, ixN, sgn, h]
    · have h2 : ¬ (q.num < 0) := by omega
      simp [i18, startL, sh, atI, ixN, sgn, h, h2]
variable (hL : 2 ^ 9000 ≤ L)
include hL
theorem volume_ok {n k : Nat} (hn : 5 ≤ n) {a b c d e f g h i : Rat} (ha : Sz k a) (hb : Sz k b) (hc : Sz k c) (hd : Sz k d) (he : Sz k e) (hf : Sz k f) (hg : Sz k g) (hh : Sz k h) (hi : Sz k i) (hk : k ≤ 150) :
    Pu L n 16 [shs [a, b, c], shs [d, e, f], shs [g, h, i]] (sh (a * (e * i - f * h) + b * (f * g - d * i) + c * (d * h - e * g))) :=
  Pu.mk (f := ⟨3, 3, i16⟩) (by omega) rfl rfl fun j ej bx => by
    have c1 := cross_ok hL (n := j) (by omega) hd he hf hg hh hi (by omega)
    have mn : ∀ {q : Rat}, Sz k q → Sz (k + k + (k + k) + 1) q := fun z => z.mono (by omega)
    have s1 := sz_sub (sz_mul he hi) (sz_mul hf hh)
    have s2 := sz_sub (sz_mul hf hg) (sz_mul hd hi)
    have s3 := sz_sub (sz_mul hd hh) (sz_mul he hg)
    have d1 := dot_ok hL (n := j) (by omega) (mn ha) (mn hb) (mn hc) s1 s2 s3 (by omega)
    refine ⟨[some (shs [a, b, c]), some (shs [d, e, f]), some (shs [g, h, i])], ?_⟩
    simp [i16, startL, c1.r, d1.r]
end
end Q.K26
end

section
set_option maxRecDepth 100000
set_option maxHeartbeats 4000000
set_option exponentiation.threshold 70
/-! M27p: scaled, less (points). -/
namespace Q.K26
open PySem L2 Q
section
variable {L : Nat} (hL : 2 ^ 9000 ≤ L)
include hL
theorem scaled_ok {n m j : Nat} (hn : 4 ≤ n) {cs : List Rat} {w : Rat} (hc : Szs m cs) (hw : Sz j w) (hk : j + m ≤ 8000) (hl : cs.length ≤ LINE) : Pu L n 29 [shs cs, sh w] (shs (cs.map (w * ·))) :=
  Pu.mk (f := ⟨2, 3, i29⟩) (by omega) rfl rfl fun jj e bx => by
    refine ⟨[some (shs cs), some (sh w), none], ?_⟩
    have hlc : evE (cc L jj) (.lc (.call 8 (.cons (.var 1) (.cons (.var 2) .nil))) (.var 2) (.its (.var 0)) .nil [2]) ⟨[some (shs cs), some (sh w), none], bx⟩ =
        .ok (.own (cs.map fun p => sh (w * p))) ⟨[some (shs cs), some (sh w), none], bx⟩ :=
      lc_mapA cs sh (fun p => sh (w * p)) (by simp [shs]) (by omega) (by simp [S.frzs, S.frz]) fun p hp => by
        have ht := times_ok hL (n := jj) (by omega) hw (hc _ hp) (by omega)
        refine ⟨[some (shs cs), some (sh w), some (sh p)], [some (shs cs), some (sh w), some (sh p)], sh (w * p), ?_, ?_, rfl, ?_⟩
        · simp [asgT, wipeL, sh]
        · simp [ht.r]
        · simp [wipeL]
    simp [i29, startL, hlc]
    simp [shs, Function.comp_def]
theorem vless_ok {n k m : Nat} (hn : 4 ≤ n) {cs ds : List Rat} (hc : Szs k cs) (hd : Szs m ds) (hk : k + m ≤ 8000) (hl : cs.length ≤ LINE) : Pu L n 30 [shs cs, shs ds] (shs ((cs.zip ds).map fun p => p.1 - p.2)) :=
  Pu.mk (f := ⟨2, 4, i30⟩) (by omega) rfl rfl fun jj e bx => by
    refine ⟨[some (shs cs), some (shs ds), none, none], ?_⟩
    have hlc : evE (cc L jj) (.lc (.call 7 (.cons (.var 2) (.cons (.var 3) .nil))) (.tup (.cons (.var 2) (.cons (.var 3) .nil))) (.zip (.var 0) (.var 1)) .nil [2, 3]) ⟨[some (shs cs), some (shs ds), none, none], bx⟩ =
        .ok (.own ((cs.zip ds).map fun p => sh (p.1 - p.2))) ⟨[some (shs cs), some (shs ds), none, none], bx⟩ :=
      lc_mapA (cs.zip ds) (fun p => .tup [sh p.1, sh p.2]) (fun p => sh (p.1 - p.2)) (by simp; unfold shs; simp [zipD_map]) (by rw [List.length_zip]; omega) (by simp [S.frzs, S.frz]) fun p hp => by
        have ht := minus_ok hL (n := jj) (by omega) (hc _ (List.of_mem_zip hp).1) (hd _ (List.of_mem_zip hp).2) (by omega)
        refine ⟨[some (shs cs), some (shs ds), some (sh p.1), some (sh p.2)], [some (shs cs), some (shs ds), some (sh p.1), some (sh p.2)], sh (p.1 - p.2), ?_, ?_, rfl, ?_⟩
        · simp [asgT, asgT.asgTs, wipeL]
        · simp [ht.r]
        · simp [wipeL]
    simp [i30, startL, hlc]
    simp [shs, Function.comp_def]
end
end Q.K26
end

section
set_option maxRecDepth 100000
set_option maxHeartbeats 4000000
set_option exponentiation.threshold 70
/-! M27q: the law's own cross, added, scaled. -/
namespace Q.K26
open PySem L2 Q
section
variable {L : Nat} (hL : 2 ^ 9000 ≤ L)
include hL
end
end Q.K26
end

section
set_option maxRecDepth 100000
set_option maxHeartbeats 4000000
set_option exponentiation.threshold 70
/-! M27r: the sample's ray, both ways. -/
namespace Q.K26
open PySem L2 Q
def half (t : Int) : Rat := Rat.normalize t 2 (by decide)
theorem half_sz {t : Int} (h : t.natAbs < 2 ^ 10) : Sz 10 (half t) := norm_sz _ h (by decide)
def rayR (w h i j : Int) : List Rat := [half (2 * i + 1 - w), half (2 * j + 1 - h), 1]
section
variable {L : Nat} (hL : 2 ^ 9000 ≤ L)
include hL
theorem ray_ok {n : Nat} (hn : 3 ≤ n) {w h i j : Int} (hi : i.natAbs < 2 ^ 8) (hj : j.natAbs < 2 ^ 8) : Pu L n 23 [.int w, .int h, .tup [.int i, .int j]] (shs (rayR w h i j)) :=
  Pu.mk (f := ⟨3, 3, i23⟩) (by omega) rfl rfl fun jj e bx => by
    have two : (2 : Nat) < 2 ^ 9000 := Nat.lt_of_lt_of_le (by omega : 2 < 2 ^ 2) (Nat.pow_le_pow_right (by omega) (by omega))
    have s1 := share_ok hL (n := jj) (by omega) (2 * i + 1 - w) 2 (by decide) two
    have s2 := share_ok hL (n := jj) (by omega) (2 * j + 1 - h) 2 (by decide) two
    have m1 := mulOk_of (i := 2) (j := i) (k := 2) (m := 8) (by decide) hi (by omega)
    have m2 := mulOk_of (i := 2) (j := j) (k := 2) (m := 8) (by decide) hj (by omega)
    have g1 : prg.gb 1 = some (sh 1) := rfl
    refine ⟨[some (.int w), some (.int h), some (.tup [.int i, .int j])], ?_⟩
    have t1 := s1.r [some (.int w), some (.int h), some (.tup [.int i, .int j])] bx
    have t2 := s2.r [some (.int w), some (.int h), some (.tup [.int i, .int j])] bx
    have c2 : ((2 : Nat) : Int) = 2 := rfl
    rw [c2] at t1 t2
    simp [i23, startL, atI, ixN, m1, m2, t1, t2, cc, g1]
    rfl
end
end Q.K26
end

section
set_option maxRecDepth 100000
set_option maxHeartbeats 4000000
set_option exponentiation.threshold 70
/-! M27s: the law's own dot and turn. -/
namespace Q.K26
open PySem L2 Q
section
variable {L : Nat} (hL : 2 ^ 9000 ≤ L)
include hL
end
end Q.K26
end

section
set_option maxRecDepth 100000
set_option maxHeartbeats 4000000
set_option exponentiation.threshold 70
/-! M27t: the moved sign, both ways. -/
namespace Q.K26
open PySem L2 Q
def mvS (x y z : Rat) : Int := if sgn x ≠ 0 then sgn x else if sgn y ≠ 0 then sgn y else sgn z
section
variable {L : Nat} (hL : 2 ^ 9000 ≤ L)
include hL
theorem moved_ok {n k : Nat} (hn : 5 ≤ n) {a b c d e f : Rat} (ha : Sz k a) (hb : Sz k b) (hc : Sz k c) (hd : Sz k d) (he : Sz k e) (hf : Sz k f) (h : k ≤ 500) : Pu L n 25 [shs [a, b, c], shs [d, e, f]] (.int (mvS (a * d + b * e + c * f) a b)) :=
  Pu.mk (f := ⟨2, 3, i25⟩) (by omega) rfl rfl fun j ej bx => by
    have d1 := dot_ok hL (n := j) (by omega) ha hb hc hd he hf (by omega)
    generalize a * d + b * e + c * f = x at d1 ⊢
    have s1 := signOf_ok (L := L) (n := j) (by omega) x
    have s2 := signOf_ok (L := L) (n := j) (by omega) a
    have s3 := signOf_ok (L := L) (n := j) (by omega) b
    have fz : ∀ q : Rat, (sh q).frz = sh q := fun q => rfl
    by_cases h1 : sgn x ≠ 0
    · refine ⟨[some (shs [a, b, c]), some (shs [d, e, f]), some (sh x)], ?_⟩
      simp only [shs, List.map] at d1 ⊢
      simp [i25, startL, atI, ixN, d1.r, s1.r, s2.r, s3.r, forL, forT, asgT, fz, mvS, h1]
    · by_cases h2 : sgn a ≠ 0
      · refine ⟨[some (shs [a, b, c]), some (shs [d, e, f]), some (sh a)], ?_⟩
        simp only [shs, List.map] at d1 ⊢
        simp [i25, startL, atI, ixN, d1.r, s1.r, s2.r, s3.r, forL, forT, asgT, fz, mvS, h1, h2] at h1 ⊢
      · refine ⟨[some (shs [a, b, c]), some (shs [d, e, f]), some (sh b)], ?_⟩
        simp only [shs, List.map] at d1 ⊢
        simp at h1 h2
        by_cases h3 : sgn b = 0
        · simp [i25, startL, atI, ixN, d1.r, s1.r, s2.r, s3.r, forL, forT, asgT, fz, mvS, h1, h2, h3]
        · simp [i25, startL, atI, ixN, d1.r, s1.r, s2.r, s3.r, forL, forT, asgT, fz, mvS, h1, h2, h3]
end
end Q.K26
end

section
set_option maxRecDepth 100000
set_option maxHeartbeats 4000000
set_option exponentiation.threshold 70
/-! M27u: the law's own sign. -/
namespace Q.K26
open PySem L2 Q
theorem sgn_pos {q : Rat} (h : 0 < q.num) : sgn q = 1 := by
  have h2 : ¬ (q.num < 0) := by omega
  simp [sgn, h, h2]
theorem sgn_neg {q : Rat} (h : q.num < 0) : sgn q = -1 := by
  have h2 : ¬ (0 < q.num) := by omega
  simp [sgn, h, h2]
theorem sgn_zero {q : Rat} (h : q.num = 0) : sgn q = 0 := by simp [sgn, h]
theorem sumR_dot (a b c d e f : Rat) : sumR ((([a, b, c] : List Rat).zip [d, e, f]).map fun p => p.1 * p.2) = a * d + b * e + c * f := by
  simp [sumR, Rat.zero_add]
section
variable {L : Nat} (hL : 2 ^ 9000 ≤ L)
include hL
end
end Q.K26
end

section
set_option maxRecDepth 100000
set_option maxHeartbeats 4000000
set_option exponentiation.threshold 70
/-! M27v: sum_of, one turn. -/
namespace Q.K26
open PySem L2 Q
section
variable {L : Nat} (hL : 2 ^ 9000 ≤ L)
include hL
theorem sumStep {j k m : Nat} (hj : 4 ≤ j) {cs ds : List Rat} {p : D} (hc : Szs k cs) (hd : Szs m ds) (hk : k + m ≤ 8000) (hl : cs.length ≤ LINE) (bx : List (List D)) :
    evE (cc L j) (.lc (.call 6 (.cons (.var 3) (.cons (.var 4) .nil))) (.tup (.cons (.var 3) (.cons (.var 4) .nil))) (.zip (.var 1) (.var 2)) .nil [3, 4]) ⟨[some p, some (shs cs), some (shs ds), none, none], bx⟩ =
        .ok (.own ((cs.zip ds).map fun p => sh (p.1 + p.2))) ⟨[some p, some (shs cs), some (shs ds), none, none], bx⟩ :=
  lc_mapA (cs.zip ds) (fun p => .tup [sh p.1, sh p.2]) (fun p => sh (p.1 + p.2)) (by simp; unfold shs; simp [zipD_map]) (by rw [List.length_zip]; omega) (by simp [S.frzs, S.frz]) fun q hp => by
    have ht := plus_ok hL (n := j) (by omega) (hc _ (List.of_mem_zip hp).1) (hd _ (List.of_mem_zip hp).2) (by omega)
    refine ⟨[some p, some (shs cs), some (shs ds), some (sh q.1), some (sh q.2)], [some p, some (shs cs), some (shs ds), some (sh q.1), some (sh q.2)], sh (q.1 + q.2), ?_, ?_, rfl, ?_⟩
    · simp [asgT, asgT.asgTs, wipeL]
    · simp [ht.r]
    · simp [wipeL]
end
end Q.K26
end

section
set_option maxRecDepth 100000
set_option maxHeartbeats 4000000
set_option exponentiation.threshold 70
/-! M27w: the geometry, in plain rationals. -/
namespace Q.K26
theorem numpos {q : Rat} : 0 < q.num ↔ 0 < q := by
  rw [Rat.lt_iff]; simp
theorem numneg {q : Rat} : q.num < 0 ↔ q < 0 := by
  rw [Rat.lt_iff]; simp
theorem sgn_eq (q : Rat) : sgn q = if 0 < q then 1 else if q < 0 then -1 else 0 := by
  unfold sgn; simp only [numpos, numneg]
  by_cases h : 0 < q
  · have : ¬ q < 0 := by grind
    simp [h, this]
  · by_cases h2 : q < 0 <;> simp [h, h2]
/-- what the moved sign says of the number itself -/
theorem mv_pos {x y z : Rat} (h : mvS x y z = 1) : 0 ≤ x := by
  unfold mvS at h; simp only [sgn_eq] at h
  grind
theorem mv_neg {x y z : Rat} (h : mvS x y z = -1) : x ≤ 0 := by
  unfold mvS at h; simp only [sgn_eq] at h
  grind
theorem mv_three (x y z : Rat) : mvS x y z = 1 ∨ mvS x y z = 0 ∨ mvS x y z = -1 := by
  unfold mvS; simp only [sgn_eq]
  grind
theorem mv_of_pos {x y z : Rat} (h : 0 < x) : mvS x y z = 1 := by
  unfold mvS; simp only [sgn_eq]
  grind
theorem mv_of_neg {x y z : Rat} (h : x < 0) : mvS x y z = -1 := by
  unfold mvS; simp only [sgn_eq]
  grind
structure V where
  x : Rat
  y : Rat
  z : Rat
namespace V
def dot (a b : V) : Rat := a.x * b.x + a.y * b.y + a.z * b.z
def crs (a b : V) : V := ⟨a.y * b.z - a.z * b.y, a.z * b.x - a.x * b.z, a.x * b.y - a.y * b.x⟩
def add (a b : V) : V := ⟨a.x + b.x, a.y + b.y, a.z + b.z⟩
def sub (a b : V) : V := ⟨a.x - b.x, a.y - b.y, a.z - b.z⟩
def smul (w : Rat) (a : V) : V := ⟨w * a.x, w * a.y, w * a.z⟩
def mv (a r : V) : Int := mvS (a.dot r) a.x a.y
end V
def vol (a b c : V) : Rat := a.dot (b.crs c)
theorem cramer_x (p q s r : V) : vol p q s * r.x = (q.crs s).dot r * p.x + (s.crs p).dot r * q.x + (p.crs q).dot r * s.x := by
  simp only [vol, V.dot, V.crs]; grind
theorem cramer_y (p q s r : V) : vol p q s * r.y = (q.crs s).dot r * p.y + (s.crs p).dot r * q.y + (p.crs q).dot r * s.y := by
  simp only [vol, V.dot, V.crs]; grind
theorem cramer_z (p q s r : V) : vol p q s * r.z = (q.crs s).dot r * p.z + (s.crs p).dot r * q.z + (p.crs q).dot r * s.z := by
  simp only [vol, V.dot, V.crs]; grind
def whole (p q s : V) : V := ((q.crs s).add (s.crs p)).add (p.crs q)
theorem whole_dot (p q s r : V) : (whole p q s).dot r = (q.crs s).dot r + (s.crs p).dot r + (p.crs q).dot r := by
  simp only [whole, V.dot, V.add]; grind
theorem div_nonneg {a b : Rat} (ha : 0 ≤ a) (hb : 0 < b) : 0 ≤ a / b := by
  rw [Rat.div_def]; exact Rat.mul_nonneg ha (Rat.le_of_lt (Rat.inv_pos.mpr hb))
theorem div_nonneg' {a b : Rat} (ha : a ≤ 0) (hb : b < 0) : 0 ≤ a / b := by
  have : a / b = (-a) / (-b) := by grind
  rw [this]; exact div_nonneg (by grind) (by grind)
section
variable {p q s r : V} (hz : r.z = 1) (ht : vol p q s ≠ 0) 
  (h1 : (q.crs s).mv r = (whole p q s).mv r) (h2 : (s.crs p).mv r = (whole p q s).mv r) (h3 : (p.crs q).mv r = (whole p q s).mv r)
  (h4 : (whole p q s).mv r = sgn (vol p q s))
theorem all_zero {a b c : Rat} (ha : 0 ≤ a) (hb : 0 ≤ b) (hc : 0 ≤ c) (h : a + b + c = 0) : a = 0 ∧ b = 0 ∧ c = 0 := by
  refine ⟨?_, ?_, ?_⟩ <;> grind
theorem all_zero' {a b c : Rat} (ha : a ≤ 0) (hb : b ≤ 0) (hc : c ≤ 0) (h : a + b + c = 0) : a = 0 ∧ b = 0 ∧ c = 0 := by
  refine ⟨?_, ?_, ?_⟩ <;> grind
include hz ht h1 h2 h3 h4
theorem signs : (0 ≤ (q.crs s).dot r ∧ 0 ≤ (s.crs p).dot r ∧ 0 ≤ (p.crs q).dot r ∧ 0 < vol p q s ∧ (whole p q s).mv r = 1) ∨
    ((q.crs s).dot r ≤ 0 ∧ (s.crs p).dot r ≤ 0 ∧ (p.crs q).dot r ≤ 0 ∧ vol p q s < 0 ∧ (whole p q s).mv r = -1) := by
  rw [sgn_eq] at h4
  by_cases hp : 0 < vol p q s
  · simp only [hp, if_true] at h4
    rw [h4] at h1 h2 h3
    exact .inl ⟨mv_pos h1, mv_pos h2, mv_pos h3, hp, h4⟩
  · have hn : vol p q s < 0 := by grind
    simp only [hp, hn, if_true, if_false] at h4
    rw [h4] at h1 h2 h3
    exact .inr ⟨mv_neg h1, mv_neg h2, mv_neg h3, hn, h4⟩
theorem whole_ne : (whole p q s).dot r ≠ 0 := by
  intro h0
  rw [whole_dot] at h0
  have hc := cramer_z p q s r
  have key : (q.crs s).dot r = 0 ∧ (s.crs p).dot r = 0 ∧ (p.crs q).dot r = 0 := by
    rcases signs hz ht h1 h2 h3 h4 with ⟨a, b, c, _, _⟩ | ⟨a, b, c, _, _⟩
    · exact all_zero a b c h0
    · exact all_zero' a b c h0
  rw [key.1, key.2.1, key.2.2, hz] at hc
  apply ht; grind
theorem whole_sgn : (0 < (whole p q s).dot r ∧ 0 < vol p q s) ∨ ((whole p q s).dot r < 0 ∧ vol p q s < 0) := by
  have hn := whole_ne hz ht h1 h2 h3 h4
  have hd := whole_dot p q s r
  rcases signs hz ht h1 h2 h3 h4 with ⟨a, b, c, d, _⟩ | ⟨a, b, c, d, _⟩
  · left; refine ⟨?_, d⟩; grind
  · right; refine ⟨?_, d⟩; grind
theorem weights_one : (q.crs s).dot r / (whole p q s).dot r + (s.crs p).dot r / (whole p q s).dot r + (p.crs q).dot r / (whole p q s).dot r = 1 := by
  have hn := whole_ne hz ht h1 h2 h3 h4
  have hd := whole_dot p q s r
  grind
theorem weights_ge : 0 ≤ (q.crs s).dot r / (whole p q s).dot r ∧ 0 ≤ (s.crs p).dot r / (whole p q s).dot r ∧ 0 ≤ (p.crs q).dot r / (whole p q s).dot r := by
  have hw := whole_sgn hz ht h1 h2 h3 h4
  rcases signs hz ht h1 h2 h3 h4 with ⟨a, b, c, d, _⟩ | ⟨a, b, c, d, _⟩
  · have hp : 0 < (whole p q s).dot r := by grind
    exact ⟨div_nonneg a hp, div_nonneg b hp, div_nonneg c hp⟩
  · have hp : (whole p q s).dot r < 0 := by grind
    exact ⟨div_nonneg' a hp, div_nonneg' b hp, div_nonneg' c hp⟩
theorem there_x : vol p q s / (whole p q s).dot r * r.x = (q.crs s).dot r / (whole p q s).dot r * p.x + (s.crs p).dot r / (whole p q s).dot r * q.x + (p.crs q).dot r / (whole p q s).dot r * s.x := by
  have hn := whole_ne hz ht h1 h2 h3 h4
  have hc := cramer_x p q s r
  grind
theorem there_y : vol p q s / (whole p q s).dot r * r.y = (q.crs s).dot r / (whole p q s).dot r * p.y + (s.crs p).dot r / (whole p q s).dot r * q.y + (p.crs q).dot r / (whole p q s).dot r * s.y := by
  have hn := whole_ne hz ht h1 h2 h3 h4
  have hc := cramer_y p q s r
  grind
theorem there_z : vol p q s / (whole p q s).dot r * r.z = (q.crs s).dot r / (whole p q s).dot r * p.z + (s.crs p).dot r / (whole p q s).dot r * q.z + (p.crs q).dot r / (whole p q s).dot r * s.z := by
  have hn := whole_ne hz ht h1 h2 h3 h4
  have hc := cramer_z p q s r
  grind
theorem depth_ge (hk : ¬ ((V.sub (V.smul (vol p q s) ⟨0, 0, 1⟩) (V.smul 1 (whole p q s))).mv r * (whole p q s).mv r < 0)) : ¬ (vol p q s / (whole p q s).dot r < 1) := by
  have hx : (V.sub (V.smul (vol p q s) ⟨0, 0, 1⟩) (V.smul 1 (whole p q s))).dot r = vol p q s - (whole p q s).dot r := by
    simp only [V.dot, V.sub, V.smul]; grind
  have hw := whole_sgn hz ht h1 h2 h3 h4
  intro hlt
  apply hk
  rcases signs hz ht h1 h2 h3 h4 with ⟨_, _, _, d, e⟩ | ⟨_, _, _, d, e⟩
  · have hp : 0 < (whole p q s).dot r := by grind
    have : vol p q s < (whole p q s).dot r := by
      have := (Rat.div_lt_iff hp).mp hlt
      grind
    have hm : (V.sub (V.smul (vol p q s) ⟨0, 0, 1⟩) (V.smul 1 (whole p q s))).mv r = -1 := mv_of_neg (by rw [hx]; grind)
    rw [hm, e]; decide
  · have hp : (whole p q s).dot r < 0 := by grind
    have : (whole p q s).dot r < vol p q s := by
      have h5 : vol p q s / (whole p q s).dot r = (- vol p q s) / (- (whole p q s).dot r) := by grind
      rw [h5] at hlt
      have := (Rat.div_lt_iff (by grind : 0 < - (whole p q s).dot r)).mp hlt
      grind
    have hm : (V.sub (V.smul (vol p q s) ⟨0, 0, 1⟩) (V.smul 1 (whole p q s))).mv r = 1 := mv_of_pos (by rw [hx]; grind)
    rw [hm, e]; decide
end
theorem mul_zero' {a b : Rat} (hb : 0 < b) (h : a * b = 0) : a = 0 := by
  rcases Rat.mul_eq_zero.mp h with h | h
  · exact h
  · grind
theorem betw {a b c u v w : Rat} (ha : 0 ≤ a) (hb : 0 ≤ b) (hc : 0 ≤ c) (h1 : a + b + c = 1) :
    ¬ (a * u + b * v + c * w < u ∧ a * u + b * v + c * w < v ∧ a * u + b * v + c * w < w) := by
  rintro ⟨x, y, z⟩
  generalize hm : a * u + b * v + c * w = m at *
  have e : a * (u - m) + b * (v - m) + c * (w - m) = 0 := by grind
  have n1 := Rat.mul_nonneg ha (by grind : 0 ≤ u - m)
  have n2 := Rat.mul_nonneg hb (by grind : 0 ≤ v - m)
  have n3 := Rat.mul_nonneg hc (by grind : 0 ≤ w - m)
  have := all_zero n1 n2 n3 e
  have a0 := mul_zero' (by grind : 0 < u - m) this.1
  have b0 := mul_zero' (by grind : 0 < v - m) this.2.1
  have c0 := mul_zero' (by grind : 0 < w - m) this.2.2
  grind
theorem betw' {a b c u v w : Rat} (ha : 0 ≤ a) (hb : 0 ≤ b) (hc : 0 ≤ c) (h1 : a + b + c = 1) :
    ¬ (u < a * u + b * v + c * w ∧ v < a * u + b * v + c * w ∧ w < a * u + b * v + c * w) := by
  rintro ⟨x, y, z⟩
  have := betw (u := -u) (v := -v) (w := -w) ha hb hc h1
  grind
end Q.K26
end

section
set_option maxRecDepth 100000
set_option maxHeartbeats 4000000
set_option exponentiation.threshold 70
/-! M27x: points as vectors. -/
namespace Q.K26
open PySem L2 Q
namespace V
def d (v : V) : D := shs [v.x, v.y, v.z]
def Z (k : Nat) (v : V) : Prop := Sz k v.x ∧ Sz k v.y ∧ Sz k v.z
theorem Z.mono {j k : Nat} {v : V} (h : Z j v) (hk : j ≤ k) : Z k v := ⟨h.1.mono hk, h.2.1.mono hk, h.2.2.mono hk⟩
theorem Z.s {k : Nat} {v : V} (h : Z k v) : Szs k [v.x, v.y, v.z] := fun q hq => by
  simp at hq
  rcases hq with rfl | rfl | rfl
  · exact h.1
  · exact h.2.1
  · exact h.2.2
theorem z_crs {k m : Nat} {a b : V} (ha : Z k a) (hb : Z m b) : Z (2 * (k + m) + 1) (a.crs b) :=
  ⟨(sz_sub (sz_mul ha.2.1 hb.2.2) (sz_mul ha.2.2 hb.2.1)).mono (by omega), (sz_sub (sz_mul ha.2.2 hb.1) (sz_mul ha.1 hb.2.2)).mono (by omega), (sz_sub (sz_mul ha.1 hb.2.1) (sz_mul ha.2.1 hb.1)).mono (by omega)⟩
theorem z_dot {k m : Nat} {a b : V} (ha : Z k a) (hb : Z m b) : Sz (3 * (k + m) + 2) (a.dot b) :=
  (sz_add (sz_add (sz_mul ha.1 hb.1) (sz_mul ha.2.1 hb.2.1)) (sz_mul ha.2.2 hb.2.2)).mono (by omega)
theorem z_add {k m : Nat} {a b : V} (ha : Z k a) (hb : Z m b) : Z (k + m + 1) (a.add b) := ⟨sz_add ha.1 hb.1, sz_add ha.2.1 hb.2.1, sz_add ha.2.2 hb.2.2⟩
theorem z_sub {k m : Nat} {a b : V} (ha : Z k a) (hb : Z m b) : Z (k + m + 1) (a.sub b) := ⟨sz_sub ha.1 hb.1, sz_sub ha.2.1 hb.2.1, sz_sub ha.2.2 hb.2.2⟩
theorem z_smul {k m : Nat} {w : Rat} {a : V} (hw : Sz k w) (ha : Z m a) : Z (k + m) (V.smul w a) := ⟨sz_mul hw ha.1, sz_mul hw ha.2.1, sz_mul hw ha.2.2⟩
end V
@[simp] theorem vd_frz (v : V) : v.d.frz = v.d := rfl
@[simp] theorem vd_own (v : V) : v.d.isOwn = false := rfl
@[simp] theorem gv_vd (l : List (Option D)) (b : List (List D)) (i : Nat) (v : V) : gv (some (some v.d)) l b i = .ok v.d ⟨l, b⟩ := rfl
@[simp] theorem ctD_vd (bx : List (List D)) (v : V) : ctD bx v.d = some v.d := rfl
@[simp] theorem vd_items (v : V) : v.d.items = some [sh v.x, sh v.y, sh v.z] := rfl
@[simp] theorem ix_vd0 (v : V) : ixD v.d (.int 0) = some (sh v.x) := rfl
@[simp] theorem ix_vd1 (v : V) : ixD v.d (.int 1) = some (sh v.y) := rfl
@[simp] theorem ix_vd2 (v : V) : ixD v.d (.int 2) = some (sh v.z) := rfl
theorem z_vol {k : Nat} {a b c : V} (ha : a.Z k) (hb : b.Z k) (hc : c.Z k) : Sz (15 * k + 5) (vol a b c) := (V.z_dot ha (V.z_crs hb hc)).mono (by omega)
theorem z_whole {k : Nat} {p q s : V} (hp : p.Z k) (hq : q.Z k) (hs : s.Z k) : (whole p q s).Z (12 * k + 5) := (V.z_add (V.z_add (V.z_crs hq hs) (V.z_crs hs hp)) (V.z_crs hp hq)).mono (by omega)
section
variable {L : Nat} (hL : 2 ^ 9000 ≤ L)
include hL
theorem dotV {n k m : Nat} (hn : 4 ≤ n) {a b : V} (ha : a.Z k) (hb : b.Z m) (h : k + m ≤ 1000) : Pu L n 13 [a.d, b.d] (sh (a.dot b)) := by
  have ha := ha.mono (by omega : k ≤ k + m)
  have hb := hb.mono (by omega : m ≤ k + m)
  exact dot_ok hL hn ha.1 ha.2.1 ha.2.2 hb.1 hb.2.1 hb.2.2 h
theorem crsV {n k m : Nat} (hn : 4 ≤ n) {a b : V} (ha : a.Z k) (hb : b.Z m) (h : k + m ≤ 500) : Pu L n 14 [a.d, b.d] (a.crs b).d := by
  have ha := ha.mono (by omega : k ≤ k + m)
  have hb := hb.mono (by omega : m ≤ k + m)
  exact cross_ok hL hn ha.1 ha.2.1 ha.2.2 hb.1 hb.2.1 hb.2.2 h
theorem volV {n k : Nat} (hn : 5 ≤ n) {a b c : V} (ha : a.Z k) (hb : b.Z k) (hc : c.Z k) (h : k ≤ 150) : Pu L n 16 [a.d, b.d, c.d] (sh (vol a b c)) :=
  volume_ok hL hn ha.1 ha.2.1 ha.2.2 hb.1 hb.2.1 hb.2.2 hc.1 hc.2.1 hc.2.2 h
theorem mvV {n k m : Nat} (hn : 5 ≤ n) {a b : V} (ha : a.Z k) (hb : b.Z m) (h : k + m ≤ 500) : Pu L n 25 [a.d, b.d] (.int (a.mv b)) := by
  have ha := ha.mono (by omega : k ≤ k + m)
  have hb := hb.mono (by omega : m ≤ k + m)
  exact moved_ok hL hn ha.1 ha.2.1 ha.2.2 hb.1 hb.2.1 hb.2.2 h
theorem smulV {n k m : Nat} (hn : 4 ≤ n) {a : V} {w : Rat} (ha : a.Z k) (hw : Sz m w) (h : k + m ≤ 8000) : Pu L n 29 [a.d, sh w] (V.smul w a).d :=
  scaled_ok hL hn ha.s hw (by omega) (by show 3 ≤ 16777216; omega)
theorem subV {n k m : Nat} (hn : 4 ≤ n) {a b : V} (ha : a.Z k) (hb : b.Z m) (h : k + m ≤ 8000) : Pu L n 30 [a.d, b.d] (a.sub b).d :=
  vless_ok hL hn ha.s hb.s h (by show 3 ≤ 16777216; omega)
theorem addV {j k m : Nat} (hj : 4 ≤ j) {a b : V} {p : D} (ha : a.Z k) (hb : b.Z m) (hk : k + m ≤ 8000) (bx : List (List D)) :
    evE (cc L j) (.lc (.call 6 (.cons (.var 3) (.cons (.var 4) .nil))) (.tup (.cons (.var 3) (.cons (.var 4) .nil))) (.zip (.var 1) (.var 2)) .nil [3, 4]) ⟨[some p, some a.d, some b.d, none, none], bx⟩ =
        .ok (.own [sh (a.x + b.x), sh (a.y + b.y), sh (a.z + b.z)]) ⟨[some p, some a.d, some b.d, none, none], bx⟩ :=
  sumStep hL hj ha.s hb.s hk (by show 3 ≤ 16777216; omega) bx
end
end Q.K26
end

section
set_option maxRecDepth 100000
set_option maxHeartbeats 4000000
set_option exponentiation.threshold 70
/-! M27y: sums, sides, checks. -/
namespace Q.K26
open PySem L2 Q
@[simp] theorem gb_zero : prg.gb 0 = some (sh 0) := rfl
@[simp] theorem gb_ms : prg.gb 2 = some (.int 12) := rfl
@[simp] theorem gb_mn : prg.gb 3 = some (.int 1000) := rfl
@[simp] theorem gb_mw : prg.gb 4 = some (.int 5) := rfl
@[simp] theorem gb_mp : prg.gb 5 = some (.int 4) := rfl
@[simp] theorem gb_mv : prg.gb 6 = some (.int 4) := rfl
@[simp] theorem gb_hit : prg.gb 7 = some (.str "hit") := rfl
@[simp] theorem gb_bes : prg.gb 8 = some (.str "beside") := rfl
@[simp] theorem gb_flat : prg.gb 9 = some (.str "flat") := rfl
@[simp] theorem gb_wall : prg.gb 10 = some (.str "wall") := rfl
/-- three whole numbers as shares -/
def wv (a b c : Int) : V := ⟨(a : Rat), (b : Rat), (c : Rat)⟩
theorem wv_d (a b c : Int) : (wv a b c).d = .tup [.tup [.int a, .int 1], .tup [.int b, .int 1], .tup [.int c, .int 1]] := rfl
theorem sh_int (a : Int) : D.tup [.int a, .int 1] = sh (a : Rat) := rfl
theorem sz_int {k : Nat} {a : Int} (h : a.natAbs < 2 ^ k) (hk : 1 ≤ k) : Sz k (a : Rat) := ⟨h, by show 1 < 2 ^ k; exact Nat.one_lt_two_pow (by omega)⟩
theorem z_wv {k : Nat} {a b c : Int} (ha : a.natAbs < 2 ^ k) (hb : b.natAbs < 2 ^ k) (hc : c.natAbs < 2 ^ k) (hk : 1 ≤ k) : (wv a b c).Z k := ⟨sz_int ha hk, sz_int hb hk, sz_int hc hk⟩
section
variable {L : Nat}
theorem asShares_ok {n : Nat} (hn : 1 ≤ n) (a b c : Int) : Pu L n 19 [.tup [.int a, .int b, .int c]] (wv a b c).d :=
  Pu.mk (f := ⟨1, 2, i19⟩) (by omega) rfl rfl fun j e bx => by
    refine ⟨[some (.tup [.int a, .int b, .int c]), none], ?_⟩
    have hlc : evE (cc L j) (.lc (.tup (.cons (.var 1) (.cons (.cst (.int 1)) .nil))) (.var 1) (.its (.var 0)) .nil [1]) ⟨[some (.tup [.int a, .int b, .int c]), none], bx⟩ = .ok (.own ([a, b, c].map fun i => .tup [.int i, .int 1])) ⟨[some (.tup [.int a, .int b, .int c]), none], bx⟩ :=
      lc_mapA [a, b, c] D.int (fun i => .tup [.int i, .int 1]) (by simp) (by show 3 ≤ 16777216; omega) (by simp [S.frzs, S.frz]) fun i hi =>
        ⟨[some (.tup [.int a, .int b, .int c]), some (.int i)], [some (.tup [.int a, .int b, .int c]), some (.int i)], .tup [.int i, .int 1], by simp [asgT, wipeL], by simp, rfl, by simp [wipeL]⟩
    simp [i19, startL, hlc]
    rfl
variable (hL : 2 ^ 9000 ≤ L)
include hL
theorem sidesOf_ok {n k : Nat} (hn : 5 ≤ n) {p q s : V} (hp : p.Z k) (hq : q.Z k) (hs : s.Z k) (h : k ≤ 150) : Pu L n 37 [.lst [p.d, q.d, s.d]] (.own [(q.crs s).d, (s.crs p).d, (p.crs q).d]) :=
  Pu.mk (f := ⟨1, 2, i37⟩) (by omega) rfl rfl fun j e bx => by
    have c1 := crsV hL (n := j) (by omega) hq hs (by omega)
    have c2 := crsV hL (n := j) (by omega) hs hp (by omega)
    have c3 := crsV hL (n := j) (by omega) hp hq (by omega)
    refine ⟨[some (.lst [p.d, q.d, s.d]), none], ?_⟩
    let ys : List (Int × V) := [(0, q.crs s), (1, s.crs p), (2, p.crs q)]
    have r3 : rngOk 0 3 = true := rfl
    have rr : rangeD 0 3 = ys.map fun y => D.int y.1 := rfl
    have hlc : evE (cc L j) (.lc (.call 14 (.cons (.ixv 0 (.bin .mod (.bin .add (.var 1) (.cst (.int 1))) (.cst (.int 3)))) (.cons (.ixv 0 (.bin .mod (.bin .add (.var 1) (.cst (.int 2))) (.cst (.int 3)))) .nil))) (.var 1) (.rng1 (.cst (.int 3))) .nil [1]) ⟨[some (.lst [p.d, q.d, s.d]), none], bx⟩ = .ok (.own (ys.map fun y => y.2.d)) ⟨[some (.lst [p.d, q.d, s.d]), none], bx⟩ :=
      lc_mapA ys (fun y => D.int y.1) (fun y => y.2.d) (by simp [r3, rr]) (by show 3 ≤ 16777216; omega) (by simp [S.frzs, S.frz]) fun y hy => by
        refine ⟨[some (.lst [p.d, q.d, s.d]), some (.int y.1)], [some (.lst [p.d, q.d, s.d]), some (.int y.1)], y.2.d, by simp [asgT, wipeL], ?_, rfl, by simp [wipeL]⟩
        simp [ys] at hy
        rcases hy with rfl | rfl | rfl
        · simp [c1.r]
        · simp [c2.r]
        · simp [c3.r]
    simp [i37, startL, hlc, ys]
theorem sumOf_ok {n k : Nat} (hn : 5 ≤ n) {a b c : V} (ha : a.Z k) (hb : b.Z k) (hc : c.Z k) (h : k ≤ 1000) : Pu L n 31 [.lst [a.d, b.d, c.d]] ((a.add b).add c).d :=
  Pu.mk (f := ⟨1, 5, i31⟩) (by omega) rfl rfl fun j e bx => by
    have z0 : (⟨0, 0, 0⟩ : V).Z 1 := ⟨sz_zero, sz_zero, sz_zero⟩
    have s1 := addV hL (j := j) (by omega) (p := .lst [a.d, b.d, c.d]) z0 ha (by omega) bx
    have z1 : ((⟨0, 0, 0⟩ : V).add a) = a := by simp [V.add, Rat.zero_add]
    have s2 := addV hL (j := j) (by omega) (p := .lst [a.d, b.d, c.d]) ha hb (by omega) bx
    have s3 := addV hL (j := j) (by omega) (p := .lst [a.d, b.d, c.d]) (V.z_add ha hb) hc (by omega) bx
    have e0 : D.tup [sh 0, sh 0, sh 0] = (⟨0, 0, 0⟩ : V).d := rfl
    have ea : D.tup [sh a.x, sh a.y, sh a.z] = a.d := rfl
    have eb : D.tup [sh (a.x + b.x), sh (a.y + b.y), sh (a.z + b.z)] = (a.add b).d := rfl
    have ec : D.tup [sh ((a.add b).x + c.x), sh ((a.add b).y + c.y), sh ((a.add b).z + c.z)] = ((a.add b).add c).d := rfl
    simp only [Rat.zero_add] at s1
    refine ⟨[some (.lst [a.d, b.d, c.d]), some ((a.add b).add c).d, some c.d, none, none], ?_⟩
    simp [i31, startL, e0, forL, forT, asgT, s1, s2, s3, ea, eb, ec]
end
end Q.K26
end

section
set_option maxRecDepth 100000
set_option maxHeartbeats 4000000
set_option exponentiation.threshold 70
/-! N27a: judges of points, planes, samples. -/
namespace Q.K26
open PySem L2 Q
def isWiD (lo hi : Int) : D → Bool
  | .int i => decide (lo ≤ i) && decide (i ≤ hi)
  | _ => false
def isPointD : D → Bool
  | .tup xs => decide (xs.length = 3) && xs.all isShareD
  | _ => false
def isPlaneD : D → Bool
  | .tup xs => decide (xs.length = 4) && (xs.all (isWiD (-1000) 1000) && !eqDs (xs.take 3) [.int 0, .int 0, .int 0])
  | _ => false
theorem isWi_inv {lo hi : Int} {d : D} (h : isWiD lo hi d = true) : ∃ i, d = .int i ∧ lo ≤ i ∧ i ≤ hi := by
  cases d <;> first | (cases h; done) | skip
  rename_i i
  simp [isWiD] at h
  exact ⟨i, rfl, h⟩
@[simp] theorem eqD_tup (xs ys : List D) : eqD (.tup xs) (.tup ys) = eqDs xs ys := rfl
@[simp] theorem eqDs_nil : eqDs [] [] = true := rfl
@[simp] theorem eqDs_cons (x y : D) (xs ys : List D) : eqDs (x :: xs) (y :: ys) = (eqD x y && eqDs xs ys) := rfl
@[simp] theorem eqD_str (x y : Str) : eqD (.str x) (.str y) = (x == y) := rfl
theorem sizedN {n : Nat} {d : D} (hz : isSzD n n d = true) : ∃ xs, d = .tup xs ∧ xs.length = n := by
  cases d <;> first | (cases hz; done) | skip
  rename_i xs
  simp [isSzD] at hz
  exact ⟨xs, rfl, by omega⟩
theorem vd_gd {k : Nat} {v : V} (h : v.Z k) (hk : k ≤ 9000) : Gd v.d := shs_gd h.s hk
theorem vd_point (v : V) : isPointD v.d = true := by
  show (decide ([sh v.x, sh v.y, sh v.z].length = 3) && [sh v.x, sh v.y, sh v.z].all isShareD) = true
  simp [sh_share]
section
variable {L : Nat}
theorem isWi_ok {n : Nat} (hn : 2 ≤ n) {d : D} (h : okD d = true) (lo hi : Int) : Pu L n 1 [d, .int lo, .int hi] (.bl (isWiD lo hi d)) := by
  have := isWithin_ok (L := L) hn h lo hi
  cases d <;> exact this
variable (hL : 2 ^ 9000 ≤ L)
include hL
theorem isPoint_ok {n : Nat} (hn : 3 ≤ n) {d : D} (h : Gd d) : Pu L n 10 [d] (.bl (isPointD d)) :=
  Pu.mk (f := ⟨1, 2, i10⟩) (by omega) rfl rfl fun j e bx => by
    have hs := (isSized_ok (L := L) (n := j) (by omega) h.ok 3 3)
    have hf : d.frz = d := frz_of (gd_own h)
    refine ⟨[some d, none], ?_⟩
    cases hz : isSzD 3 3 d with
    | false =>
      have e2 : isPointD d = false := by
        cases d <;> first | rfl | skip
        rename_i xs
        simp [isSzD] at hz
        simp [isPointD]; omega
      simp [i10, startL, gv_d _ _ _ (gd_own h), hf, hs.r, hz, e2]
    | true =>
      obtain ⟨xs, rfl, hl⟩ := sizedN (n := 3) hz
      have hlc : evE (cc L j) (.lc (.call 5 (.cons (.var 1) .nil)) (.var 1) (.its (.var 0)) .nil [1]) ⟨[some (.tup xs), none], bx⟩ = .ok (.own (xs.map fun d => .bl (isShareD d))) ⟨[some (.tup xs), none], bx⟩ :=
        lc_map (ds := xs) (by simp) (by show xs.length ≤ 16777216; omega) (by simp [S.frzs, S.frz]) fun d hd => by
          have gd := (gd_tup h).mem hd
          have h3 := isShare_ok hL (n := j) (by omega) gd
          have fd : d.frz = d := frz_of (gd_own gd)
          exact ⟨[some (.tup xs), some d], [some (.tup xs), some d], .bl (isShareD d), by simp [asgT, wipeL], by simp [gv_d _ _ _ (gd_own gd), fd, h3.r], rfl, by simp [wipeL]⟩
      simp [i10, startL, hs.r, hz, hlc, allB_map, isPointD, hl]
/-- points are let by -/
theorem check1_ok {n k : Nat} (hn : 4 ≤ n) {a : V} (ha : a.Z k) (hk : k ≤ 9000) : Pu L n 11 [.tup [a.d]] .non := fun bx => by
  obtain ⟨j, rfl⟩ : ∃ j, n = j + 1 := ⟨n - 1, by omega⟩
  rw [callN_eq (f := ⟨1, 2, i11⟩) rfl]
  have h1 := isPoint_ok hL (n := j) (by omega) (vd_gd ha hk)
  rw [vd_point] at h1
  refine runF_nx (s := ⟨[some (.tup [a.d]), some a.d], bx⟩) rfl ?_
  simp [i11, startL, forL, forT, asgT, h1.r]
theorem check2_ok {n k : Nat} (hn : 4 ≤ n) {a b : V} (ha : a.Z k) (hb : b.Z k) (hk : k ≤ 9000) : Pu L n 11 [.tup [a.d, b.d]] .non := fun bx => by
  obtain ⟨j, rfl⟩ : ∃ j, n = j + 1 := ⟨n - 1, by omega⟩
  rw [callN_eq (f := ⟨1, 2, i11⟩) rfl]
  have h1 := isPoint_ok hL (n := j) (by omega) (vd_gd ha hk)
  have h2 := isPoint_ok hL (n := j) (by omega) (vd_gd hb hk)
  rw [vd_point] at h1 h2
  refine runF_nx (s := ⟨[some (.tup [a.d, b.d]), some b.d], bx⟩) rfl ?_
  simp [i11, startL, forL, forT, asgT, h1.r, h2.r]
theorem check3_ok {n k : Nat} (hn : 4 ≤ n) {a b c : V} (ha : a.Z k) (hb : b.Z k) (hc : c.Z k) (hk : k ≤ 9000) : Pu L n 11 [.tup [a.d, b.d, c.d]] .non := fun bx => by
  obtain ⟨j, rfl⟩ : ∃ j, n = j + 1 := ⟨n - 1, by omega⟩
  rw [callN_eq (f := ⟨1, 2, i11⟩) rfl]
  have h1 := isPoint_ok hL (n := j) (by omega) (vd_gd ha hk)
  have h2 := isPoint_ok hL (n := j) (by omega) (vd_gd hb hk)
  have h3 := isPoint_ok hL (n := j) (by omega) (vd_gd hc hk)
  rw [vd_point] at h1 h2 h3
  refine runF_nx (s := ⟨[some (.tup [a.d, b.d, c.d]), some c.d], bx⟩) rfl ?_
  simp [i11, startL, forL, forT, asgT, h1.r, h2.r, h3.r]
theorem upright_ok {n k : Nat} (hn : 5 ≤ n) {a b : V} (ha : a.Z k) (hb : b.Z k) (h : k ≤ 200) : Pu L n 15 [a.d, b.d] (a.crs b).d :=
  Pu.mk (f := ⟨2, 2, i15⟩) (by omega) rfl rfl fun j e bx => by
    have c1 := check2_ok hL (n := j) (by omega) ha hb (by omega)
    have c2 := crsV hL (n := j) (by omega) ha hb (by omega)
    exact ⟨[some a.d, some b.d], by simp [i15, startL, c1.r, c2.r]⟩
theorem turnOf_ok {n k : Nat} (hn : 6 ≤ n) {a b c : V} (ha : a.Z k) (hb : b.Z k) (hc : c.Z k) (h : k ≤ 100) : Pu L n 17 [a.d, b.d, c.d] (sh (vol a b c)) :=
  Pu.mk (f := ⟨3, 3, i17⟩) (by omega) rfl rfl fun j e bx => by
    have c1 := check3_ok hL (n := j) (by omega) ha hb hc (by omega)
    have c2 := volV hL (n := j) (by omega) ha hb hc (by omega)
    exact ⟨[some a.d, some b.d, some c.d], by simp [i17, startL, c1.r, c2.r]⟩
omit hL
theorem isPlane_ok {n : Nat} (hn : 3 ≤ n) {d : D} (h : Gd d) : Pu L n 12 [d] (.bl (isPlaneD d)) :=
  Pu.mk (f := ⟨1, 2, i12⟩) (by omega) rfl rfl fun j e bx => by
    have hs := (isSized_ok (L := L) (n := j) (by omega) h.ok 4 4)
    have hf : d.frz = d := frz_of (gd_own h)
    refine ⟨[some d, none], ?_⟩
    cases hz : isSzD 4 4 d with
    | false =>
      have e2 : isPlaneD d = false := by
        cases d <;> first | rfl | skip
        rename_i xs
        simp [isSzD] at hz
        have : xs.length ≠ 4 := by omega
        simp [isPlaneD, this]
      simp [i12, startL, gv_d _ _ _ (gd_own h), hf, hs.r, hz, e2]
    | true =>
      obtain ⟨xs, rfl, hl⟩ := sizedN (n := 4) hz
      have hlc : evE (cc L j) (.lc (.call 1 (.cons (.var 1) (.cons (.bin .sub (.cst (.int 0)) (.glb 3)) (.cons (.glb 3) .nil)))) (.var 1) (.its (.var 0)) .nil [1]) ⟨[some (.tup xs), none], bx⟩ = .ok (.own (xs.map fun d => .bl (isWiD (-1000) 1000 d))) ⟨[some (.tup xs), none], bx⟩ :=
        lc_map (ds := xs) (by simp) (by show xs.length ≤ 16777216; omega) (by simp [S.frzs, S.frz]) fun d hd => by
          have gd := (gd_tup h).mem hd
          have h3 := isWi_ok (L := L) (n := j) (by omega) gd.ok (-1000) 1000
          have fd : d.frz = d := frz_of (gd_own gd)
          exact ⟨[some (.tup xs), some d], [some (.tup xs), some d], .bl (isWiD (-1000) 1000 d), by simp [asgT, wipeL], by simp [gv_d _ _ _ (gd_own gd), fd, h3.r], rfl, by simp [wipeL]⟩
      match xs, hl with
      | [x, y, z, w], _ =>
        have ha : allB ([x, y, z, w].map fun d => D.bl (isWiD (-1000) 1000 d)) = some ([x, y, z, w].map (isWiD (-1000) 1000)) := allB_map _ _
        cases hw : [x, y, z, w].all (isWiD (-1000) 1000) with
        | false =>
          have e2 : isPlaneD (.tup [x, y, z, w]) = false := by
            show (decide ([x, y, z, w].length = 4) && ([x, y, z, w].all (isWiD (-1000) 1000) && _)) = false
            rw [hw]; simp
          have e3 : ([x, y, z, w].map (isWiD (-1000) 1000)).all id = false := by rw [List.all_map]; exact hw
          have hb : bltD .all [.lst ([x, y, z, w].map fun d => D.bl (isWiD (-1000) 1000 d))] = some (.bl false) := by rw [blt_all, ha, Option.map_some, e3]
          simp only [List.map] at hb
          simp [i12, startL, hs.r, hz, hlc, hb, e2, -blt_all]
        | true =>
          simp at hw
          obtain ⟨a, rfl, a1, a2⟩ := isWi_inv hw.1
          obtain ⟨b, rfl, b1, b2⟩ := isWi_inv hw.2.1
          obtain ⟨c, rfl, c1, c2⟩ := isWi_inv hw.2.2.1
          obtain ⟨e, rfl, e1, e2⟩ := isWi_inv hw.2.2.2
          have hcut : slD (.tup [.int a, .int b, .int c, .int e]) none (some 3) = some (.tup [.int a, .int b, .int c]) := rfl
          simp [i12, startL, hs.r, hz, hlc, ha, hw, hcut, isPlaneD]
end
end Q.K26
end

section
set_option maxRecDepth 100000
set_option maxHeartbeats 4000000
set_option exponentiation.threshold 70
/-! N27b: walls, samples, the law's over, turn, forms. -/
namespace Q.K26
open PySem L2 Q
/-- a wall -/
structure W4 where
  a : Int
  b : Int
  c : Int
  e : Int
namespace W4
def d (w : W4) : D := .tup [.int w.a, .int w.b, .int w.c, .int w.e]
def v (w : W4) : V := wv w.a w.b w.c
structure Ok (w : W4) : Prop where
  a : w.a.natAbs ≤ 2
  b : w.b.natAbs ≤ 2
  c : w.c.natAbs ≤ 2
  e : w.e.natAbs ≤ 2
  n : ¬ (w.a = 0 ∧ w.b = 0 ∧ w.c = 0)
theorem Ok.z {w : W4} (h : w.Ok) : w.v.Z 2 := z_wv (by have := h.a; omega) (by have := h.b; omega) (by have := h.c; omega) (by omega)
theorem Ok.ze {w : W4} (h : w.Ok) : Sz 2 (w.e : Rat) := sz_int (by have := h.e; omega) (by omega)
theorem Ok.pl {w : W4} (h : w.Ok) : isPlaneD w.d = true := by
  have := h.a; have := h.b; have := h.c; have := h.e; have := h.n
  show (decide (4 = 4) && (_ && !eqDs [.int w.a, .int w.b, .int w.c] [.int 0, .int 0, .int 0])) = true
  simp [isWiD]
  omega
theorem gdi {k : Int} (h : k.natAbs ≤ 2) : Gd (.int k) := gd_i (by omega)
theorem Ok.gd {w : W4} (h : w.Ok) : Gd w.d := gd_tp (by
  unfold Gds Gds Gds Gds Gds
  exact ⟨gdi h.a, gdi h.b, gdi h.c, gdi h.e, trivial⟩)
end W4
@[simp] theorem wd_frz (v : W4) : v.d.frz = v.d := rfl
@[simp] theorem wd_own (v : W4) : v.d.isOwn = false := rfl
@[simp] theorem gv_wd (l : List (Option D)) (b : List (List D)) (i : Nat) (v : W4) : gv (some (some v.d)) l b i = .ok v.d ⟨l, b⟩ := rfl
@[simp] theorem ctD_wd (bx : List (List D)) (v : W4) : ctD bx v.d = some v.d := rfl
@[simp] theorem ix_wd3 (v : W4) : ixD v.d (.int 3) = some (.int v.e) := rfl
@[simp] theorem sl_wd3 (v : W4) : slD v.d none (some 3) = some (.tup [.int v.a, .int v.b, .int v.c]) := rfl
section
variable {L : Nat}
theorem asW_ok {n : Nat} (hn : 1 ≤ n) (w : W4) : Pu L n 19 [.tup [.int w.a, .int w.b, .int w.c]] w.v.d := asShares_ok hn _ _ _
theorem isWi_t {n : Nat} (hn : 2 ≤ n) {i lo hi : Int} (h1 : lo ≤ i) (h2 : i ≤ hi) : Pu L n 1 [.int i, .int lo, .int hi] (.bl true) := by
  have := isWi_ok (L := L) (n := n) hn (d := .int i) rfl lo hi
  have e : isWiD lo hi (.int i) = true := by simp [isWiD, h1, h2]
  rwa [e] at this
theorem checkSize_ok {n : Nat} (hn : 3 ≤ n) {w h : Int} (w1 : 1 ≤ w) (w2 : w ≤ 5) (h1 : 1 ≤ h) (h2 : h ≤ 5) : Pu L n 20 [.int w, .int h] .non := fun bx => by
  obtain ⟨j, rfl⟩ : ∃ j, n = j + 1 := ⟨n - 1, by omega⟩
  rw [callN_eq (f := ⟨2, 2, i20⟩) rfl]
  have c1 := isWi_t (L := L) (n := j) (by omega) (i := w) (lo := 1) (hi := 12) (by omega) (by omega)
  have c2 := isWi_t (L := L) (n := j) (by omega) (i := h) (lo := 1) (hi := 12) (by omega) (by omega)
  refine runF_nx (s := ⟨[some (.int w), some (.int h)], bx⟩) rfl ?_
  simp [i20, startL, c1.r, c2.r]
theorem isSample_ok {n : Nat} (hn : 4 ≤ n) {w h i j : Int} (w1 : 1 ≤ w) (w2 : w ≤ 5) (h1 : 1 ≤ h) (h2 : h ≤ 5) (i1 : 0 ≤ i) (i2 : i < w) (j1 : 0 ≤ j) (j2 : j < h) : Pu L n 21 [.int w, .int h, .tup [.int i, .int j]] (.bl true) :=
  Pu.mk (f := ⟨3, 3, i21⟩) (by omega) rfl rfl fun m e bx => by
    have c0 := checkSize_ok (L := L) (n := m) (by omega) w1 w2 h1 h2
    have c1 := isWi_t (L := L) (n := m) (by omega) (i := i) (lo := 0) (hi := w - 1) (by omega) (by omega)
    have c2 := isWi_t (L := L) (n := m) (by omega) (i := j) (lo := 0) (hi := h - 1) (by omega) (by omega)
    have hs := isSized_ok (L := L) (n := m) (by omega) (d := .tup [.int i, .int j]) rfl 2 2
    have hz : isSzD 2 2 (.tup [.int i, .int j]) = true := rfl
    rw [hz] at hs
    refine ⟨[some (.int w), some (.int h), some (.tup [.int i, .int j])], ?_⟩
    simp [i21, startL, c0.r, c1.r, c2.r, hs.r]
theorem checkSample_ok {n : Nat} (hn : 5 ≤ n) {w h i j : Int} (w1 : 1 ≤ w) (w2 : w ≤ 5) (h1 : 1 ≤ h) (h2 : h ≤ 5) (i1 : 0 ≤ i) (i2 : i < w) (j1 : 0 ≤ j) (j2 : j < h) : Pu L n 22 [.int w, .int h, .tup [.int i, .int j]] .non := fun bx => by
  obtain ⟨m, rfl⟩ : ∃ m, n = m + 1 := ⟨n - 1, by omega⟩
  rw [callN_eq (f := ⟨3, 3, i22⟩) rfl]
  have c0 := isSample_ok (L := L) (n := m) (by omega) w1 w2 h1 h2 i1 i2 j1 j2
  refine runF_nx (s := ⟨[some (.int w), some (.int h), some (.tup [.int i, .int j])], bx⟩) rfl ?_
  simp [i22, startL, c0.r]
/-- a sample's ray -/
def rayV (w h i j : Int) : V := ⟨half (2 * i + 1 - w), half (2 * j + 1 - h), 1⟩
theorem rayV_z {w h i j : Int} (w1 : 1 ≤ w) (w2 : w ≤ 5) (h1 : 1 ≤ h) (h2 : h ≤ 5) (i1 : 0 ≤ i) (i2 : i < w) (j1 : 0 ≤ j) (j2 : j < h) : (rayV w h i j).Z 10 :=
  ⟨half_sz (by omega), half_sz (by omega), sz_one.mono (by omega)⟩
variable (hL : 2 ^ 9000 ≤ L)
include hL
theorem rayV_ok {n : Nat} (hn : 3 ≤ n) {w h i j : Int} (hi : i.natAbs < 2 ^ 8) (hj : j.natAbs < 2 ^ 8) : Pu L n 23 [.int w, .int h, .tup [.int i, .int j]] (rayV w h i j).d := ray_ok hL hn hi hj
theorem rayOf_ok {n : Nat} (hn : 6 ≤ n) {w h i j : Int} (w1 : 1 ≤ w) (w2 : w ≤ 5) (h1 : 1 ≤ h) (h2 : h ≤ 5) (i1 : 0 ≤ i) (i2 : i < w) (j1 : 0 ≤ j) (j2 : j < h) : Pu L n 24 [.int w, .int h, .tup [.int i, .int j]] (rayV w h i j).d :=
  Pu.mk (f := ⟨3, 3, i24⟩) (by omega) rfl rfl fun m e bx => by
    have c0 := checkSample_ok (L := L) (n := m) (by omega) w1 w2 h1 h2 i1 i2 j1 j2
    have c1 := rayV_ok hL (n := m) (by omega) (w := w) (h := h) (i := i) (j := j) (by omega) (by omega)
    exact ⟨[some (.int w), some (.int h), some (.tup [.int i, .int j])], by simp [i24, startL, c0.r, c1.r]⟩
theorem smallSign_ok {n k : Nat} (hn : 7 ≤ n) {a : V} (ha : a.Z k) (hk : k ≤ 400) {w h i j : Int} (w1 : 1 ≤ w) (w2 : w ≤ 5) (h1 : 1 ≤ h) (h2 : h ≤ 5) (i1 : 0 ≤ i) (i2 : i < w) (j1 : 0 ≤ j) (j2 : j < h) : Pu L n 26 [a.d, .int w, .int h, .tup [.int i, .int j]] (.int (a.mv (rayV w h i j))) :=
  Pu.mk (f := ⟨4, 4, i26⟩) (by omega) rfl rfl fun m e bx => by
    have cp := check1_ok hL (n := m) (by omega) ha (by omega)
    have c0 := checkSample_ok (L := L) (n := m) (by omega) w1 w2 h1 h2 i1 i2 j1 j2
    have c1 := rayV_ok hL (n := m) (by omega) (w := w) (h := h) (i := i) (j := j) (by omega) (by omega)
    have c2 := mvV hL (n := m) (by omega) ha (rayV_z w1 w2 h1 h2 i1 i2 j1 j2) (by omega)
    exact ⟨[some a.d, some (.int w), some (.int h), some (.tup [.int i, .int j])], by simp [i26, startL, cp.r, c0.r, c1.r, c2.r]⟩
end
end Q.K26
end

section
set_option maxRecDepth 100000
set_option maxHeartbeats 4000000
set_option exponentiation.threshold 70
/-! N27c: a hit, or what bars it. -/
namespace Q.K26
open PySem L2 Q
theorem sgn_zero_iff (q : Rat) : sgn q = 0 ↔ q = 0 := by rw [sgn_eq]; grind
theorem mv_sz (a r : V) : (a.mv r).natAbs < 2 ^ 1 := by
  rcases mv_three (a.dot r) a.x a.y with h | h | h <;> (unfold V.mv; rw [h]; decide)
theorem mv_mul (a b r : V) : mulOk (a.mv r) (b.mv r) = true := mulOk_of (mv_sz a r) (mv_sz b r) (by omega)
def besD (i : Int) : D := .tup [.str "beside", .int i]
def fbO (p q s r : V) : Option D :=
  if vol p q s = 0 then some (.tup [.str "flat"])
  else if (q.crs s).mv r ≠ (whole p q s).mv r then some (besD 0)
  else if (s.crs p).mv r ≠ (whole p q s).mv r then some (besD 1)
  else if (p.crs q).mv r ≠ (whole p q s).mv r then some (besD 2)
  else if (whole p q s).mv r = sgn (vol p q s) then none else some (besD 3)
def wf (p q s : V) (w : W4) : V := (V.smul (vol p q s) w.v).sub (V.smul w.e (whole p q s))
def firstW (p q s r : V) : Nat → List W4 → Option Nat
  | _, [] => none
  | n, w :: ws => if (wf p q s w).mv r * (whole p q s).mv r < 0 then some n else firstW p q s r (n + 1) ws
def wgt (p q s r : V) : Rat × Rat × Rat := ((q.crs s).dot r / (whole p q s).dot r, (s.crs p).dot r / (whole p q s).dot r, (p.crs q).dot r / (whole p q s).dot r)
def dep (p q s r : V) : Rat := vol p q s / (whole p q s).dot r
def hitD (p q s r : V) : D := .tup [.str "hit", sh (dep p q s r), .tup [sh (wgt p q s r).1, sh (wgt p q s r).2.1, sh (wgt p q s r).2.2]]
def metD (p q s r : V) (ws : List W4) : D := match fbO p q s r with
  | some d => d
  | none => match firstW p q s r 0 ws with
    | some n => .tup [.str "wall", .int n]
    | none => hitD p q s r
theorem fb_none {p q s r : V} (h : fbO p q s r = none) : vol p q s ≠ 0 ∧ (q.crs s).mv r = (whole p q s).mv r ∧ (s.crs p).mv r = (whole p q s).mv r ∧ (p.crs q).mv r = (whole p q s).mv r ∧ (whole p q s).mv r = sgn (vol p q s) := by
  unfold fbO at h
  grind
theorem fb_own {p q s r : V} {d : D} (h : fbO p q s r = some d) : ∃ xs, d = .tup xs := by
  unfold fbO besD at h
  grind
structure Tz (p q s r : V) : Prop where
  zp : p.Z 10
  zq : q.Z 10
  zs : s.Z 10
  zr : r.Z 10
  rz : r.z = 1
theorem z_wf {p q s r : V} (h : Tz p q s r) {w : W4} (hw : w.Ok) : (wf p q s w).Z 300 :=
  (V.z_sub (V.z_smul (z_vol h.zp h.zq h.zs) hw.z) (V.z_smul hw.ze (z_whole h.zp h.zq h.zs))).mono (by omega)
theorem z_sides {p q s r : V} (h : Tz p q s r) : (q.crs s).Z 41 ∧ (s.crs p).Z 41 ∧ (p.crs q).Z 41 := ⟨V.z_crs h.zq h.zs, V.z_crs h.zs h.zp, V.z_crs h.zp h.zq⟩
theorem z_dep {p q s r : V} (h : Tz p q s r) : Sz 155 (vol p q s) ∧ Sz 407 ((whole p q s).dot r) ∧ Sz 155 ((q.crs s).dot r) ∧ Sz 155 ((s.crs p).dot r) ∧ Sz 155 ((p.crs q).dot r) :=
  ⟨z_vol h.zp h.zq h.zs, (V.z_dot (z_whole h.zp h.zq h.zs) h.zr).mono (by omega), (V.z_dot (z_sides h).1 h.zr).mono (by omega), (V.z_dot (z_sides h).2.1 h.zr).mono (by omega), (V.z_dot (z_sides h).2.2 h.zr).mono (by omega)⟩
section
variable {L : Nat} (hL : 2 ^ 9000 ≤ L) {p q s r : V} (hz : Tz p q s r)
include hL hz
theorem sides_ok {n : Nat} (hn : 5 ≤ n) : Pu L n 37 [.lst [p.d, q.d, s.d]] (.own [(q.crs s).d, (s.crs p).d, (p.crs q).d]) := sidesOf_ok hL hn hz.zp hz.zq hz.zs (by omega)
theorem wholeO_ok {n : Nat} (hn : 5 ≤ n) : Pu L n 31 [.lst [(q.crs s).d, (s.crs p).d, (p.crs q).d]] (whole p q s).d := sumOf_ok hL hn (z_sides hz).1 (z_sides hz).2.1 (z_sides hz).2.2 (by omega)
theorem firstBeside_ok {n : Nat} (hn : 7 ≤ n) : Pu L n 38 [.lst [p.d, q.d, s.d], r.d] ((fbO p q s r).getD .non) :=
  Pu.run (f := ⟨2, 7, i38⟩) (by omega) rfl fun j e bx => by
    have c1 := volV hL (n := j) (by omega) hz.zp hz.zq hz.zs (by omega)
    have c2 := signOf_ok (L := L) (n := j) (by omega) (vol p q s)
    have c3 := sides_ok hL hz (n := j) (by omega)
    have c4 := wholeO_ok hL hz (n := j) (by omega)
    have c5 := mvV hL (n := j) (by omega) (z_whole hz.zp hz.zq hz.zs) hz.zr (by omega)
    have m0 := mvV hL (n := j) (by omega) (z_sides hz).1 hz.zr (by omega)
    have m1 := mvV hL (n := j) (by omega) (z_sides hz).2.1 hz.zr (by omega)
    have m2 := mvV hL (n := j) (by omega) (z_sides hz).2.2 hz.zr (by omega)
    by_cases h0 : vol p q s = 0
    · have e0 : sgn (vol p q s) = 0 := (sgn_zero_iff _).mpr h0
      have ef : fbO p q s r = some (.tup [.str "flat"]) := by simp [fbO, h0]
      rw [e0] at c2
      rw [ef]
      refine runF_rt (s := ⟨[some (.lst [p.d, q.d, s.d]), some r.d, some (.int 0), none, none, none, none], bx⟩) rfl ?_
      simp [i38, startL, c1.r, c2.r]
    · have e0 : sgn (vol p q s) ≠ 0 := fun z => h0 ((sgn_zero_iff _).mp z)
      let ys : List (V × Int) := [(q.crs s, (q.crs s).mv r), (s.crs p, (s.crs p).mv r), (p.crs q, (p.crs q).mv r)]
      have hlc : ∀ x2, evE (cc L j) (.lc (.call 25 (.cons (.var 6) (.cons (.var 1) .nil))) (.var 6) (.its (.call 37 (.cons (.var 0) .nil))) .nil [6]) ⟨[some (.lst [p.d, q.d, s.d]), some r.d, x2, none, none, none, none], bx⟩ =
          .ok (.own (ys.map fun y => .int y.2)) ⟨[some (.lst [p.d, q.d, s.d]), some r.d, x2, none, none, none, none], bx⟩ := fun x2 =>
        lc_mapA ys (fun y => y.1.d) (fun y => .int y.2) (by simp [c3.r, ys]) (by show 3 ≤ 16777216; omega) (by simp [S.frzs, S.frz]) fun y hy => by
          refine ⟨[some (.lst [p.d, q.d, s.d]), some r.d, x2, none, none, none, some y.1.d], [some (.lst [p.d, q.d, s.d]), some r.d, x2, none, none, none, some y.1.d], .int y.2, by simp [asgT, wipeL], ?_, rfl, by simp [wipeL]⟩
          simp [ys] at hy
          rcases hy with rfl | rfl | rfl
          · simp [m0.r]
          · simp [m1.r]
          · simp [m2.r]
      simp only [ys, List.map] at hlc
      have hlc := hlc (some (.int (sgn (vol p q s))))
      have r3 : rngOk 0 3 = true := rfl
      have rr : rangeD 0 3 = [.int 0, .int 1, .int 2] := rfl
      by_cases k0 : (q.crs s).mv r = (whole p q s).mv r
      · by_cases k1 : (s.crs p).mv r = (whole p q s).mv r
        · by_cases k2 : (p.crs q).mv r = (whole p q s).mv r
          · by_cases k3 : (whole p q s).mv r = sgn (vol p q s)
            · have ef : fbO p q s r = none := by simp [fbO, h0, k0, k1, k2, k3]
              rw [ef]
              refine runF_rt (s := ⟨[some (.lst [p.d, q.d, s.d]), some r.d, some (.int (sgn (vol p q s))), some (.own [.int ((whole p q s).mv r), .int ((whole p q s).mv r), .int ((whole p q s).mv r)]), some (.int ((whole p q s).mv r)), some (.int 2), none], bx⟩) rfl ?_
              rw [k0, k1, k2] at hlc
              rw [k3] at hlc c5 ⊢
              simp [i38, startL, c1.r, c2.r, c3.r, c4.r, c5.r, e0, hlc, r3, rr, forL, forT, asgT]
            · have ef : fbO p q s r = some (besD 3) := by simp [fbO, h0, k0, k1, k2, k3]
              rw [ef]
              refine runF_rt (s := ⟨[some (.lst [p.d, q.d, s.d]), some r.d, some (.int (sgn (vol p q s))), some (.own [.int ((whole p q s).mv r), .int ((whole p q s).mv r), .int ((whole p q s).mv r)]), some (.int ((whole p q s).mv r)), some (.int 2), none], bx⟩) rfl ?_
              rw [k0, k1, k2] at hlc
              simp [i38, startL, c1.r, c2.r, c3.r, c4.r, c5.r, e0, hlc, r3, rr, forL, forT, asgT, k3, besD]
          · have ef : fbO p q s r = some (besD 2) := by simp [fbO, h0, k0, k1, k2]
            rw [ef]
            refine runF_rt (s := ⟨[some (.lst [p.d, q.d, s.d]), some r.d, some (.int (sgn (vol p q s))), some (.own [.int ((whole p q s).mv r), .int ((whole p q s).mv r), .int ((p.crs q).mv r)]), some (.int ((whole p q s).mv r)), some (.int 2), none], bx⟩) rfl ?_
            rw [k0, k1] at hlc
            simp [i38, startL, c1.r, c2.r, c3.r, c4.r, c5.r, e0, hlc, r3, rr, forL, forT, asgT, k2, besD]
        · have ef : fbO p q s r = some (besD 1) := by simp [fbO, h0, k0, k1]
          rw [ef]
          refine runF_rt (s := ⟨[some (.lst [p.d, q.d, s.d]), some r.d, some (.int (sgn (vol p q s))), some (.own [.int ((whole p q s).mv r), .int ((s.crs p).mv r), .int ((p.crs q).mv r)]), some (.int ((whole p q s).mv r)), some (.int 1), none], bx⟩) rfl ?_
          rw [k0] at hlc
          simp [i38, startL, c1.r, c2.r, c3.r, c4.r, c5.r, e0, hlc, r3, rr, forL, forT, asgT, k1, besD]
      · have ef : fbO p q s r = some (besD 0) := by simp [fbO, h0, k0]
        rw [ef]
        refine runF_rt (s := ⟨[some (.lst [p.d, q.d, s.d]), some r.d, some (.int (sgn (vol p q s))), some (.own [.int ((q.crs s).mv r), .int ((s.crs p).mv r), .int ((p.crs q).mv r)]), some (.int ((whole p q s).mv r)), some (.int 0), none], bx⟩) rfl ?_
        simp [i38, startL, c1.r, c2.r, c3.r, c4.r, c5.r, e0, hlc, r3, rr, forL, forT, asgT, k0, besD]
def fwB : St := (.seq (.asv 7 (.call 30 (.cons (.call 29 (.cons (.call 19 (.cons (.slv 6 .nil (.prt (.cst (.int 3)))) .nil)) (.cons (.var 3) .nil))) (.cons (.call 29 (.cons (.var 4) (.cons (.tup (.cons (.ixv 6 (.cst (.int 3))) (.cons (.cst (.int 1)) .nil))) .nil))) .nil)))) (.seq (.ite (.tru (.cmp .lt (.bin .mul (.call 25 (.cons (.var 7) (.cons (.var 2) .nil))) (.call 25 (.cons (.var 4) (.cons (.var 2) .nil)))) (.cst (.int 0)))) (.seq (.ret (.var 5)) .nil) .nil) .nil))
theorem fw_loop {j : Nat} (hj : 6 ≤ j) (x0 x1 : Option D) (bx : List (List D)) : ∀ (ws : List W4), (∀ w, w ∈ ws → w.Ok) → ∀ (n : Nat) (x5 x6 x7 : Option D),
    ∃ y5 y6 y7, forL (forT (cc L j) L (.tup (.cons (.var 5) (.cons (.var 6) .nil))) fwB) (enumD n (ws.map W4.d)) ⟨[x0, x1, some r.d, some (sh (vol p q s)), some (whole p q s).d, x5, x6, x7], bx⟩ =
      .ok (match firstW p q s r n ws with | some m => .rt (.int m) | none => .nx) ⟨[x0, x1, some r.d, some (sh (vol p q s)), some (whole p q s).d, y5, y6, y7], bx⟩
  | [], _, n, x5, x6, x7 => ⟨x5, x6, x7, rfl⟩
  | w :: ws, hw, n, x5, x6, x7 => by
    have ho := hw w (by simp)
    have c1 := asW_ok (L := L) (n := j) (by omega) w
    have c2 := smulV hL (n := j) (by omega) ho.z (z_vol hz.zp hz.zq hz.zs) (by omega)
    have c3 := smulV hL (n := j) (by omega) (z_whole hz.zp hz.zq hz.zs) ho.ze (by omega)
    have c4 := subV hL (n := j) (by omega) (V.z_smul (z_vol hz.zp hz.zq hz.zs) ho.z) (V.z_smul ho.ze (z_whole hz.zp hz.zq hz.zs)) (by omega)
    have c5 := mvV hL (n := j) (by omega) (z_wf hz ho) hz.zr (by omega)
    have c6 := mvV hL (n := j) (by omega) (z_whole hz.zp hz.zq hz.zs) hz.zr (by omega)
    have cm := mv_mul (wf p q s w) (whole p q s) r
    have e4 : (V.smul (vol p q s) w.v).sub (V.smul (↑w.e) (whole p q s)) = wf p q s w := rfl
    rw [e4] at c4
    have ed : enumD n ((w :: ws).map W4.d) = .tup [.int n, w.d] :: enumD (n + 1) (ws.map W4.d) := rfl
    rw [ed]
    by_cases hk : (wf p q s w).mv r * (whole p q s).mv r < 0
    · refine ⟨some (.int n), some w.d, some (wf p q s w).d, ?_⟩
      have ef : firstW p q s r n (w :: ws) = some n := by unfold firstW; rw [if_pos hk]
      rw [ef]
      simp [forL, forT, asgT, asgT.asgTs, fwB, c1.r, c2.r, c3.r, c4.r, c5.r, c6.r, cm, sh_int, hk]
    · obtain ⟨y5, y6, y7, ih⟩ := fw_loop hj x0 x1 bx ws (fun v hv => hw v (by simp [hv])) (n + 1) (some (.int n)) (some w.d) (some (wf p q s w).d)
      refine ⟨y5, y6, y7, ?_⟩
      have ef : firstW p q s r n (w :: ws) = firstW p q s r (n + 1) ws := by conv => lhs; unfold firstW
                                                                             rw [if_neg hk]
      rw [ef, ← ih]
      conv => lhs; unfold forL
      simp [forT, asgT, asgT.asgTs, fwB, c1.r, c2.r, c3.r, c4.r, c5.r, c6.r, cm, sh_int, hk]
end
end Q.K26
end

section
set_option maxRecDepth 100000
set_option maxHeartbeats 4000000
set_option exponentiation.threshold 70
/-! N27d: met, the law's own hit: the same. -/
namespace Q.K26
open PySem L2 Q
@[simp] theorem ei_enm (c : Env) (a : E) (l : List (Option D)) (bx : List (List D)) : evI c (.enm a) ⟨l, bx⟩ = (evE c a ⟨l, bx⟩).bnd fun x s1 => enmK x.frz.items s1 := by
  show ((evE c a ⟨l, bx⟩).bnd fun x s1 => _) = _
  congr 1
  funext x s1
  cases x.frz.items <;> rfl
def wsD (ws : List W4) : D := .tup (ws.map W4.d)
@[simp] theorem wsD_frz (v : List W4) : (wsD v).frz = wsD v := rfl
@[simp] theorem wsD_own (v : List W4) : (wsD v).isOwn = false := rfl
@[simp] theorem gv_wsD (l : List (Option D)) (b : List (List D)) (i : Nat) (v : List W4) : gv (some (some (wsD v))) l b i = .ok (wsD v) ⟨l, b⟩ := rfl
@[simp] theorem ctD_wsD (bx : List (List D)) (v : List W4) : ctD bx (wsD v) = some (wsD v) := rfl
@[simp] theorem wsD_items (v : List W4) : (wsD v).items = some (v.map W4.d) := rfl
@[simp] theorem besD_frz (i : Int) : (besD i).frz = besD i := rfl
@[simp] theorem hitD_frz (p q s r : V) : (hitD p q s r).frz = hitD p q s r := rfl
section
variable {L : Nat} (hL : 2 ^ 9000 ≤ L) {p q s r : V} (hz : Tz p q s r) {ws : List W4} (hw : ∀ w, w ∈ ws → w.Ok)
include hL hz hw
theorem firstWall_ok {n : Nat} (hn : 7 ≤ n) : Pu L n 39 [.lst [p.d, q.d, s.d], wsD ws, r.d] (match firstW p q s r 0 ws with | some m => .int m | none => .non) :=
  Pu.run (f := ⟨3, 8, i39⟩) (by omega) rfl fun j e bx => by
    have c1 := volV hL (n := j) (by omega) hz.zp hz.zq hz.zs (by omega)
    have c3 := sides_ok hL hz (n := j) (by omega)
    have c4 := wholeO_ok hL hz (n := j) (by omega)
    obtain ⟨y5, y6, y7, hl⟩ := fw_loop hL hz (j := j) (by omega) (some (.lst [p.d, q.d, s.d])) (some (wsD ws)) bx ws hw 0 none none none
    refine runF_rt (s := ⟨[some (.lst [p.d, q.d, s.d]), some (wsD ws), some r.d, some (sh (vol p q s)), some (whole p q s).d, y5, y6, y7], bx⟩) rfl ?_
    have hi : i39 = .seq (.par 3 4 (.call 16 (.cons (.ixv 0 (.cst (.int 0))) (.cons (.ixv 0 (.cst (.int 1))) (.cons (.ixv 0 (.cst (.int 2))) .nil)))) (.call 31 (.cons (.call 37 (.cons (.var 0) .nil)) .nil))) (.seq (.for (.tup (.cons (.var 5) (.cons (.var 6) .nil))) (.enm (.var 1)) fwB) (.seq (.ret (.cst .non)) .nil)) := rfl
    simp only [hi]
    cases hf : firstW p q s r 0 ws with
    | none =>
      rw [hf] at hl
      simp [startL, c1.r, c3.r, c4.r, hl]
    | some m =>
      rw [hf] at hl
      simp [startL, c1.r, c3.r, c4.r, hl]
theorem met_ok {n : Nat} (hn : 8 ≤ n) : Pu L n 40 [.lst [p.d, q.d, s.d], wsD ws, r.d] (metD p q s r ws) :=
  Pu.run (f := ⟨3, 9, i40⟩) (by omega) rfl fun j e bx => by
    have c1 := firstBeside_ok hL hz (n := j) (by omega)
    have c2 := firstWall_ok hL hz hw (n := j) (by omega)
    cases hf : fbO p q s r with
    | some d =>
      rw [hf] at c1
      obtain ⟨xs, rfl⟩ := fb_own hf
      have e1 : metD p q s r ws = .tup xs := by simp [metD, hf]
      rw [e1]
      have e2 : opC .notN (.tup xs) .non = some true := rfl
      refine runF_rt (s := ⟨[some (.lst [p.d, q.d, s.d]), some (wsD ws), some r.d, some (.tup xs), none, none, none, none, none], bx⟩) rfl ?_
      simp [i40, startL, c1.r, e2]
    | none =>
      rw [hf] at c1
      have e2 : opC .notN .non .non = some false := rfl
      cases hg : firstW p q s r 0 ws with
      | some m =>
        rw [hg] at c2
        have e1 : metD p q s r ws = .tup [.str "wall", .int m] := by simp [metD, hf, hg]
        rw [e1]
        have e3 : ∀ k : Int, opC .notN (.int k) .non = some true := fun k => rfl
        refine runF_rt (s := ⟨[some (.lst [p.d, q.d, s.d]), some (wsD ws), some r.d, some .non, some (.int m), none, none, none, none], bx⟩) rfl ?_
        simp [i40, startL, c1.r, c2.r, e2, e3]
      | none =>
        rw [hg] at c2
        have e1 : metD p q s r ws = hitD p q s r := by simp [metD, hf, hg]
        rw [e1]
        obtain ⟨ht, h1, h2, h3, h4⟩ := fb_none hf
        have h0 := whole_ne hz.rz ht h1 h2 h3 h4
        have zd := z_dep hz
        have c3 := sides_ok hL hz (n := j) (by omega)
        have c4 := wholeO_ok hL hz (n := j) (by omega)
        have c5 := dotV hL (n := j) (by omega) (z_whole hz.zp hz.zq hz.zs) hz.zr (by omega)
        have c6 := volV hL (n := j) (by omega) hz.zp hz.zq hz.zs (by omega)
        have c7 := over_ok hL (n := j) (by omega) zd.1 zd.2.1 (by omega) h0
        have m0 := dotV hL (n := j) (by omega) (z_sides hz).1 hz.zr (by omega)
        have m1 := dotV hL (n := j) (by omega) (z_sides hz).2.1 hz.zr (by omega)
        have m2 := dotV hL (n := j) (by omega) (z_sides hz).2.2 hz.zr (by omega)
        have v0 := over_ok hL (n := j) (by omega) zd.2.2.1 zd.2.1 (by omega) h0
        have v1 := over_ok hL (n := j) (by omega) zd.2.2.2.1 zd.2.1 (by omega) h0
        have v2 := over_ok hL (n := j) (by omega) zd.2.2.2.2 zd.2.1 (by omega) h0
        let ys : List (V × Rat) := [(q.crs s, (wgt p q s r).1), (s.crs p, (wgt p q s r).2.1), (p.crs q, (wgt p q s r).2.2)]
        let l5 : List (Option D) := [some (.lst [p.d, q.d, s.d]), some (wsD ws), some r.d, some .non, some .non, some (.lst [(q.crs s).d, (s.crs p).d, (p.crs q).d]), some (sh ((whole p q s).dot r)), some (sh (dep p q s r)), none]
        have hlc : evE (cc L j) (.lc (.call 9 (.cons (.call 13 (.cons (.var 8) (.cons (.var 2) .nil))) (.cons (.var 6) .nil))) (.var 8) (.its (.var 5)) .nil [8]) ⟨l5, bx⟩ =
            .ok (.own (ys.map fun y => sh y.2)) ⟨l5, bx⟩ :=
          lc_mapA ys (fun y => y.1.d) (fun y => sh y.2) (by simp [ys, l5]) (by show 3 ≤ 16777216; omega) (by simp [S.frzs, S.frz, l5]) fun y hy => by
            refine ⟨[some (.lst [p.d, q.d, s.d]), some (wsD ws), some r.d, some .non, some .non, some (.lst [(q.crs s).d, (s.crs p).d, (p.crs q).d]), some (sh ((whole p q s).dot r)), some (sh (dep p q s r)), some y.1.d], [some (.lst [p.d, q.d, s.d]), some (wsD ws), some r.d, some .non, some .non, some (.lst [(q.crs s).d, (s.crs p).d, (p.crs q).d]), some (sh ((whole p q s).dot r)), some (sh (dep p q s r)), some y.1.d], sh y.2, by simp [asgT, wipeL, l5], ?_, rfl, by simp [wipeL, l5]⟩
            simp [ys] at hy
            rcases hy with rfl | rfl | rfl
            · simp [m0.r, v0.r, wgt]
            · simp [m1.r, v1.r, wgt]
            · simp [m2.r, v2.r, wgt]
        simp only [ys, List.map, l5] at hlc
        have ed : vol p q s / (whole p q s).dot r = dep p q s r := rfl
        rw [ed] at c7
        refine runF_rt (s := ⟨[some (.lst [p.d, q.d, s.d]), some (wsD ws), some r.d, some .non, some .non, some (.lst [(q.crs s).d, (s.crs p).d, (p.crs q).d]), some (sh ((whole p q s).dot r)), some (sh (dep p q s r)), none], bx⟩) rfl ?_
        simp [i40, startL, c1.r, c2.r, c3.r, c4.r, c5.r, c6.r, c7.r, e2, hlc]
        rfl
end
end Q.K26
end

section
set_option maxRecDepth 100000
set_option maxHeartbeats 4000000
set_option exponentiation.threshold 70
/-! N27e: the law's own hit: the same. -/
namespace Q.K26
open PySem L2 Q
theorem sgn_num {x : Rat} (h : x.num ≠ 0) : (if 0 < x.num then (1 : Int) else -1) = sgn x := by
  unfold sgn
  split <;> rename_i h1
  · rw [if_neg (by omega)]; rfl
  · rw [if_pos (by omega)]; rfl
theorem wf_eq (p q s : V) (w : W4) : (V.smul (vol p q s) w.v).add (V.smul (0 - (w.e : Rat)) (whole p q s)) = wf p q s w := by
  simp only [wf, V.add, V.sub, V.smul]
  congr 1 <;> grind
theorem sz_ne {w : W4} (h : w.Ok) : Sz 2 ((0 : Rat) - w.e) := by
  have e : (0 : Rat) - w.e = ((0 - w.e : Int) : Rat) := by rw [Rat.intCast_sub]; rfl
  rw [e]
  exact sz_int (by have := h.e; omega) (by omega)
theorem sh_ne (e : Int) : D.tup [.int (0 - e), .int 1] = sh ((0 : Rat) - e) := by
  have e1 : (0 : Rat) - e = ((0 - e : Int) : Rat) := by rw [Rat.intCast_sub]; rfl
  rw [e1]; rfl
section
variable {L : Nat} (hL : 2 ^ 9000 ≤ L) {p q s r : V} (hz : Tz p q s r)
include hL hz
variable {ws : List W4} (hw : ∀ w, w ∈ ws → w.Ok)
include hw
end
end Q.K26
end

section
set_option maxRecDepth 100000
set_option maxHeartbeats 4000000
set_option exponentiation.threshold 70
/-! N27f: judges of corners, triangles, walls. -/
namespace Q.K26
open PySem L2 Q
def allSh : D → Bool
  | .tup xs => xs.all isShareD
  | _ => false
def isCornerD : D → Bool
  | .tup xs => decide (xs.length = 2) && (isPointD (xs[0]?.getD .non) && (isSzD 1 4 (xs[1]?.getD .non) && allSh (xs[1]?.getD .non)))
  | _ => false
theorem low_eqI {a : Int} {b : Nat} (h0 : b ≠ 0) : eqD (sh (Rat.normalize a b h0)) (.tup [.int a, .int b]) = decide (Int.gcd a b = 1) := by
  rw [← sh_norm]
  show ((a : Int) / ((Int.gcd a b : Nat) : Int) == (a : Int) && ((b : Int) / ((Int.gcd a b : Nat) : Int) == (b : Int) && true)) = _
  have g0 : 0 < Int.gcd a b := Int.gcd_pos_iff.mpr (.inr (by omega))
  by_cases h : Int.gcd a b = 1
  · simp [h]
  · simp [h]
    intro _ hb
    have h2 : b / Int.gcd a b = b := by
      have : ((b / Int.gcd a b : Nat) : Int) = (b : Int) := by rw [Int.natCast_ediv]; exact hb
      omega
    have h3 : b / Int.gcd a b < b := Nat.div_lt_self (by omega) (by omega)
    omega
theorem nsz {n : Nat} {d : D} (hz : isSzD n n d = false) : ∀ xs, d = .tup xs → xs.length ≠ n := fun xs e => by
  subst e
  simp [isSzD] at hz
  omega
section
variable {L : Nat}
variable (hL : 2 ^ 9000 ≤ L)
include hL
theorem isCorner_ok {n : Nat} (hn : 4 ≤ n) {d : D} (h : Gd d) : Pu L n 32 [d] (.bl (isCornerD d)) :=
  Pu.mk (f := ⟨1, 2, i32⟩) (by omega) rfl rfl fun j e bx => by
    have hf : d.frz = d := frz_of (gd_own h)
    have hs := (isSized_ok (L := L) (n := j) (by omega) h.ok 2 2)
    refine ⟨[some d, none], ?_⟩
    cases hz : isSzD 2 2 d with
    | false =>
      have e2 : isCornerD d = false := by
        cases d <;> first | rfl | skip
        rename_i xs
        have := nsz (n := 2) hz xs rfl
        simp [isCornerD, this]
      simp [i32, startL, gv_d _ _ _ (gd_own h), hf, hs.r, hz, e2]
    | true =>
      obtain ⟨x, y, rfl⟩ := sized2 hz
      have hg := gd_tup h
      have hx : Gd x := hg.mem (by simp)
      have hy : Gd y := hg.mem (by simp)
      have fx : x.frz = x := frz_of (gd_own hx)
      have fy : y.frz = y := frz_of (gd_own hy)
      have p1 := isPoint_ok hL (n := j) (by omega) hx
      have p2 := isSized_ok (L := L) (n := j) (by omega) hy.ok 1 4
      cases hp : isPointD x with
      | false => simp [i32, startL, hs.r, hz, fx, p1.r, hp, isCornerD]
      | true =>
        cases hv : isSzD 1 4 y with
        | false => simp [i32, startL, hs.r, hz, fx, fy, p1.r, p2.r, hp, hv, isCornerD]
        | true =>
          obtain ⟨xs, rfl⟩ : ∃ xs, y = .tup xs := by cases y <;> first | (cases hv; done) | exact ⟨_, rfl⟩
          have hl : xs.length ≤ LINE := by simp [isSzD] at hv; show xs.length ≤ 16777216; omega
          have hlc : evE (cc L j) (.lc (.call 5 (.cons (.var 1) .nil)) (.var 1) (.its (.ixv 0 (.cst (.int 1)))) .nil [1]) ⟨[some (.tup [x, .tup xs]), none], bx⟩ = .ok (.own (xs.map fun d => .bl (isShareD d))) ⟨[some (.tup [x, .tup xs]), none], bx⟩ :=
            lc_map (ds := xs) (by simp) hl (by simp [S.frzs, S.frz]) fun d hd => by
              have gd := (gd_tup hy).mem hd
              have h3 := isShare_ok hL (n := j) (by omega) gd
              have fd : d.frz = d := frz_of (gd_own gd)
              exact ⟨[some (.tup [x, .tup xs]), some d], [some (.tup [x, .tup xs]), some d], .bl (isShareD d), by simp [asgT, wipeL], by simp [gv_d _ _ _ (gd_own gd), fd, h3.r], rfl, by simp [wipeL]⟩
          simp [i32, startL, hs.r, hz, fx, fy, p1.r, p2.r, hp, hv, hlc, allB_map, isCornerD, allSh]
end
end Q.K26
end

section
set_option maxRecDepth 100000
set_option maxHeartbeats 4000000
set_option exponentiation.threshold 70
/-! N27g: judges of triangles, walls. -/
namespace Q.K26
open PySem L2 Q
def valLen : D → Nat
  | .tup [_, .tup vs] => vs.length
  | _ => 0
def isTriD : D → Bool
  | .tup [x, a, b, c] => isWiD 0 3 x && ([a, b, c].all isCornerD && (decide (valLen a = valLen b) && decide (valLen b = valLen c)))
  | _ => false
def headOk : D → Bool
  | .tup [.int a, .int b, .int c, .int e] => (a == 0 && (b == 0 && c == 1)) && decide (0 < e)
  | _ => false
def wallsRD : D → Bool
  | .tup (x :: xs) => decide (xs.length ≤ 4) && ((x :: xs).all isPlaneD && headOk x)
  | _ => false
theorem corner_inv {d : D} (h : isCornerD d = true) : ∃ p vs, d = .tup [p, .tup vs] := by
  cases d <;> first | (cases h; done) | skip
  rename_i xs
  simp [isCornerD] at h
  match xs, h with
  | [p, v], h =>
    cases v <;> first | (simp [isSzD] at h; done) | exact ⟨p, _, rfl⟩
theorem plane_inv {d : D} (h : isPlaneD d = true) : ∃ a b c e : Int, d = .tup [.int a, .int b, .int c, .int e] := by
  cases d <;> first | (cases h; done) | skip
  rename_i xs
  simp [isPlaneD] at h
  match xs, h with
  | [x, y, z, w], h =>
    simp at h
    obtain ⟨a, rfl, _⟩ := isWi_inv h.1.1
    obtain ⟨b, rfl, _⟩ := isWi_inv h.1.2.1
    obtain ⟨c, rfl, _⟩ := isWi_inv h.1.2.2.1
    obtain ⟨e, rfl, _⟩ := isWi_inv h.1.2.2.2
    exact ⟨a, b, c, e, rfl⟩
theorem tri_no {d : D} (hz : isSzD 4 4 d = false) : isTriD d = false := by
  cases hd : isTriD d with
  | false => rfl
  | true =>
    unfold isTriD at hd
    split at hd
    · cases hz
    · cases hd
theorem sized4 {d : D} (hz : isSzD 4 4 d = true) : ∃ x a b c, d = .tup [x, a, b, c] := by
  obtain ⟨xs, rfl, hl⟩ := sizedN (n := 4) hz
  match xs, hl with
  | [x, a, b, c], _ => exact ⟨x, a, b, c, rfl⟩
section
variable {L : Nat} (hL : 2 ^ 9000 ≤ L)
include hL
theorem isTri_ok {n : Nat} (hn : 5 ≤ n) {d : D} (h : Gd d) : Pu L n 33 [d] (.bl (isTriD d)) :=
  Pu.mk (f := ⟨1, 2, i33⟩) (by omega) rfl rfl fun j e bx => by
    have hf : d.frz = d := frz_of (gd_own h)
    have hs := (isSized_ok (L := L) (n := j) (by omega) h.ok 4 4)
    refine ⟨[some d, none], ?_⟩
    cases hz : isSzD 4 4 d with
    | false =>
      have e2 := tri_no hz
      simp [i33, startL, gv_d _ _ _ (gd_own h), hf, hs.r, hz, e2]
    | true =>
      obtain ⟨x, a, b, c, rfl⟩ := sized4 hz
      have hg := gd_tup h
      have hx : Gd x := hg.mem (by simp)
      have fx : x.frz = x := frz_of (gd_own hx)
      have p1 := isWi_ok (L := L) (n := j) (by omega) hx.ok 0 3
      cases hp : isWiD 0 3 x with
      | false => simp [i33, startL, hs.r, hz, fx, p1.r, hp, isTriD]
      | true =>
        have hcut : slD (.tup [x, a, b, c]) (some 1) none = some (.tup [a, b, c]) := rfl
        have hlc : evE (cc L j) (.lc (.call 32 (.cons (.var 1) .nil)) (.var 1) (.its (.slv 0 (.prt (.cst (.int 1))) .nil)) .nil [1]) ⟨[some (.tup [x, a, b, c]), none], bx⟩ = .ok (.own ([a, b, c].map fun d => .bl (isCornerD d))) ⟨[some (.tup [x, a, b, c]), none], bx⟩ :=
          lc_map (ds := [a, b, c]) (by simp [hcut]) (by show 3 ≤ 16777216; omega) (by simp [S.frzs, S.frz]) fun d hd => by
            have gd : Gd d := hg.mem (by simp at hd ⊢; rcases hd with h | h | h <;> simp [h])
            have h3 := isCorner_ok hL (n := j) (by omega) gd
            have fd : d.frz = d := frz_of (gd_own gd)
            exact ⟨[some (.tup [x, a, b, c]), some d], [some (.tup [x, a, b, c]), some d], .bl (isCornerD d), by simp [asgT, wipeL], by simp [gv_d _ _ _ (gd_own gd), fd, h3.r], rfl, by simp [wipeL]⟩
        simp only [List.map] at hlc
        cases ha : [a, b, c].all isCornerD with
        | false =>
          have e2 : isTriD (.tup [x, a, b, c]) = false := by simp [isTriD] at ha ⊢; grind
          have hb : bltD .all [.lst [.bl (isCornerD a), .bl (isCornerD b), .bl (isCornerD c)]] = some (.bl false) := by
            simp at ha ⊢
            cases h1 : isCornerD a <;> cases h2 : isCornerD b <;> simp_all
          simp [i33, startL, hs.r, hz, fx, p1.r, hp, hlc, hb, e2, -blt_all]
        | true =>
          simp at ha
          obtain ⟨ha1, hb1, hc1⟩ := ha
          obtain ⟨pa, va, rfl⟩ := corner_inv ha1
          obtain ⟨pb, vb, rfl⟩ := corner_inv hb1
          obtain ⟨pc, vc, rfl⟩ := corner_inv hc1
          simp [i33, startL, hs.r, hz, fx, p1.r, hp, hlc, ha1, hb1, hc1, isTriD, valLen]
          by_cases k1 : va.length = vb.length
          · by_cases k2 : vb.length = vc.length
            · simp [k1, k2]
            · simp [k1, k2]; omega
          · have k1' : ¬ ((va.length : Nat) : Int) = vb.length := by omega
            simp [k1, k1']
omit hL
theorem wallsR_ok {n : Nat} (hn : 4 ≤ n) {d : D} (h : Gd d) : Pu L n 34 [d] (.bl (wallsRD d)) :=
  Pu.mk (f := ⟨1, 2, i34⟩) (by omega) rfl rfl fun j e bx => by
    have hf : d.frz = d := frz_of (gd_own h)
    have hs := (isSized_ok (L := L) (n := j) (by omega) h.ok 1 5)
    refine ⟨[some d, none], ?_⟩
    cases hz : isSzD 1 5 d with
    | false =>
      have e2 : wallsRD d = false := by
        cases hd : wallsRD d with
        | false => rfl
        | true =>
          unfold wallsRD at hd
          split at hd
          · rename_i x xs
            simp [isSzD] at hz hd
            omega
          · cases hd
      simp [i34, startL, gv_d _ _ _ (gd_own h), hf, hs.r, hz, e2]
    | true =>
      obtain ⟨x, xs, rfl⟩ : ∃ x xs, d = .tup (x :: xs) := by
        cases d <;> first | (cases hz; done) | skip
        rename_i xs
        cases xs with
        | nil => simp [isSzD] at hz
        | cons x xs => exact ⟨x, xs, rfl⟩
      have hl4 : xs.length ≤ 4 := by simp [isSzD] at hz; omega
      have hg := gd_tup h
      have hlc : evE (cc L j) (.lc (.call 12 (.cons (.var 1) .nil)) (.var 1) (.its (.var 0)) .nil [1]) ⟨[some (.tup (x :: xs)), none], bx⟩ = .ok (.own ((x :: xs).map fun d => .bl (isPlaneD d))) ⟨[some (.tup (x :: xs)), none], bx⟩ :=
        lc_map (ds := x :: xs) (by simp) (by show xs.length + 1 ≤ 16777216; omega) (by simp [S.frzs, S.frz]) fun d hd => by
          have gd := hg.mem hd
          have h3 := isPlane_ok (L := L) (n := j) (by omega) gd
          have fd : d.frz = d := frz_of (gd_own gd)
          exact ⟨[some (.tup (x :: xs)), some d], [some (.tup (x :: xs)), some d], .bl (isPlaneD d), by simp [asgT, wipeL], by simp [gv_d _ _ _ (gd_own gd), fd, h3.r], rfl, by simp [wipeL]⟩
      have hb : bltD .all [.lst ((x :: xs).map fun d => D.bl (isPlaneD d))] = some (.bl ((x :: xs).all isPlaneD)) := by
        rw [blt_all, allB_map, Option.map_some, List.all_map]; rfl
      cases ha : (x :: xs).all isPlaneD with
      | false =>
        rw [ha] at hb
        have e2 : wallsRD (.tup (x :: xs)) = false := by
          show (decide (xs.length ≤ 4) && ((x :: xs).all isPlaneD && headOk x)) = false
          rw [ha]; simp
        simp only [List.map_cons] at hlc hb
        simp [i34, startL, hs.r, hz, hlc, hb, e2, -blt_all]
      | true =>
        rw [ha] at hb
        have hx : isPlaneD x = true := by simp at ha; exact ha.1
        obtain ⟨a, b, c, w, rfl⟩ := plane_inv hx
        have e2 : wallsRD (.tup (.tup [.int a, .int b, .int c, .int w] :: xs)) = headOk (.tup [.int a, .int b, .int c, .int w]) := by
          show (decide (xs.length ≤ 4) && ((_ :: xs).all isPlaneD && headOk _)) = _
          rw [ha]; simp [hl4]
        have hcut : slD (.tup [.int a, .int b, .int c, .int w]) none (some 3) = some (.tup [.int a, .int b, .int c]) := rfl
        simp only [List.map_cons] at hlc hb
        simp [i34, startL, hs.r, hz, hlc, hb, e2, hcut, headOk, -blt_all]
        cases (a == 0 && (b == 0 && c == 1)) <;> simp
end
end Q.K26
end

section
set_option maxRecDepth 100000
set_option maxHeartbeats 4000000
set_option exponentiation.threshold 70
/-! N27h: triangles, their values at a place. -/
namespace Q.K26
open PySem L2 Q
abbrev T3 : Type := Rat × Rat × Rat
/-- a corner -/
def crn (p : V) (l : List Rat) : D := .tup [p.d, shs l]
@[simp] theorem crn_frz (p : V) (l : List Rat) : (crn p l).frz = crn p l := rfl
@[simp] theorem crn_own (p : V) (l : List Rat) : (crn p l).isOwn = false := rfl
@[simp] theorem gv_crn (l : List (Option D)) (b : List (List D)) (i : Nat) (p : V) (m : List Rat) : gv (some (some (crn p m))) l b i = .ok (crn p m) ⟨l, b⟩ := rfl
@[simp] theorem ctD_crn (bx : List (List D)) (p : V) (l : List Rat) : ctD bx (crn p l) = some (crn p l) := rfl
@[simp] theorem ix_crn0 (p : V) (l : List Rat) : ixD (crn p l) (.int 0) = some p.d := rfl
@[simp] theorem ix_crn1 (p : V) (l : List Rat) : ixD (crn p l) (.int 1) = some (shs l) := rfl
@[simp] theorem len_shs (l : List Rat) : lenD (shs l) = some l.length := by simp [shs]
structure Tri where
  k : Int
  p : V
  q : V
  s : V
  vs : List T3
namespace Tri
def c1 (t : Tri) : D := crn t.p (t.vs.map (·.1))
def c2 (t : Tri) : D := crn t.q (t.vs.map (·.2.1))
def c3 (t : Tri) : D := crn t.s (t.vs.map (·.2.2))
def d (t : Tri) : D := .tup [.int t.k, t.c1, t.c2, t.c3]
structure Ok (t : Tri) : Prop where
  k0 : 0 ≤ t.k
  k3 : t.k ≤ 3
  zp : t.p.Z 10
  zq : t.q.Z 10
  zs : t.s.Z 10
  v1 : 1 ≤ t.vs.length
  v4 : t.vs.length ≤ 4
  v : ∀ x, x ∈ t.vs → Sz 10 x.1 ∧ Sz 10 x.2.1 ∧ Sz 10 x.2.2
end Tri
theorem crn_gd {k : Nat} {p : V} {l : List Rat} (hp : p.Z k) (hl : Szs k l) (hk : k ≤ 9000) : Gd (crn p l) := gd_tp (by
  unfold Gds Gds Gds
  exact ⟨vd_gd hp hk, shs_gd hl hk, trivial⟩)
theorem crn_is {p : V} {l : List Rat} (h1 : 1 ≤ l.length) (h4 : l.length ≤ 4) : isCornerD (crn p l) = true := by
  show (decide (2 = 2) && (isPointD p.d && (isSzD 1 4 (shs l) && allSh (shs l)))) = true
  have e1 : isSzD 1 4 (shs l) = true := by
    show (decide ((1 : Int) ≤ ((l.map sh).length : Nat)) && decide (((l.map sh).length : Int) ≤ 4)) = true
    rw [List.length_map]; simp; omega
  have e2 : allSh (shs l) = true := by
    show (l.map sh).all isShareD = true
    rw [List.all_eq_true]
    intro d hd
    obtain ⟨q, hq, rfl⟩ := List.mem_map.mp hd
    exact sh_share q
  rw [vd_point, e1, e2]; rfl
theorem Tri.Ok.s1 {t : Tri} (h : t.Ok) : Szs 10 (t.vs.map (·.1)) := fun q hq => by
  obtain ⟨x, hx, rfl⟩ := List.mem_map.mp hq; exact (h.v x hx).1
theorem Tri.Ok.s2 {t : Tri} (h : t.Ok) : Szs 10 (t.vs.map (·.2.1)) := fun q hq => by
  obtain ⟨x, hx, rfl⟩ := List.mem_map.mp hq; exact (h.v x hx).2.1
theorem Tri.Ok.s3 {t : Tri} (h : t.Ok) : Szs 10 (t.vs.map (·.2.2)) := fun q hq => by
  obtain ⟨x, hx, rfl⟩ := List.mem_map.mp hq; exact (h.v x hx).2.2
theorem Tri.Ok.g1 {t : Tri} (h : t.Ok) : Gd t.c1 := crn_gd h.zp h.s1 (by omega)
theorem Tri.Ok.g2 {t : Tri} (h : t.Ok) : Gd t.c2 := crn_gd h.zq h.s2 (by omega)
theorem Tri.Ok.g3 {t : Tri} (h : t.Ok) : Gd t.c3 := crn_gd h.zs h.s3 (by omega)
theorem Tri.Ok.gd {t : Tri} (h : t.Ok) : Gd t.d := gd_tp (by
  unfold Gds Gds Gds Gds Gds
  exact ⟨gd_i (by have := h.k0; have := h.k3; omega), h.g1, h.g2, h.g3, trivial⟩)
theorem Tri.Ok.is {t : Tri} (h : t.Ok) : isTriD t.d = true := by
  have a1 : isCornerD t.c1 = true := crn_is (by simpa using h.v1) (by simpa using h.v4)
  have a2 : isCornerD t.c2 = true := crn_is (by simpa using h.v1) (by simpa using h.v4)
  have a3 : isCornerD t.c3 = true := crn_is (by simpa using h.v1) (by simpa using h.v4)
  have l1 : valLen t.c1 = t.vs.length := by show ((t.vs.map _).map sh).length = _; simp
  have l2 : valLen t.c2 = t.vs.length := by show ((t.vs.map _).map sh).length = _; simp
  have l3 : valLen t.c3 = t.vs.length := by show ((t.vs.map _).map sh).length = _; simp
  show (isWiD 0 3 (.int t.k) && ([t.c1, t.c2, t.c3].all isCornerD && (decide (valLen t.c1 = valLen t.c2) && decide (valLen t.c2 = valLen t.c3)))) = true
  simp [a1, a2, a3, l1, l2, l3, isWiD, h.k0, h.k3]
/-- walls -/
structure Wok (ws : List W4) : Prop where
  hd : ∃ r, ws = ⟨0, 0, 1, 1⟩ :: r
  l : ws.length ≤ 4
  w : ∀ w, w ∈ ws → w.Ok
theorem Wok.gd {ws : List W4} (h : Wok ws) : Gd (wsD ws) := gd_tp (Gds.of fun d hd => by
  obtain ⟨w, hw, rfl⟩ := List.mem_map.mp hd
  exact (h.w w hw).gd)
theorem Wok.pls {ws : List W4} (h : Wok ws) : (ws.map W4.d).all isPlaneD = true := by
  rw [List.all_eq_true]
  intro d hd
  obtain ⟨w, hw, rfl⟩ := List.mem_map.mp hd
  exact (h.w w hw).pl
theorem Wok.is {ws : List W4} (h : Wok ws) : wallsRD (wsD ws) = true := by
  have hp := h.pls
  have hl := h.l
  obtain ⟨r, rfl⟩ := h.hd
  show (decide ((r.map W4.d).length ≤ 4) && (((W4.d ⟨0, 0, 1, 1⟩) :: r.map W4.d).all isPlaneD && headOk (W4.d ⟨0, 0, 1, 1⟩))) = true
  rw [List.map_cons] at hp
  rw [hp, List.length_map]
  have e : headOk (W4.d ⟨0, 0, 1, 1⟩) = true := rfl
  rw [e]
  simp at hl ⊢
  omega
def mixR (w : T3) (t : T3) : Rat := w.1 * t.1 + w.2.1 * t.2.1 + w.2.2 * t.2.2
def wD3 (w : T3) : D := .tup [sh w.1, sh w.2.1, sh w.2.2]
@[simp] theorem w3_frz (w : T3) : (wD3 w).frz = wD3 w := rfl
@[simp] theorem w3_own (w : T3) : (wD3 w).isOwn = false := rfl
@[simp] theorem gv_w3 (l : List (Option D)) (b : List (List D)) (i : Nat) (w : T3) : gv (some (some (wD3 w))) l b i = .ok (wD3 w) ⟨l, b⟩ := rfl
@[simp] theorem w3_items (w : T3) : (wD3 w).items = some [sh w.1, sh w.2.1, sh w.2.2] := rfl
theorem sumR_mix (w t : T3) : sumR [w.1 * t.1, w.2.1 * t.2.1, w.2.2 * t.2.2] = mixR w t := by simp [sumR, mixR, Rat.zero_add]
theorem Tri.at1 (t : Tri) {i : Nat} {x : T3} (h : t.vs[i]? = some x) : ixD (shs (t.vs.map (·.1))) (.int (i : Int)) = some (sh x.1) := ix_shs (by simp [h])
theorem Tri.at2 (t : Tri) {i : Nat} {x : T3} (h : t.vs[i]? = some x) : ixD (shs (t.vs.map (·.2.1))) (.int (i : Int)) = some (sh x.2.1) := ix_shs (by simp [h])
theorem Tri.at3 (t : Tri) {i : Nat} {x : T3} (h : t.vs[i]? = some x) : ixD (shs (t.vs.map (·.2.2))) (.int (i : Int)) = some (sh x.2.2) := ix_shs (by simp [h])
theorem range_at {n i : Nat} {d : D} (h : (rangeD 0 n)[i]? = some d) : d = .int (i : Int) ∧ i < n := by
  unfold rangeD at h
  rw [List.getElem?_map] at h
  obtain ⟨x, hx, rfl⟩ := map_inv h
  have := List.getElem?_eq_some_iff.mp hx
  obtain ⟨h1, h2⟩ := this
  simp at h1 h2
  subst h2
  exact ⟨by simp, h1⟩
section
variable {L : Nat} (hL : 2 ^ 9000 ≤ L)
include hL
theorem checkTri_ok {n : Nat} (hn : 6 ≤ n) {t : Tri} (ht : t.Ok) {ws : List W4} (hw : Wok ws) : Pu L n 35 [t.d, wsD ws] .non := fun bx => by
  obtain ⟨m, rfl⟩ : ∃ m, n = m + 1 := ⟨n - 1, by omega⟩
  rw [callN_eq (f := ⟨2, 2, i35⟩) rfl]
  have a := isTri_ok hL (n := m) (by omega) ht.gd
  have b := wallsR_ok (L := L) (n := m) (by omega) hw.gd
  rw [ht.is] at a
  rw [hw.is] at b
  have fz : t.d.frz = t.d := rfl
  have gz : ∀ l, gv (some (some t.d)) l bx 0 = .ok t.d ⟨l, bx⟩ := fun l => rfl
  refine runF_nx (s := ⟨[some t.d, some (wsD ws)], bx⟩) rfl ?_
  simp [i35, startL, gz, fz, a.r, b.r]
theorem pointsOf_ok {n : Nat} (hn : 1 ≤ n) (t : Tri) : Pu L n 36 [t.d] (.own [t.p.d, t.q.d, t.s.d]) :=
  Pu.mk (f := ⟨1, 2, i36⟩) (by omega) rfl rfl fun j e bx => by
    refine ⟨[some t.d, none], ?_⟩
    have hcut : slD t.d (some 1) (some 4) = some (.tup [t.c1, t.c2, t.c3]) := rfl
    have ct : ctD bx t.d = some t.d := rfl
    let ys : List (D × V) := [(t.c1, t.p), (t.c2, t.q), (t.c3, t.s)]
    have hlc : evE (cc L j) (.lc (.ixv 1 (.cst (.int 0))) (.var 1) (.its (.slv 0 (.prt (.cst (.int 1))) (.prt (.cst (.int 4))))) .nil [1]) ⟨[some t.d, none], bx⟩ = .ok (.own (ys.map fun y => y.2.d)) ⟨[some t.d, none], bx⟩ :=
      lc_mapA ys (fun y => y.1) (fun y => y.2.d) (by simp [hcut, ct, ys]) (by show 3 ≤ 16777216; omega) (by simp [S.frzs, S.frz]) fun y hy => by
        refine ⟨[some t.d, some y.1], [some t.d, some y.1], y.2.d, by simp [asgT, wipeL], ?_, rfl, by simp [wipeL]⟩
        simp [ys] at hy
        rcases hy with rfl | rfl | rfl <;> simp [Tri.c1, Tri.c2, Tri.c3]
    simp [i36, startL, hlc, ys]
theorem hit_ok {n : Nat} (hn : 9 ≤ n) {t : Tri} (ht : t.Ok) {ws : List W4} (hw : Wok ws) {w h i j : Int} (w1 : 1 ≤ w) (w2 : w ≤ 5) (h1 : 1 ≤ h) (h2 : h ≤ 5) (i1 : 0 ≤ i) (i2 : i < w) (j1 : 0 ≤ j) (j2 : j < h) :
    Pu L n 41 [t.d, wsD ws, .int w, .int h, .tup [.int i, .int j]] (metD t.p t.q t.s (rayV w h i j) ws) :=
  Pu.mk (f := ⟨5, 5, i41⟩) (by omega) rfl rfl fun m e bx => by
    have hz : Tz t.p t.q t.s (rayV w h i j) := ⟨ht.zp, ht.zq, ht.zs, rayV_z w1 w2 h1 h2 i1 i2 j1 j2, rfl⟩
    have c1 := checkTri_ok hL (n := m) (by omega) ht hw
    have c2 := checkSample_ok (L := L) (n := m) (by omega) w1 w2 h1 h2 i1 i2 j1 j2
    have c3 := pointsOf_ok hL (n := m) (by omega) t
    have c4 := rayV_ok hL (n := m) (by omega) (w := w) (h := h) (i := i) (j := j) (by omega) (by omega)
    have c5 := met_ok hL hz hw.w (n := m) (by omega)
    have fz : t.d.frz = t.d := rfl
    have gz : ∀ l, gv (some (some t.d)) l bx 0 = .ok t.d ⟨l, bx⟩ := fun l => rfl
    refine ⟨[some t.d, some (wsD ws), some (.int w), some (.int h), some (.tup [.int i, .int j])], ?_⟩
    simp [i41, startL, gz, fz, c1.r, c2.r, c3.r, c4.r, c5.r]
end
end Q.K26
end

section
set_option maxRecDepth 100000
set_option maxHeartbeats 4000000
set_option exponentiation.threshold 70
/-! N27i: values mixed by weights, both ways. -/
namespace Q.K26
open PySem L2 Q
theorem range_len' (a : Int) (n : Nat) : (rangeD a n).length = n := by simp [rangeD]
theorem seq_of {c : Env} {L : Nat} {x y : St} {l l1 : List (Option D)} {b b1 : List (List D)} {R : Res Flow} (h1 : evS c L x ⟨l, b⟩ = .ok .nx ⟨l1, b1⟩) (h2 : evS c L y ⟨l1, b1⟩ = R) : evS c L (.seq x y) ⟨l, b⟩ = R := by
  rw [es_seq, h1, Res.bnd_ok, seqK_nx, h2]
section
variable {L : Nat} (hL : 2 ^ 9000 ≤ L)
include hL

theorem mixed_okIn {j : Nat} (hj : 5 ≤ j) {t : Tri} (ht : t.Ok) {w : T3} (hw : Szs 600 [w.1, w.2.1, w.2.2]) {x2 : Option D} {i : Nat} {x : T3} (hx : t.vs[i]? = some x) (bx : List (List D)) :
    evE (cc L j) (.lc (.call 8 (.cons (.var 5) (.cons (.idx (.ixv 4 (.cst (.int 1))) (.var 3)) .nil))) (.tup (.cons (.var 4) (.cons (.var 5) .nil))) (.zip (.var 0) (.var 1)) .nil [4, 5]) ⟨[some (.tup [t.c1, t.c2, t.c3]), some (wD3 w), x2, some (.int i), none, none], bx⟩ =
      .ok (.own ([w.1 * x.1, w.2.1 * x.2.1, w.2.2 * x.2.2].map sh)) ⟨[some (.tup [t.c1, t.c2, t.c3]), some (wD3 w), x2, some (.int i), none, none], bx⟩ := by
  have hv := ht.v x (List.mem_of_getElem? hx)
  have a1 := times_ok hL (n := j) (by omega) (hw w.1 (by simp)) hv.1 (by omega)
  have a2 := times_ok hL (n := j) (by omega) (hw w.2.1 (by simp)) hv.2.1 (by omega)
  have a3 := times_ok hL (n := j) (by omega) (hw w.2.2 (by simp)) hv.2.2 (by omega)
  have q1 := t.at1 hx
  have q2 := t.at2 hx
  have q3 := t.at3 hx
  let ys : List (D × Rat × Rat) := [(t.c1, w.1, x.1), (t.c2, w.2.1, x.2.1), (t.c3, w.2.2, x.2.2)]
  have hlc := lc_mapA (c := cc L j) (elt := .call 8 (.cons (.var 5) (.cons (.idx (.ixv 4 (.cst (.int 1))) (.var 3)) .nil))) (tg := .tup (.cons (.var 4) (.cons (.var 5) .nil))) (it := .zip (.var 0) (.var 1)) (own := [4, 5]) (l := [some (.tup [t.c1, t.c2, t.c3]), some (wD3 w), x2, some (.int i), none, none]) (l1 := [some (.tup [t.c1, t.c2, t.c3]), some (wD3 w), x2, some (.int i), none, none]) (bx := bx) ys (fun y => .tup [y.1, sh y.2.1]) (fun y => sh (y.2.1 * y.2.2)) (by simp [ys, zipD]) (by show 3 ≤ 16777216; omega) (by simp [S.frzs, S.frz]) fun y hy => by
    refine ⟨[some (.tup [t.c1, t.c2, t.c3]), some (wD3 w), x2, some (.int i), some y.1, some (sh y.2.1)], [some (.tup [t.c1, t.c2, t.c3]), some (wD3 w), x2, some (.int i), some y.1, some (sh y.2.1)], sh (y.2.1 * y.2.2), by simp [asgT, asgT.asgTs, wipeL], ?_, rfl, by simp [wipeL]⟩
    simp [ys] at hy
    rcases hy with rfl | rfl | rfl
    · simp [Tri.c1, q1, a1.r]
    · simp [Tri.c2, q2, a2.r]
    · simp [Tri.c3, q3, a3.r]
  exact hlc
end
end Q.K26
end

section
set_option maxRecDepth 100000
set_option maxHeartbeats 4000000
set_option exponentiation.threshold 70
/-! N27j: values there; what is the same as itself. -/
namespace Q.K26
open PySem L2 Q
theorem sok1 : shN 60 (.str "flat") = true := by decide +kernel
theorem sok2 : shN 60 (.str "beside") = true := by decide +kernel
theorem sok3 : shN 60 (.str "wall") = true := by decide +kernel
theorem sok4 : shN 60 (.str "hit") = true := by decide +kernel
theorem seq1 : opC .eq (.str "flat") (.str "hit") = some false := by decide +kernel
theorem seq2 : opC .eq (.str "beside") (.str "hit") = some false := by decide +kernel
theorem seq3 : opC .eq (.str "wall") (.str "hit") = some false := by decide +kernel
theorem seq4 : opC .eq (.str "hit") (.str "hit") = some true := by decide +kernel
theorem sne1 : opC .ne (.str "flat") (.str "hit") = some true := by decide +kernel
theorem sne2 : opC .ne (.str "beside") (.str "hit") = some true := by decide +kernel
theorem sne3 : opC .ne (.str "wall") (.str "hit") = some true := by decide +kernel
theorem sne4 : opC .ne (.str "hit") (.str "hit") = some false := by decide +kernel
theorem met_cases (p q s r : V) (ws : List W4) : (∃ tg rest, metD p q s r ws = .tup (.str tg :: rest) ∧ opC .eq (.str tg) (.str "hit") = some false ∧ opC .ne (.str tg) (.str "hit") = some true ∧ (tg = "flat" ∨ tg = "beside" ∨ tg = "wall") ∧ (rest = [] ∨ ∃ k : Int, rest = [.int k])) ∨
    (fbO p q s r = none ∧ firstW p q s r 0 ws = none ∧ metD p q s r ws = hitD p q s r) := by
  cases hf : fbO p q s r with
  | some d =>
    left
    have e : metD p q s r ws = d := by simp [metD, hf]
    rw [e]
    have hd : d = .tup [.str "flat"] ∨ ∃ k, d = besD k := by
      unfold fbO at hf
      grind
    rcases hd with rfl | ⟨k, rfl⟩
    · exact ⟨"flat", [], rfl, seq1, sne1, .inl rfl, .inl rfl⟩
    · exact ⟨"beside", [.int k], rfl, seq2, sne2, .inr (.inl rfl), .inr ⟨k, rfl⟩⟩
  | none =>
    cases hg : firstW p q s r 0 ws with
    | some m =>
      left
      exact ⟨"wall", [.int m], by simp [metD, hf, hg], seq3, sne3, .inr (.inr rfl), .inr ⟨m, rfl⟩⟩
    | none => exact .inr ⟨rfl, rfl, by simp [metD, hf, hg]⟩
section
variable {L : Nat}
def valD (t : Tri) (r : V) : D := .tup [sh (dep t.p t.q t.s r), shs (t.vs.map (mixR (wgt t.p t.q t.s r)))]
@[simp] theorem valD_frz (t : Tri) (r : V) : (valD t r).frz = valD t r := rfl
@[simp] theorem valD_own (t : Tri) (r : V) : (valD t r).isOwn = false := rfl
@[simp] theorem gv_valD (l : List (Option D)) (b : List (List D)) (i : Nat) (t : Tri) (r : V) : gv (some (some (valD t r))) l b i = .ok (valD t r) ⟨l, b⟩ := rfl
@[simp] theorem ctD_valD (bx : List (List D)) (t : Tri) (r : V) : ctD bx (valD t r) = some (valD t r) := rfl
@[simp] theorem ix_val1 (t : Tri) (r : V) : ixD (valD t r) (.int 1) = some (shs (t.vs.map (mixR (wgt t.p t.q t.s r)))) := rfl
@[simp] theorem gv_hitD (l : List (Option D)) (b : List (List D)) (i : Nat) (p q s r : V) : gv (some (some (hitD p q s r))) l b i = .ok (hitD p q s r) ⟨l, b⟩ := rfl
@[simp] theorem ctD_hitD (bx : List (List D)) (p q s r : V) : ctD bx (hitD p q s r) = some (hitD p q s r) := rfl
@[simp] theorem ix_hit0 (p q s r : V) : ixD (hitD p q s r) (.int 0) = some (.str "hit") := rfl
@[simp] theorem ix_hit1 (p q s r : V) : ixD (hitD p q s r) (.int 1) = some (sh (dep p q s r)) := rfl
@[simp] theorem ix_hit2 (p q s r : V) : ixD (hitD p q s r) (.int 2) = some (wD3 (wgt p q s r)) := rfl
/-- the weights' sizes -/
theorem wgt_sz {p q s r : V} (hz : Tz p q s r) (h0 : (whole p q s).dot r ≠ 0) : Szs 600 [(wgt p q s r).1, (wgt p q s r).2.1, (wgt p q s r).2.2] := by
  have zd := z_dep hz
  have sz_div : ∀ {k m : Nat} {a b : Rat}, Sz k a → Sz m b → b ≠ 0 → Sz (k + m) (a / b) := fun {k m a b} ha hb h0 => by
    have hq0 : b.num ≠ 0 := fun z => h0 (Rat.num_eq_zero.mp z)
    have hn0 : a.den * b.num.natAbs ≠ 0 := Nat.mul_ne_zero a.den_nz (by omega)
    have h1 : (a.num * b.den).natAbs < 2 ^ (k + m) := by rw [Int.natAbs_mul, Nat.pow_add]; exact Nat.mul_lt_mul'' ha.1 (by simpa using hb.2)
    have h2 : a.den * b.num.natAbs < 2 ^ (k + m) := by rw [Nat.pow_add]; exact Nat.mul_lt_mul'' ha.2 hb.1
    rcases Int.lt_or_gt_of_ne hq0 with hn | hp
    · rw [div_neg hn hn0]; exact norm_sz _ (by rwa [Int.natAbs_neg]) h2
    · rw [div_pos hp hn0]; exact norm_sz _ h1 h2
  intro x hx
  simp [wgt] at hx
  rcases hx with rfl | rfl | rfl
  · exact (sz_div zd.2.2.1 zd.2.1 h0).mono (by omega)
  · exact (sz_div zd.2.2.2.1 zd.2.1 h0).mono (by omega)
  · exact (sz_div zd.2.2.2.2 zd.2.1 h0).mono (by omega)
theorem dep_sz {p q s r : V} (hz : Tz p q s r) (h0 : (whole p q s).dot r ≠ 0) : Sz 600 (dep p q s r) := by
  have zd := z_dep hz
  have hq0 : ((whole p q s).dot r).num ≠ 0 := fun z => h0 (Rat.num_eq_zero.mp z)
  unfold dep
  generalize (whole p q s).dot r = b at *
  generalize vol p q s = a at *
  have hn0 : a.den * b.num.natAbs ≠ 0 := Nat.mul_ne_zero a.den_nz (by omega)
  have h1 : (a.num * b.den).natAbs < 2 ^ (155 + 407) := by rw [Int.natAbs_mul, Nat.pow_add]; exact Nat.mul_lt_mul'' zd.1.1 (by simpa using zd.2.1.2)
  have h2 : a.den * b.num.natAbs < 2 ^ (155 + 407) := by rw [Nat.pow_add]; exact Nat.mul_lt_mul'' zd.1.2 zd.2.1.1
  rcases Int.lt_or_gt_of_ne hq0 with hn | hp
  · rw [div_neg hn hn0]; exact (norm_sz _ (by rwa [Int.natAbs_neg]) h2).mono (by omega)
  · rw [div_pos hp hn0]; exact (norm_sz _ h1 h2).mono (by omega)
variable (hL : 2 ^ 9000 ≤ L)
include hL
end
end Q.K26
end

section
set_option maxRecDepth 100000
set_option maxHeartbeats 4000000
set_option exponentiation.threshold 70
/-! N27k: one sample, all that the law asks of it. -/
namespace Q.K26
open PySem L2 Q
def m1 : St := (.asg (.tup (.cons (.var 9) (.cons (.var 10) .nil))) (.tup (.cons (.lc (.ixv 14 (.cst (.int 0))) (.var 14) (.its (.slv 0 (.prt (.cst (.int 1))) .nil)) .nil [14]) (.cons (.call 65 (.cons (.var 2) (.cons (.var 3) (.cons (.var 4) .nil)))) .nil))))
def m5 : St := (.ite (.tru (.cmp .ne (.ixv 5 (.cst (.int 0))) (.cst (.str "hit")))) (.seq (.ret (.cmp .isN (.var 6) (.cst .non))) .nil) .nil)
def m11 : St := (.ret (.cmp .eq (.blt .tuple (.cons (.var 8) .nil)) (.var 7)))
theorem eq_self {h : Nat} {d : D} (hp : Pl h d) (hh : h ≤ 60) : opC .eq d d = some true := by
  rw [opC_eq, shN_pl h 60 d hp hh, eqD_refl h d hp]; rfl
@[simp] theorem td_frz (t : Tri) : t.d.frz = t.d := rfl
@[simp] theorem td_own (t : Tri) : t.d.isOwn = false := rfl
@[simp] theorem gv_td (l : List (Option D)) (b : List (List D)) (i : Nat) (t : Tri) : gv (some (some t.d)) l b i = .ok t.d ⟨l, b⟩ := rfl
@[simp] theorem ctD_td (bx : List (List D)) (t : Tri) : ctD bx t.d = some t.d := rfl
@[simp] theorem cut_td (t : Tri) : slD t.d (some 1) none = some (.tup [t.c1, t.c2, t.c3]) := rfl
theorem metD_own (p q s r : V) (ws : List W4) : (metD p q s r ws).isOwn = false := by
  rcases met_cases p q s r ws with ⟨tg, rest, e, _⟩ | ⟨_, _, e⟩ <;> rw [e] <;> rfl
section
variable {L : Nat} (hL : 2 ^ 9000 ≤ L)
section
variable {t : Tri} (ht : t.Ok) {ws : List W4} (hw : Wok ws) {w h i j : Int} (w1 : 1 ≤ w) (w2 : w ≤ 5) (h1 : 1 ≤ h) (h2 : h ≤ 5) (i1 : 0 ≤ i) (i2 : i < w) (j1 : 0 ≤ j) (j2 : j < h)
include hL ht hw w1 w2 h1 h2 i1 i2 j1 j2

/-- no hit -/
theorem e5_no {m : Nat} (bx : List (List D)) {tg : Str} {rest : List D} (e2 : opC .ne (.str tg) (.str "hit") = some true) : evS (cc L m) L m5 ⟨[some t.d, some (wsD ws), some (.int w), some (.int h), some (.tup [.int i, .int j]), some (.tup (.str tg :: rest)), some .non, none, none, some (.lst [t.p.d, t.q.d, t.s.d]), some (rayV w h i j).d, none, none, none, none, none, none, none], bx⟩ = .ok (.rt (.bl true)) ⟨[some t.d, some (wsD ws), some (.int w), some (.int h), some (.tup [.int i, .int j]), some (.tup (.str tg :: rest)), some .non, none, none, some (.lst [t.p.d, t.q.d, t.s.d]), some (rayV w h i j).d, none, none, none, none, none, none, none], bx⟩ := by
  have e3 : opC .isN .non .non = some true := rfl
  simp [m5, e2, e3, -opC_ne]
section
variable (q1 : fbO t.p t.q t.s (rayV w h i j) = none) (q2 : firstW t.p t.q t.s (rayV w h i j) 0 ws = none)
include q1 q2
theorem e5_ok {m : Nat} (bx : List (List D)) : evS (cc L m) L m5 ⟨[some t.d, some (wsD ws), some (.int w), some (.int h), some (.tup [.int i, .int j]), some (hitD t.p t.q t.s (rayV w h i j)), some (valD t (rayV w h i j)), none, none, some (.lst [t.p.d, t.q.d, t.s.d]), some (rayV w h i j).d, none, none, none, none, none, none, none], bx⟩ = .ok .nx ⟨[some t.d, some (wsD ws), some (.int w), some (.int h), some (.tup [.int i, .int j]), some (hitD t.p t.q t.s (rayV w h i j)), some (valD t (rayV w h i j)), none, none, some (.lst [t.p.d, t.q.d, t.s.d]), some (rayV w h i j).d, none, none, none, none, none, none, none], bx⟩ := by
  simp [m5, sne4, -opC_ne]
theorem facts : Tz t.p t.q t.s (rayV w h i j) ∧ (whole t.p t.q t.s).dot (rayV w h i j) ≠ 0 ∧ (wgt t.p t.q t.s (rayV w h i j)).1 + (wgt t.p t.q t.s (rayV w h i j)).2.1 + (wgt t.p t.q t.s (rayV w h i j)).2.2 = 1 ∧ (0 ≤ (wgt t.p t.q t.s (rayV w h i j)).1 ∧ 0 ≤ (wgt t.p t.q t.s (rayV w h i j)).2.1 ∧ 0 ≤ (wgt t.p t.q t.s (rayV w h i j)).2.2) ∧ ¬ (dep t.p t.q t.s (rayV w h i j) < 1) ∧
    dep t.p t.q t.s (rayV w h i j) * (rayV w h i j).x = mixR (wgt t.p t.q t.s (rayV w h i j)) (t.p.x, t.q.x, t.s.x) ∧ dep t.p t.q t.s (rayV w h i j) * (rayV w h i j).y = mixR (wgt t.p t.q t.s (rayV w h i j)) (t.p.y, t.q.y, t.s.y) ∧ dep t.p t.q t.s (rayV w h i j) * (rayV w h i j).z = mixR (wgt t.p t.q t.s (rayV w h i j)) (t.p.z, t.q.z, t.s.z) := by
  have hz : Tz t.p t.q t.s (rayV w h i j) := ⟨ht.zp, ht.zq, ht.zs, rayV_z w1 w2 h1 h2 i1 i2 j1 j2, rfl⟩
  obtain ⟨ht', k1, k2, k3, k4⟩ := fb_none q1
  refine ⟨hz, whole_ne hz.rz ht' k1 k2 k3 k4, weights_one hz.rz ht' k1 k2 k3 k4, weights_ge hz.rz ht' k1 k2 k3 k4, ?_, there_x hz.rz ht' k1 k2 k3 k4, there_y hz.rz ht' k1 k2 k3 k4, there_z hz.rz ht' k1 k2 k3 k4⟩
  obtain ⟨rs, rfl⟩ := hw.hd
  unfold firstW at q2
  have hk : ¬ ((wf t.p t.q t.s ⟨0, 0, 1, 1⟩).mv (rayV w h i j) * (whole t.p t.q t.s).mv (rayV w h i j) < 0) := fun z => by
    rw [if_pos z] at q2; cases q2
  exact depth_ge hz.rz ht' k1 k2 k3 k4 hk
end
end
end
end Q.K26
end

section
set_option maxRecDepth 100000
set_option maxHeartbeats 4000000
set_option exponentiation.threshold 70
/-! N27l: one sample, its values and its place. -/
namespace Q.K26
open PySem L2 Q
theorem mix_sz {w x : T3} (hw : Szs 600 [w.1, w.2.1, w.2.2]) (hx : Sz 10 x.1 ∧ Sz 10 x.2.1 ∧ Sz 10 x.2.2) : Sz 1832 (mixR w x) :=
  (sz_add (sz_add (sz_mul (hw w.1 (by simp)) hx.1) (sz_mul (hw w.2.1 (by simp)) hx.2.1)) (sz_mul (hw w.2.2 (by simp)) hx.2.2)).mono (by omega)
section
variable {L : Nat} (hL : 2 ^ 9000 ≤ L)
section
variable {t : Tri} (ht : t.Ok) {ws : List W4} (hw : Wok ws) {w h i j : Int} (w1 : 1 ≤ w) (w2 : w ≤ 5) (h1 : 1 ≤ h) (h2 : h ≤ 5) (i1 : 0 ≤ i) (i2 : i < w) (j1 : 0 ≤ j) (j2 : j < h)
variable (q1 : fbO t.p t.q t.s (rayV w h i j) = none) (q2 : firstW t.p t.q t.s (rayV w h i j) 0 ws = none)
include hL ht hw w1 w2 h1 h2 i1 i2 j1 j2 q1 q2
theorem e11_ok {m : Nat} (bx : List (List D)) {x11 x12 x13 : Option D} : ∃ l, evS (cc L m) L m11 ⟨[some t.d, some (wsD ws), some (.int w), some (.int h), some (.tup [.int i, .int j]), some (hitD t.p t.q t.s (rayV w h i j)), some (valD t (rayV w h i j)), some (V.smul (dep t.p t.q t.s (rayV w h i j)) (rayV w h i j)).d, some (.own [sh (dep t.p t.q t.s (rayV w h i j) * (rayV w h i j).x), sh (dep t.p t.q t.s (rayV w h i j) * (rayV w h i j).y), sh (dep t.p t.q t.s (rayV w h i j) * (rayV w h i j).z)]), some (.lst [t.p.d, t.q.d, t.s.d]), some (rayV w h i j).d, x11, x12, x13, none, none, none, none], bx⟩ = .ok (.rt (.bl true)) ⟨l, bx⟩ := by
  refine ⟨[some t.d, some (wsD ws), some (.int w), some (.int h), some (.tup [.int i, .int j]), some (hitD t.p t.q t.s (rayV w h i j)), some (valD t (rayV w h i j)), some (V.smul (dep t.p t.q t.s (rayV w h i j)) (rayV w h i j)).d, some (.lst [sh (dep t.p t.q t.s (rayV w h i j) * (rayV w h i j).x), sh (dep t.p t.q t.s (rayV w h i j) * (rayV w h i j).y), sh (dep t.p t.q t.s (rayV w h i j) * (rayV w h i j).z)]), some (.lst [t.p.d, t.q.d, t.s.d]), some (rayV w h i j).d, x11, x12, x13, none, none, none, none], ?_⟩
  have ed : D.tup [sh (dep t.p t.q t.s (rayV w h i j) * (rayV w h i j).x), sh (dep t.p t.q t.s (rayV w h i j) * (rayV w h i j).y), sh (dep t.p t.q t.s (rayV w h i j) * (rayV w h i j).z)] = (V.smul (dep t.p t.q t.s (rayV w h i j)) (rayV w h i j)).d := rfl
  have es := eq_self (h := 2) (d := (V.smul (dep t.p t.q t.s (rayV w h i j)) (rayV w h i j)).d) (shs_pl _ (by simp)) (by omega)
  simp [m11, ed, es, -opC_eq]
end
include hL
end
end Q.K26
end

section
set_option maxRecDepth 100000
set_option maxHeartbeats 4000000
set_option exponentiation.threshold 70
/-! N27m: walls, corners, samples drawn. -/
namespace Q.K26
open PySem L2 Q
section
variable {L : Nat}
end
end Q.K26
end

section
set_option maxRecDepth 100000
set_option maxHeartbeats 4000000
set_option exponentiation.threshold 70
/-! N27n: corners, triangles drawn. -/
namespace Q.K26
open PySem L2 Q
section
variable {L : Nat} (hL : 2 ^ 9000 ≤ L)
include hL
theorem vals3 {k : Nat} : ∀ (a b c : List Rat), a.length = k → b.length = k → c.length = k → ∃ vs : List T3, a = vs.map (·.1) ∧ b = vs.map (·.2.1) ∧ c = vs.map (·.2.2) ∧ vs.length = k := fun a b c ha hb hc => by
  refine ⟨a.zip (b.zip c), ?_, ?_, ?_, by simp [ha, hb, hc]⟩
  · have := List.map_fst_zip (l₁ := a) (l₂ := b.zip c) (by simp [ha, hb, hc])
    exact this.symm
  · have h1 := List.map_snd_zip (l₁ := a) (l₂ := b.zip c) (by simp [ha, hb, hc])
    have h2 := List.map_fst_zip (l₁ := b) (l₂ := c) (by simp [hb, hc])
    have e : (a.zip (b.zip c)).map (fun x => x.2.1) = ((a.zip (b.zip c)).map Prod.snd).map Prod.fst := by rw [List.map_map]; rfl
    rw [e, h1, h2]
  · have h1 := List.map_snd_zip (l₁ := a) (l₂ := b.zip c) (by simp [ha, hb, hc])
    have h2 := List.map_snd_zip (l₁ := b) (l₂ := c) (by simp [hb, hc])
    have e : (a.zip (b.zip c)).map (fun x => x.2.2) = ((a.zip (b.zip c)).map Prod.snd).map Prod.snd := by rw [List.map_map]; rfl
    rw [e, h1, h2]
end
end Q.K26
end

section
set_option maxRecDepth 100000
set_option maxHeartbeats 4000000
set_option exponentiation.threshold 70
/-! P31a: between, both ways; orders. -/
namespace Q.K26
open PySem L2 Q
@[simp] theorem gb_mw1 : prg.gb 4 = some (.int 5) := rfl
@[simp] theorem gb_n7 : prg.gb 11 = some (.int 7) := rfl
def bt (w a b : Rat) : Rat := a + w * (b - a)
def btL (w : Rat) (cs ds : List Rat) : List Rat := (cs.zip ds).map fun p => bt w p.1 p.2
def btV (w : Rat) (a b : V) : V := ⟨bt w a.x b.x, bt w a.y b.y, bt w a.z b.z⟩
theorem sz_bt {j k : Nat} {w a b : Rat} (hw : Sz j w) (ha : Sz k a) (hb : Sz k b) : Sz (k + (j + (k + k + 1)) + 1) (bt w a b) := sz_add ha (sz_mul hw (sz_sub hb ha))
theorem z_btV {j k : Nat} {w : Rat} {a b : V} (hw : Sz j w) (ha : a.Z k) (hb : b.Z k) : (btV w a b).Z (k + (j + (k + k + 1)) + 1) := ⟨sz_bt hw ha.1 hb.1, sz_bt hw ha.2.1 hb.2.1, sz_bt hw ha.2.2 hb.2.2⟩
theorem szs_btL {j k : Nat} {w : Rat} {cs ds : List Rat} (hw : Sz j w) (ha : Szs k cs) (hb : Szs k ds) : Szs (k + (j + (k + k + 1)) + 1) (btL w cs ds) := fun q hq => by
  obtain ⟨p, hp, rfl⟩ := List.mem_map.mp hq
  exact sz_bt hw (ha _ (List.of_mem_zip hp).1) (hb _ (List.of_mem_zip hp).2)
theorem btL_len {w : Rat} {cs ds : List Rat} (h : cs.length = ds.length) : (btL w cs ds).length = cs.length := by simp [btL, h]
section
variable {L : Nat} (hL : 2 ^ 9000 ≤ L)
include hL
end
end Q.K26
end

section
set_option maxRecDepth 100000
set_option maxHeartbeats 4000000
set_option exponentiation.threshold 70
/-! P31b: corners cut by a wall, in plain rationals. -/
namespace Q.K26
open PySem L2 Q
structure Cn where
  p : V
  l : List Rat
namespace Cn
def d (c : Cn) : D := crn c.p c.l
end Cn
def ahd (w : W4) (c : Cn) : Rat := w.v.dot c.p - w.e
def btC (u : Rat) (c o : Cn) : Cn := ⟨btV u c.p o.p, btL u c.l o.l⟩
theorem ahd_bt (w : W4) (u : Rat) (c o : Cn) : ahd w (btC u c o) = bt u (ahd w c) (ahd w o) := by
  simp only [ahd, btC, btV, bt, V.dot]; grind
theorem castN (D : Nat) : ((D : Int) : Rat) = (D : Rat) := by first | rfl | exact Rat.intCast_natCast D
/-- a share by a common bottom -/
def Hm (D k : Nat) (q : Rat) : Prop := ∃ n : Int, n.natAbs < 2 ^ k ∧ q * (D : Rat) = (n : Rat)
theorem Hm.sz {D k : Nat} {q : Rat} (h : Hm D k q) (h0 : 0 < D) (hD : D < 2 ^ k) : Sz k q := by
  obtain ⟨n, h1, h2⟩ := h
  have hd : (D : Rat) ≠ 0 := by
    intro e
    have : (D : Rat) = ((D : Int) : Rat) := (castN D).symm
    rw [this] at e
    have := Rat.intCast_eq_zero_iff.mp e
    omega
  have e : q = Rat.normalize n D (by omega) := by
    rw [Rat.normalize_eq_mkRat, Rat.mkRat_eq_div]
    have : ((D : Int) : Rat) = (D : Rat) := castN D
    grind
  rw [e]
  exact norm_sz _ h1 hD
theorem natAbs_bd {a b : Int} {j k : Nat} (ha : a.natAbs < 2 ^ j) (hb : b.natAbs < 2 ^ k) : (a * b).natAbs < 2 ^ (j + k) := by
  rw [Int.natAbs_mul, Nat.pow_add]; exact Nat.mul_lt_mul'' ha hb
theorem hm_ahd {w : W4} (hw : w.Ok) {c : Cn} {D k : Nat} (hD : D < 2 ^ k) (hx : Hm D k c.p.x) (hy : Hm D k c.p.y) (hz : Hm D k c.p.z) : Hm D (k + 4) (ahd w c) := by
  obtain ⟨x, x1, x2⟩ := hx
  obtain ⟨y, y1, y2⟩ := hy
  obtain ⟨z, z1, z2⟩ := hz
  refine ⟨w.a * x + w.b * y + w.c * z - w.e * D, ?_, ?_⟩
  · have h2 : ∀ {i : Int}, i.natAbs ≤ 2 → i.natAbs < 2 ^ 2 := fun h => by omega
    have e1 := natAbs_bd (h2 hw.a) x1
    have e2 := natAbs_bd (h2 hw.b) y1
    have e3 := natAbs_bd (h2 hw.c) z1
    have e4 := natAbs_bd (h2 hw.e) (show (D : Int).natAbs < 2 ^ k by simpa using hD)
    have p : 2 ^ (k + 4) = 4 * 2 ^ (2 + k) := by rw [Nat.pow_add, Nat.pow_add]; omega
    omega
  · have ea : ahd w c = (w.a : Rat) * c.p.x + (w.b : Rat) * c.p.y + (w.c : Rat) * c.p.z - (w.e : Rat) := rfl
    rw [ea, Rat.intCast_sub, Rat.intCast_add, Rat.intCast_add, Rat.intCast_mul, Rat.intCast_mul, Rat.intCast_mul, Rat.intCast_mul]
    have : ((D : Int) : Rat) = (D : Rat) := castN D
    grind
theorem hm_bt {D1 D2 k : Nat} {h t q r : Rat} {N1 N2 : Int} (a1 : N1.natAbs < 2 ^ (k + 4)) (a2 : h * (D1 : Rat) = N1) (b1 : N2.natAbs < 2 ^ (k + 4)) (b2 : t * (D2 : Rat) = N2) (ht : h - t ≠ 0) (hq : Hm D1 k q) (hr : Hm D2 k r) :
    Hm (N1 * D2 - N2 * D1).natAbs (2 * k + 5) (bt (h / (h - t)) q r) := by
  obtain ⟨n, n1, n2⟩ := hq
  obtain ⟨m, m1, m2⟩ := hr
  have key : bt (h / (h - t)) q r * ((N1 * D2 - N2 * D1 : Int) : Rat) = ((N1 * m - N2 * n : Int) : Rat) := by
    rw [Rat.intCast_sub, Rat.intCast_sub, Rat.intCast_mul, Rat.intCast_mul, Rat.intCast_mul, Rat.intCast_mul]
    have e1 : ((D1 : Int) : Rat) = (D1 : Rat) := castN D1
    have e2 : ((D2 : Int) : Rat) = (D2 : Rat) := castN D2
    rw [e1, e2, ← a2, ← b2, ← n2, ← m2]
    simp only [bt]
    have e3 : h / (h - t) * (h - t) = h := by grind
    grind
  have bnd : (N1 * m - N2 * n).natAbs < 2 ^ (2 * k + 5) := by
    have c1 := natAbs_bd a1 m1
    have c2 := natAbs_bd b1 n1
    have p : 2 ^ (2 * k + 5) = 2 * 2 ^ (k + 4 + k) := by rw [show 2 * k + 5 = 1 + (k + 4 + k) by omega, Nat.pow_add, Nat.pow_one]
    omega
  rcases Int.natAbs_eq (N1 * D2 - N2 * D1) with e | e
  · refine ⟨N1 * m - N2 * n, bnd, ?_⟩
    rw [← key]
    conv => rhs; rw [e]
    rw [castN]
  · refine ⟨-(N1 * m - N2 * n), by rwa [Int.natAbs_neg], ?_⟩
    rw [Rat.intCast_neg, ← key]
    conv => rhs; rw [e]
    rw [Rat.intCast_neg]
    have : (((N1 * D2 - N2 * D1).natAbs : Int) : Rat) = ((N1 * D2 - N2 * D1).natAbs : Rat) := castN _
    rw [this]
    grind
def comb (b : T3) (p q s : V) : V := ⟨b.1 * p.x + b.2.1 * q.x + b.2.2 * s.x, b.1 * p.y + b.2.1 * q.y + b.2.2 * s.y, b.1 * p.z + b.2.1 * q.z + b.2.2 * s.z⟩
/-- a corner within a triangle, ahead of walls, its numbers bounded -/
structure Ib (t : Tri) (c : Cn) (b : T3) : Prop where
  n1 : 0 ≤ b.1
  n2 : 0 ≤ b.2.1
  n3 : 0 ≤ b.2.2
  s : b.1 + b.2.1 + b.2.2 = 1
  p : c.p = comb b t.p t.q t.s
  l : c.l = t.vs.map (mixR b)
structure Gc (t : Tri) (ws : List W4) (k : Nat) (c : Cn) : Prop where
  b : ∃ b, Ib t c b
  kp : ∀ w, w ∈ ws → 0 ≤ ahd w c
  h : ∃ D : Nat, 0 < D ∧ D < 2 ^ k ∧ Hm D k c.p.x ∧ Hm D k c.p.y ∧ Hm D k c.p.z ∧ ∀ q, q ∈ c.l → Hm D k q
theorem Gc.z {t : Tri} {ws : List W4} {k : Nat} {c : Cn} (g : Gc t ws k c) : c.p.Z k ∧ Szs k c.l := by
  obtain ⟨D, d0, d1, x, y, z, l⟩ := g.h
  exact ⟨⟨x.sz d0 d1, y.sz d0 d1, z.sz d0 d1⟩, fun q hq => (l q hq).sz d0 d1⟩
theorem Gc.len {t : Tri} {ws : List W4} {k : Nat} {c : Cn} (g : Gc t ws k c) : c.l.length = t.vs.length := by
  obtain ⟨b, hb⟩ := g.b
  rw [hb.l, List.length_map]
theorem Hm.mono {D k m : Nat} {q : Rat} (h : Hm D k q) (hk : k ≤ m) : Hm D m q := by
  obtain ⟨n, h1, h2⟩ := h
  exact ⟨n, Nat.lt_of_lt_of_le h1 (Nat.pow_le_pow_right (by omega) hk), h2⟩
theorem Gc.mono {t : Tri} {ws : List W4} {k m : Nat} {c : Cn} (g : Gc t ws k c) (hk : k ≤ m) : Gc t ws m c := by
  obtain ⟨D, d0, d1, x, y, z, l⟩ := g.h
  exact ⟨g.b, g.kp, D, d0, Nat.lt_of_lt_of_le d1 (Nat.pow_le_pow_right (by omega) hk), x.mono hk, y.mono hk, z.mono hk, fun q hq => (l q hq).mono hk⟩
theorem bt_between {u a b : Rat} (h0 : 0 ≤ u) (h1 : u ≤ 1) (ha : 0 ≤ a) (hb : 0 ≤ b) : 0 ≤ bt u a b := by
  have e : bt u a b = (1 - u) * a + u * b := by simp only [bt]; grind
  rw [e]
  have x1 := Rat.mul_nonneg (by grind : (0 : Rat) ≤ 1 - u) ha
  have x2 := Rat.mul_nonneg h0 hb
  grind
theorem part_in {h t : Rat} (hs : (0 < h ∧ t < 0) ∨ (h < 0 ∧ 0 < t)) : h - t ≠ 0 ∧ 0 ≤ h / (h - t) ∧ h / (h - t) ≤ 1 := by
  rcases hs with ⟨a, b⟩ | ⟨a, b⟩
  · have p : 0 < h - t := by grind
    refine ⟨by grind, div_nonneg (by grind) p, ?_⟩
    have := div_nonneg (a := -t) (by grind) p
    have e : h / (h - t) + (-t) / (h - t) = 1 := by grind
    grind
  · have p : h - t < 0 := by grind
    refine ⟨by grind, div_nonneg' (by grind) p, ?_⟩
    have := div_nonneg' (a := -t) (by grind) p
    have e : h / (h - t) + (-t) / (h - t) = 1 := by grind
    grind
theorem mix_bt (u : Rat) (b c : T3) (x : T3) : mixR (bt u b.1 c.1, bt u b.2.1 c.2.1, bt u b.2.2 c.2.2) x = bt u (mixR b x) (mixR c x) := by
  simp only [mixR, bt]; grind
theorem btL_map (u : Rat) (f g : T3 → Rat) : ∀ vs : List T3, btL u (vs.map f) (vs.map g) = vs.map fun x => bt u (f x) (g x)
  | [] => rfl
  | x :: xs => by
    have := btL_map u f g xs
    simp only [btL] at this
    simp [btL, this]
theorem cut_new {t : Tri} {ws : List W4} {k : Nat} {c o : Cn} (gc : Gc t ws k c) (go : Gc t ws k o) {w : W4} (hw : w.Ok) (hs : (0 < ahd w c ∧ ahd w o < 0) ∨ (ahd w c < 0 ∧ 0 < ahd w o)) : Gc t (w :: ws) (2 * k + 5) (btC (ahd w c / (ahd w c - ahd w o)) c o) := by
  obtain ⟨h0, u0, u1⟩ := part_in hs
  obtain ⟨b, hb⟩ := gc.b
  obtain ⟨e, he⟩ := go.b
  obtain ⟨D, d0, d1, x, y, z, l⟩ := gc.h
  obtain ⟨E, f0, f1, x', y', z', l'⟩ := go.h
  refine ⟨⟨(bt (ahd w c / (ahd w c - ahd w o)) b.1 e.1, bt (ahd w c / (ahd w c - ahd w o)) b.2.1 e.2.1, bt (ahd w c / (ahd w c - ahd w o)) b.2.2 e.2.2), bt_between u0 u1 hb.n1 he.n1, bt_between u0 u1 hb.n2 he.n2, bt_between u0 u1 hb.n3 he.n3, ?_, ?_, ?_⟩, ?_, ?_⟩
  · have s1 := hb.s
    have s2 := he.s
    simp only [bt]; grind
  · simp only [btC, btV, hb.p, he.p, comb, bt]
    congr 1 <;> grind
  · simp only [btC]
    rw [hb.l, he.l, btL_map]
    refine List.map_congr_left fun x _ => ?_
    exact (mix_bt _ b e x).symm
  · intro v hv
    rw [ahd_bt]
    rcases List.mem_cons.mp hv with rfl | hv
    · have : bt (ahd v c / (ahd v c - ahd v o)) (ahd v c) (ahd v o) = 0 := by simp only [bt]; grind
      rw [this]; exact Rat.le_refl
    · exact bt_between u0 u1 (gc.kp v hv) (go.kp v hv)
  · obtain ⟨N1, a1, a2⟩ := hm_ahd hw d1 x y z
    obtain ⟨N2, c1, c2⟩ := hm_ahd hw f1 x' y' z'
    have step : ∀ {q r : Rat}, Hm D k q → Hm E k r → Hm (N1 * E - N2 * D).natAbs (2 * k + 5) (bt (ahd w c / (ahd w c - ahd w o)) q r) := fun hq hr => hm_bt a1 a2 c1 c2 h0 hq hr
    refine ⟨(N1 * E - N2 * D).natAbs, ?_, ?_, step x x', step y y', step z z', fun q hq => ?_⟩
    · have hne : (N1 * E - N2 * D : Int) ≠ 0 := by
        intro z0
        have z1 : ((N1 * E - N2 * D : Int) : Rat) = 0 := by rw [z0]; rfl
        rw [Rat.intCast_sub, Rat.intCast_mul, Rat.intCast_mul, ← a2, ← c2] at z1
        have e1 : ((D : Int) : Rat) = (D : Rat) := castN D
        have e2 : ((E : Int) : Rat) = (E : Rat) := castN E
        rw [e1, e2] at z1
        have hD : (D : Rat) ≠ 0 := by
          intro q; rw [← e1] at q; have := Rat.intCast_eq_zero_iff.mp q; omega
        have hE : (E : Rat) ≠ 0 := by
          intro q; rw [← e2] at q; have := Rat.intCast_eq_zero_iff.mp q; omega
        have z2 : (ahd w c - ahd w o) * ((D : Rat) * (E : Rat)) = 0 := by grind
        rcases Rat.mul_eq_zero.mp z2 with z3 | z3
        · exact h0 z3
        · rcases Rat.mul_eq_zero.mp z3 with z4 | z4
          · exact hD z4
          · exact hE z4
      omega
    · have e1 := natAbs_bd a1 (show (E : Int).natAbs < 2 ^ k by simpa using f1)
      have e2 := natAbs_bd c1 (show (D : Int).natAbs < 2 ^ k by simpa using d1)
      have p : 2 ^ (2 * k + 5) = 2 * 2 ^ (k + 4 + k) := by rw [show 2 * k + 5 = 1 + (k + 4 + k) by omega, Nat.pow_add, Nat.pow_one]
      omega
    · obtain ⟨r, hr, rfl⟩ := List.mem_map.mp hq
      exact step (l _ (List.of_mem_zip hr).1) (l' _ (List.of_mem_zip hr).2)
theorem cut_old {t : Tri} {ws : List W4} {k : Nat} {c : Cn} (gc : Gc t ws k c) {w : W4} (h : 0 ≤ ahd w c) : Gc t (w :: ws) (2 * k + 5) c := by
  have := gc.mono (show k ≤ 2 * k + 5 by omega)
  exact ⟨this.b, fun v hv => by
    rcases List.mem_cons.mp hv with rfl | hv
    · exact h
    · exact gc.kp v hv, this.h⟩
end Q.K26
end

section
set_option maxRecDepth 100000
set_option maxHeartbeats 4000000
set_option exponentiation.threshold 70
/-! P31c: cut_by, plain, left_of. -/
namespace Q.K26
open PySem L2 Q
@[simp] theorem cn_frz (c : Cn) : c.d.frz = c.d := rfl
@[simp] theorem cn_own (c : Cn) : c.d.isOwn = false := rfl
@[simp] theorem gv_cn (l : List (Option D)) (b : List (List D)) (i : Nat) (c : Cn) : gv (some (some c.d)) l b i = .ok c.d ⟨l, b⟩ := rfl
@[simp] theorem ctD_cn (bx : List (List D)) (c : Cn) : ctD bx c.d = some c.d := rfl
@[simp] theorem ix_cn0 (c : Cn) : ixD c.d (.int 0) = some c.p.d := rfl
@[simp] theorem ix_cn1 (c : Cn) : ixD c.d (.int 1) = some (shs c.l) := rfl
def csD (cs : List Cn) : D := .tup (cs.map Cn.d)
@[simp] theorem cs_frz (v : List Cn) : (csD v).frz = csD v := rfl
@[simp] theorem cs_own (v : List Cn) : (csD v).isOwn = false := rfl
@[simp] theorem gv_cs (l : List (Option D)) (b : List (List D)) (i : Nat) (v : List Cn) : gv (some (some (csD v))) l b i = .ok (csD v) ⟨l, b⟩ := rfl
@[simp] theorem ctD_cs (bx : List (List D)) (v : List Cn) : ctD bx (csD v) = some (csD v) := rfl
@[simp] theorem cs_items (v : List Cn) : (csD v).items = some (v.map Cn.d) := rfl
@[simp] theorem cs_len (v : List Cn) : lenD (csD v) = some v.length := by show some (v.map Cn.d).length = _; simp
def dfl : Cn := ⟨⟨0, 0, 0⟩, []⟩
def gt (cs : List Cn) (i : Nat) : Cn := cs.getD i dfl
theorem gt_mem {cs : List Cn} {i : Nat} (h : i < cs.length) : gt cs i ∈ cs := by
  unfold gt
  rw [List.getD_eq_getElem?_getD, List.getElem?_eq_getElem h]
  exact List.getElem_mem h
theorem ix_gt {cs : List Cn} {i : Nat} (h : i < cs.length) : ixD (csD cs) (.int (i : Int)) = some (gt cs i).d := by
  show atI (cs.map Cn.d) (i : Int) = _
  rw [at_nat (by rw [List.length_map]; exact h), List.getElem?_map, List.getElem?_eq_getElem h]
  unfold gt
  rw [List.getD_eq_getElem?_getD, List.getElem?_eq_getElem h]; rfl
theorem enum_at {α : Type} (f : α → D) : ∀ (xs : List α) (n i : Nat) (d : D), (enumD n (xs.map f))[i]? = some d → ∃ x, xs[i]? = some x ∧ d = .tup [.int ((n + i : Nat) : Int), f x]
  | [], n, i, d, h => by simp [enumD] at h
  | x :: xs, n, 0, d, h => by
    simp [enumD] at h
    exact ⟨x, rfl, by rw [← h]; rfl⟩
  | x :: xs, n, i + 1, d, h => by
    obtain ⟨y, h1, h2⟩ := enum_at f xs (n + 1) i d (by simpa [enumD] using h)
    exact ⟨y, by simpa using h1, by rw [h2]; congr 4; omega⟩
theorem enum_len : ∀ (xs : List D) (n : Nat), (enumD n xs).length = xs.length
  | [], _ => rfl
  | x :: xs, n => by
    show (enumD (n + 1) xs).length + 1 = _
    rw [enum_len xs (n + 1)]; rfl
def opp (h t : Rat) : Bool := decide ((0 < h ∧ t < 0) ∨ (h < 0 ∧ 0 < t))
def cutAt (w : W4) (cs : List Cn) (i : Nat) : List Cn :=
  (if 0 ≤ ahd w (gt cs i) then [gt cs i] else []) ++ (if opp (ahd w (gt cs i)) (ahd w (gt cs ((i + 1) % cs.length))) then [btC (ahd w (gt cs i) / (ahd w (gt cs i) - ahd w (gt cs ((i + 1) % cs.length)))) (gt cs i) (gt cs ((i + 1) % cs.length))] else [])
def cutL (w : W4) (cs : List Cn) : List Cn := (List.range cs.length).flatMap (cutAt w cs)
theorem sgn_ge (q : Rat) : decide (0 ≤ sgn q) = decide (0 ≤ q) := by rw [sgn_eq]; grind
theorem sgn_mul (h t : Rat) : decide (sgn h * sgn t < 0) = opp h t := by
  rw [sgn_eq, sgn_eq]; unfold opp; grind
theorem sgn_sz (q : Rat) : (sgn q).natAbs < 2 ^ 1 := by
  rw [sgn_eq]; split <;> first | decide | (split <;> decide)
section
variable {L : Nat} (hL : 2 ^ 9000 ≤ L)
include hL
end
end Q.K26
end

section
set_option maxRecDepth 100000
set_option maxHeartbeats 4000000
set_option exponentiation.threshold 70
/-! P31d: cut_by, plain, left_of whole. -/
namespace Q.K26
open PySem L2 Q
theorem cutAt_len (w : W4) (cs : List Cn) (i : Nat) : (cutAt w cs i).length ≤ 2 := by
  unfold cutAt
  rw [List.length_append]
  split <;> split <;> simp
theorem fm_succ (f : Nat → List Cn) (n : Nat) : (List.range (n + 1)).flatMap f = (List.range n).flatMap f ++ f n := by
  rw [List.range_succ, List.flatMap_append]; simp
theorem fm_len {f : Nat → List Cn} (h : ∀ i, (f i).length ≤ 2) : ∀ n, ((List.range n).flatMap f).length ≤ 2 * n
  | 0 => by simp
  | n + 1 => by
    rw [fm_succ, List.length_append]
    have := fm_len h n
    have := h n
    omega
def eqV (a b : V) : Bool := decide (a.x = b.x) && (decide (a.y = b.y) && decide (a.z = b.z))
theorem eqV_d (a b : V) : eqD a.d b.d = eqV a b := by
  show (eqD (sh a.x) (sh b.x) && (eqD (sh a.y) (sh b.y) && (eqD (sh a.z) (sh b.z) && true))) = _
  rw [eqD_sh, eqD_sh, eqD_sh, Bool.and_true]; rfl
@[simp] theorem shN_v (v : V) : shN 60 v.d = true := rfl
def plAt (cs : List Cn) (i : Nat) : List Cn := if eqV (gt cs i).p (gt cs ((i + cs.length - 1) % cs.length)).p then [] else [gt cs i]
def plL (cs : List Cn) : List Cn := (List.range cs.length).flatMap (plAt cs)
theorem ix_prev {cs : List Cn} {i : Nat} (h : i < cs.length) : ixD (csD cs) (.int ((i : Int) - 1)) = some (gt cs ((i + cs.length - 1) % cs.length)).d := by
  by_cases h0 : i = 0
  · subst h0
    have e : (0 + cs.length - 1) % cs.length = cs.length - 1 := by rw [Nat.mod_eq_of_lt (by omega)]; omega
    rw [e, ← ix_gt (by omega)]
    show atI (cs.map Cn.d) _ = atI (cs.map Cn.d) _
    unfold atI
    have h1 : ixN (cs.map Cn.d).length ((0 : Nat) - 1 : Int) = some (cs.length - 1) := by
      rw [List.length_map]
      have e1 : ((0 : Nat) : Int) - 1 = -1 := rfl
      rw [e1]
      unfold ixN
      have n1 : ¬ (0 ≤ (-1 : Int)) := by omega
      simp
      omega
    have h2 : ixN (cs.map Cn.d).length ((cs.length - 1 : Nat) : Int) = some (cs.length - 1) := by
      rw [List.length_map]
      unfold ixN
      simp
      omega
    rw [h1, h2]
  · have e : (i + cs.length - 1) % cs.length = i - 1 := by
      rw [show i + cs.length - 1 = (i - 1) + cs.length by omega, Nat.add_mod_right, Nat.mod_eq_of_lt (by omega)]
    rw [e]
    have e2 : ((i : Int) - 1) = ((i - 1 : Nat) : Int) := by omega
    rw [e2]
    exact ix_gt (by omega)
def ltL : List W4 → List Cn → List Cn
  | [], cs => cs
  | w :: ws, cs => if (plL (cutL w cs)).length < 3 then [] else ltL ws (plL (cutL w cs))
section
variable {L : Nat} (hL : 2 ^ 9000 ≤ L)
include hL
omit hL
def plB : St := (.seq (.ite (.tru (.cmp .ne (.ixv 3 (.cst (.int 0))) (.idx (.ixv 0 (.bin .sub (.var 2) (.cst (.int 1)))) (.cst (.int 0))))) (.seq (.ex (.mut .append 1 (.cons (.var 3) .nil))) .nil) .nil) .nil)
end
theorem pl_mem {cs : List Cn} {c : Cn} (h : c ∈ plL cs) : c ∈ cs := by
  unfold plL at h
  obtain ⟨i, hi, hc⟩ := List.mem_flatMap.mp h
  rw [List.mem_range] at hi
  unfold plAt at hc
  split at hc
  · cases hc
  · simp at hc; subst hc; exact gt_mem hi
theorem cut_mem {t : Tri} {ws : List W4} {k : Nat} {cs : List Cn} (g : ∀ c, c ∈ cs → Gc t ws k c) {w : W4} (hw : w.Ok) {c : Cn} (h : c ∈ cutL w cs) : Gc t (w :: ws) (2 * k + 5) c := by
  unfold cutL at h
  obtain ⟨i, hi, hc⟩ := List.mem_flatMap.mp h
  rw [List.mem_range] at hi
  unfold cutAt at hc
  have g1 := g _ (gt_mem hi)
  have g2 := g _ (gt_mem (Nat.mod_lt (i + 1) (show 0 < cs.length by omega)))
  rcases List.mem_append.mp hc with hc | hc
  · split at hc
    · simp at hc; subst hc
      rename_i h0
      exact cut_old g1 h0
    · cases hc
  · split at hc
    · simp at hc; subst hc
      rename_i h0
      exact cut_new g1 g2 hw (of_decide_eq_true h0)
    · cases hc
theorem pl_len (cs : List Cn) : (plL cs).length ≤ 2 * cs.length := fm_len (fun i => by unfold plAt; split <;> simp) _
theorem cut_len (w : W4) (cs : List Cn) : (cutL w cs).length ≤ 2 * cs.length := fm_len (cutAt_len w cs) _
def grow : Nat → Nat → Nat
  | 0, k => k
  | m + 1, k => grow m (2 * k + 5)
theorem lt_good {t : Tri} : ∀ (ws done : List W4) (cs : List Cn) (k : Nat), (∀ w, w ∈ ws → w.Ok) → (∀ c, c ∈ cs → Gc t done k c) → ∀ c, c ∈ ltL ws cs → Gc t (ws.reverse ++ done) (grow ws.length k) c
  | [], done, cs, k, hw, g, c, hc => g c hc
  | w :: ws, done, cs, k, hw, g, c, hc => by
    unfold ltL at hc
    split at hc
    · cases hc
    · have := lt_good ws (w :: done) (plL (cutL w cs)) (2 * k + 5) (fun v hv => hw v (by simp [hv])) (fun c hc => cut_mem g (hw w (by simp)) (pl_mem hc)) c hc
      simpa [grow] using this
end Q.K26
end

section
set_option maxRecDepth 100000
set_option maxHeartbeats 4000000
set_option exponentiation.threshold 70
/-! P31e: left_of, orders, fans, pieces. -/
namespace Q.K26
open PySem L2 Q
theorem fm_len1 {f : Nat → List Cn} (h : ∀ i, (f i).length ≤ 1) : ∀ n, ((List.range n).flatMap f).length ≤ n
  | 0 => by simp
  | n + 1 => by
    rw [fm_succ, List.length_append]
    have := fm_len1 h n
    have := h n
    omega
theorem pl_len1 (cs : List Cn) : (plL cs).length ≤ cs.length := fm_len1 (fun i => by unfold plAt; split <;> simp) _
def ltR : List W4 → List Cn → Option (List Cn)
  | [], cs => some cs
  | w :: ws, cs => if (plL (cutL w cs)).length < 3 then none else ltR ws (plL (cutL w cs))
theorem ltR_L : ∀ (ws : List W4) (cs : List Cn), (ltR ws cs).getD [] = ltL ws cs
  | [], cs => rfl
  | w :: ws, cs => by
    unfold ltR ltL
    split
    · rfl
    · exact ltR_L ws _
theorem grow_mono : ∀ (m k : Nat), k ≤ grow m k
  | 0, k => Nat.le_refl _
  | m + 1, k => by
    have := grow_mono m (2 * k + 5)
    unfold grow; omega
theorem ix_ws {ws : List W4} {i : Nat} {w : W4} (h : ws[i]? = some w) : ixD (wsD ws) (.int (i : Int)) = some w.d := by
  show atI (ws.map W4.d) (i : Int) = _
  have hi := (List.getElem?_eq_some_iff.mp h).1
  rw [at_nat (by rw [List.length_map]; exact hi), List.getElem?_map, h]; rfl
section
variable {L : Nat} (hL : 2 ^ 9000 ≤ L)
include hL
omit hL
theorem eqDs_ints : ∀ ns : List Int, eqDs (ns.map D.int) (ns.map D.int) = true
  | [] => rfl
  | n :: ns => by simp [eqDs_ints ns]
theorem allI_ints : ∀ ns : List Int, allI (ns.map D.int) = some ns
  | [] => rfl
  | n :: ns => by
    show (allI (ns.map D.int)).map (n :: ·) = _
    rw [allI_ints ns]; rfl
theorem rng_ints (n : Nat) : rangeD 0 n = ((List.range n).map fun i : Nat => (i : Int)).map D.int := by
  unfold rangeD; rw [List.map_map]; congr 1; funext i; simp
theorem aa1 (m : Nat) : isSzD (m : Int) (m : Int) (.tup (rangeD 0 m)) = true := by
  show (decide ((m : Int) ≤ ((rangeD 0 m).length : Nat)) && decide (((rangeD 0 m).length : Int) ≤ m)) = true
  rw [range_len']; simp
theorem aa2 (m : Nat) : bltD .sorted [.tup (rangeD 0 m)] = some (.own (rangeD 0 m)) := by
  show (allI (rangeD 0 m)).map _ = _
  rw [rng_ints, allI_ints, Option.map_some]
  have : (List.range m).map (fun i : Nat => (i : Int)) = srtI ((List.range m).map fun i : Nat => (i : Int)) := srtI_uni (List.Perm.refl _) (by
    rw [List.pairwise_map]
    exact (List.pairwise_lt_range (n := m)).imp fun h => by omega)
  rw [← this]
theorem aa3 (m : Nat) : opC .eq (.lst (rangeD 0 m)) (.lst (rangeD 0 m)) = some true := by
  rw [opC_eq]
  have s1 : shN 60 (.lst (rangeD 0 m)) = true := by
    rw [rng_ints, shN_lst, List.all_map]
    simp [Function.comp_def]
  have s2 : eqD (.lst (rangeD 0 m)) (.lst (rangeD 0 m)) = true := by
    show eqDs (rangeD 0 m) (rangeD 0 m) = true
    rw [rng_ints]; exact eqDs_ints _
  rw [s1, s2]; rfl
theorem aa4 {m : Nat} (hm : m ≤ 10) : rngOk 0 (m : Int) = true := decide_eq_true (by refine ⟨by omega, by omega, by omega, by omega, ?_⟩; show ((m : Int) - 0).toNat ≤ 16777216; omega)
theorem aa5 {j : Nat} (hj : 2 ≤ j) {m : Nat} (hm : m ≤ 10) (bx : List (List D)) : evE (cc L j) (.lc (.call 1 (.cons (.var 2) (.cons (.cst (.int 0)) (.cons (.bin .sub (.var 1) (.cst (.int 1))) .nil)))) (.var 2) (.its (.var 0)) .nil [2]) ⟨[some (.tup (rangeD 0 m)), some (.int (m : Int)), none], bx⟩ = .ok (.own ((List.range m).map fun _ => .bl true)) ⟨[some (.tup (rangeD 0 m)), some (.int (m : Int)), none], bx⟩ :=
  lc_mapA (List.range m) (fun i : Nat => D.int (0 + (i : Nat))) (fun _ => .bl true) (by simp [rangeD]) (by rw [List.length_range]; show m ≤ 16777216; omega) (by simp [S.frzs, S.frz]) fun i hi => by
    rw [List.mem_range] at hi
    have hc := isWi_t (L := L) (n := j) (by omega) (i := ((0 : Int) + (i : Nat))) (lo := 0) (hi := (m : Int) - 1) (by omega) (by omega)
    rw [Int.zero_add] at hc
    exact ⟨[some (.tup (rangeD 0 m)), some (.int (m : Int)), some (.int (0 + (i : Nat)))], [some (.tup (rangeD 0 m)), some (.int (m : Int)), some (.int (0 + (i : Nat)))], .bl true, by simp [asgT, wipeL], by simp [hc.r], rfl, by simp [wipeL]⟩
theorem aa6 (m : Nat) : bltD .all [.lst ((List.range m).map fun _ => D.bl true)] = some (.bl true) := by
  rw [blt_all, allB_map (fun _ => true), Option.map_some]; simp
theorem aa7 {m : Nat} (hm : m ≤ 10) : (rangeD 0 m).length ≤ LINE := by rw [range_len']; show m ≤ 16777216; omega
theorem aa8 {j : Nat} (hj : 2 ≤ j) {m : Nat} (hm : m ≤ 10) (bx : List (List D)) : evT (cc L j) (.or (.not (.tru (.call 2 (.cons (.var 0) (.cons (.var 1) (.cons (.var 1) .nil)))))) (.not (.tru (.blt .all (.cons (.lc (.call 1 (.cons (.var 2) (.cons (.cst (.int 0)) (.cons (.bin .sub (.var 1) (.cst (.int 1))) .nil)))) (.var 2) (.its (.var 0)) .nil [2]) .nil))))) ⟨[some (.tup (rangeD 0 m)), some (.int (m : Int)), none], bx⟩ = .ok false ⟨[some (.tup (rangeD 0 m)), some (.int (m : Int)), none], bx⟩ := by
  have hs := isSized_ok (L := L) (n := j) (by omega) (d := .tup (rangeD 0 m)) rfl (m : Int) (m : Int)
  rw [aa1] at hs
  have e1 : evE (cc L j) (.call 2 (.cons (.var 0) (.cons (.var 1) (.cons (.var 1) .nil)))) ⟨[some (.tup (rangeD 0 m)), some (.int (m : Int)), none], bx⟩ = .ok (.bl true) ⟨[some (.tup (rangeD 0 m)), some (.int (m : Int)), none], bx⟩ := by simp [hs.r]
  rw [et_or, et_not, et_tru, e1, Res.bnd_ok, truD_bl, Res.opt_some, Res.bnd_ok, Res.bnd_ok]
  show evT _ (.not _) _ = _
  rw [et_not, et_tru, ev_blt, ea_cons, aa5 hj hm, Res.bnd_ok, ea_nil, Res.bnd_ok, Res.bnd_ok, frz_own', aa6, Res.opt_some, Res.bnd_ok, truD_bl]
  rfl
theorem ab1 {j m : Nat} (bx : List (List D)) : evE (cc L j) (.blt .sorted (.cons (.var 0) .nil)) ⟨[some (.tup (rangeD 0 m)), some (.int (m : Int)), none], bx⟩ = .ok (.own (rangeD 0 m)) ⟨[some (.tup (rangeD 0 m)), some (.int (m : Int)), none], bx⟩ := by simp [aa2]
theorem ab2 {j m : Nat} (hm : m ≤ 10) (bx : List (List D)) : evI (cc L j) (.rng1 (.var 1)) ⟨[some (.tup (rangeD 0 m)), some (.int (m : Int)), none], bx⟩ = .ok (rangeD 0 m) ⟨[some (.tup (rangeD 0 m)), some (.int (m : Int)), none], bx⟩ := by
  have hv : evE (cc L j) (.var 1) ⟨[some (.tup (rangeD 0 m)), some (.int (m : Int)), none], bx⟩ = .ok (.int (m : Int)) ⟨[some (.tup (rangeD 0 m)), some (.int (m : Int)), none], bx⟩ := by simp
  rw [ei_r1, hv, Res.bnd_ok, r1K_i, aa4 hm, if_pos rfl, Int.toNat_natCast]
theorem ab3 {j m : Nat} (hm : m ≤ 10) (bx : List (List D)) : evE (cc L j) (.rgl false (.rng1 (.var 1))) ⟨[some (.tup (rangeD 0 m)), some (.int (m : Int)), none], bx⟩ = .ok (.own (rangeD 0 m)) ⟨[some (.tup (rangeD 0 m)), some (.int (m : Int)), none], bx⟩ := by
  rw [ev_rgl, ab2 hm, Res.bnd_ok, if_pos (aa7 hm), if_neg (by decide)]
theorem ab4 {j m : Nat} (hm : m ≤ 10) (bx : List (List D)) : evE (cc L j) (.cmp .eq (.blt .sorted (.cons (.var 0) .nil)) (.rgl false (.rng1 (.var 1)))) ⟨[some (.tup (rangeD 0 m)), some (.int (m : Int)), none], bx⟩ = .ok (.bl true) ⟨[some (.tup (rangeD 0 m)), some (.int (m : Int)), none], bx⟩ := by
  rw [ev_cmp, ab1, Res.bnd_ok, ab3 hm, Res.bnd_ok, frz_own', aa3, Option.map_some, Res.opt_some]
def aaT : E := (.or (.not (.tru (.call 2 (.cons (.var 0) (.cons (.var 1) (.cons (.var 1) .nil)))))) (.not (.tru (.blt .all (.cons (.lc (.call 1 (.cons (.var 2) (.cons (.cst (.int 0)) (.cons (.bin .sub (.var 1) (.cst (.int 1))) .nil)))) (.var 2) (.its (.var 0)) .nil [2]) .nil)))))
def aaE : E := (.cmp .eq (.blt .sorted (.cons (.var 0) .nil)) (.rgl false (.rng1 (.var 1))))
end
end Q.K26
end

section
set_option maxRecDepth 100000
set_option maxHeartbeats 4000000
set_option exponentiation.threshold 70
/-! P31f: a corner within a triangle, both ways. -/
namespace Q.K26
open PySem L2 Q
def wts (t : Tri) (c : Cn) : T3 := (vol c.p t.q t.s / vol t.p t.q t.s, vol c.p t.s t.p / vol t.p t.q t.s, vol c.p t.p t.q / vol t.p t.q t.s)
def one3 (w : T3) : Bool := decide (w.1 + w.2.1 + w.2.2 = 1)
def nn3 (w : T3) : Bool := decide (0 ≤ w.1) && (decide (0 ≤ w.2.1) && decide (0 ≤ w.2.2))
def inB (t : Tri) (c : Cn) : Bool := decide (vol t.p t.q t.s ≠ 0) && (one3 (wts t c) && (nn3 (wts t c) && decide (c.l = t.vs.map (mixR (wts t c)))))
theorem sz_div {k m : Nat} {a b : Rat} (ha : Sz k a) (hb : Sz m b) (h0 : b ≠ 0) : Sz (k + m) (a / b) := by
  have hq0 : b.num ≠ 0 := fun z => h0 (Rat.num_eq_zero.mp z)
  have hn0 : a.den * b.num.natAbs ≠ 0 := Nat.mul_ne_zero a.den_nz (by omega)
  have h1 : (a.num * b.den).natAbs < 2 ^ (k + m) := by rw [Int.natAbs_mul, Nat.pow_add]; exact Nat.mul_lt_mul'' ha.1 (by simpa using hb.2)
  have h2 : a.den * b.num.natAbs < 2 ^ (k + m) := by rw [Nat.pow_add]; exact Nat.mul_lt_mul'' ha.2 hb.1
  rcases Int.lt_or_gt_of_ne hq0 with hn | hp
  · rw [div_neg hn hn0]; exact norm_sz _ (by rwa [Int.natAbs_neg]) h2
  · rw [div_pos hp hn0]; exact norm_sz _ h1 h2
structure Cz (c : Cn) : Prop where
  z : c.p.Z 150
  l : Szs 150 c.l
  n : c.l.length ≤ 4
def ptD (t : Tri) : D := .lst [t.p.d, t.q.d, t.s.d]
theorem wtD (w : T3) : D.tup [sh w.1, sh w.2.1, sh w.2.2] = wD3 w := rfl
section
variable {L : Nat} (hL : 2 ^ 9000 ≤ L)
include hL
end
end Q.K26
end

section
set_option maxRecDepth 100000
set_option maxHeartbeats 4000000
set_option exponentiation.threshold 70
/-! P31g: is_in. -/
namespace Q.K26
open PySem L2 Q
@[simp] theorem ctD_td' (bx : List (List D)) (t : Tri) : ctD bx t.d = some t.d := rfl
@[simp] theorem sl_td14 (t : Tri) : slD t.d (some 1) (some 4) = some (.tup [t.c1, t.c2, t.c3]) := rfl
@[simp] theorem gv_td' (l : List (Option D)) (b : List (List D)) (i : Nat) (t : Tri) : gv (some (some t.d)) l b i = .ok t.d ⟨l, b⟩ := rfl
@[simp] theorem td_frz' (t : Tri) : t.d.frz = t.d := rfl
@[simp] theorem ix_td1' (t : Tri) : ixD t.d (.int 1) = some t.c1 := rfl
@[simp] theorem ix_c11' (t : Tri) : ixD t.c1 (.int 1) = some (shs (t.vs.map (·.1))) := rfl
@[simp] theorem c1_frz' (t : Tri) : t.c1.frz = t.c1 := rfl
theorem minL3 (w : T3) : decide (minL [sgn w.1, sgn w.2.1, sgn w.2.2] < 0) = !nn3 w := by
  unfold nn3
  have s1 : sgn w.1 < 0 ↔ ¬ 0 ≤ w.1 := by rw [sgn_eq]; grind
  have s2 : sgn w.2.1 < 0 ↔ ¬ 0 ≤ w.2.1 := by rw [sgn_eq]; grind
  have s3 : sgn w.2.2 < 0 ↔ ¬ 0 ≤ w.2.2 := by rw [sgn_eq]; grind
  have m : minL [sgn w.1, sgn w.2.1, sgn w.2.2] = if sgn w.1 ≤ (if sgn w.2.1 ≤ sgn w.2.2 then sgn w.2.1 else sgn w.2.2) then sgn w.1 else (if sgn w.2.1 ≤ sgn w.2.2 then sgn w.2.1 else sgn w.2.2) := rfl
  rw [m]
  generalize sgn w.1 = a at *
  generalize sgn w.2.1 = b at *
  generalize sgn w.2.2 = c at *
  have key : (if a ≤ (if b ≤ c then b else c) then a else (if b ≤ c then b else c)) < 0 ↔ (a < 0 ∨ b < 0 ∨ c < 0) := by
    split <;> split <;> omega
  by_cases h1 : 0 ≤ w.1 <;> by_cases h2 : 0 ≤ w.2.1 <;> by_cases h3 : 0 ≤ w.2.2 <;> simp [key, s1, s2, s3, h1, h2, h3]
section
variable {L : Nat} (hL : 2 ^ 9000 ≤ L)
include hL
end
end Q.K26
end

section
set_option maxRecDepth 100000
set_option maxHeartbeats 4000000
set_option exponentiation.threshold 70
/-! P31h: the law's own look at a corner. -/
namespace Q.K26
open PySem L2 Q
theorem eqDs_sh : ∀ l m : List Rat, eqDs (l.map sh) (m.map sh) = decide (l = m)
  | [], [] => rfl
  | [], _ :: _ => rfl
  | _ :: _, [] => rfl
  | a :: l, b :: m => by
    show (eqD (sh a) (sh b) && eqDs (l.map sh) (m.map sh)) = _
    rw [eqDs_sh l m, eqD_sh]
    by_cases h1 : a = b <;> by_cases h2 : l = m <;> simp [h1, h2]
theorem eqD_shs (l m : List Rat) : eqD (shs l) (shs m) = decide (l = m) := eqDs_sh l m
theorem shN_shs (l : List Rat) : shN 60 (shs l) = true := by
  show ((l.map sh).all (shN 59)) = true
  rw [List.all_map, List.all_eq_true]
  intro q _; rfl
theorem dot_comm (a b : V) : a.dot b = b.dot a := by simp only [V.dot]; grind
def liesB (t : Tri) (c : Cn) : Bool := decide (c.l.length = t.vs.length) && inB t c
theorem num_neg (q : Rat) : decide (q.num < 0) = !decide (0 ≤ q) := by
  have : q.num < 0 ↔ ¬ 0 ≤ q := by rw [numneg]; grind
  by_cases h : 0 ≤ q <;> simp [this, h]
section
variable {L : Nat} (hL : 2 ^ 9000 ≤ L)
include hL

end
end Q.K26
end

section
set_option maxRecDepth 100000
set_option maxHeartbeats 4000000
set_option exponentiation.threshold 70
/-! P31i: pieces judged. -/
namespace Q.K26
open PySem L2 Q
structure Pk where
  n : D
  cs : List Cn
namespace Pk
def d (p : Pk) : D := .tup (p.n :: p.cs.map Cn.d)
structure Ok (p : Pk) : Prop where
  n : (∃ i : Int, p.n = .int i ∧ i.natAbs < 10) ∨ ∃ b, p.n = .bl b
  l : p.cs.length = 2 ∨ p.cs.length = 3
  c : ∀ c, c ∈ p.cs → Cz c ∧ 1 ≤ c.l.length ∧ 0 < c.p.z
theorem Ok.gn {p : Pk} (h : p.Ok) : Gd p.n := by
  rcases h.n with ⟨i, e, hi⟩ | ⟨b, e⟩
  · rw [e]; exact gd_i (by omega)
  · rw [e]; exact gd_bl b
end Pk
theorem cn_gd {c : Cn} (h : Cz c) : Gd c.d := crn_gd h.z h.l (by omega)
theorem cn_is {c : Cn} (h : Cz c) (h1 : 1 ≤ c.l.length) : isCornerD c.d = true := crn_is h1 h.n
theorem gds_cns {cs : List Cn} (h : ∀ c, c ∈ cs → Cz c) : Gds (cs.map Cn.d) := Gds.of fun d hd => by
  obtain ⟨c, hc, rfl⟩ := List.mem_map.mp hd
  exact cn_gd (h c hc)
theorem Pk.Ok.gd {p : Pk} (h : p.Ok) : Gd p.d := gd_tp (by
  unfold Gds
  exact ⟨h.gn, gds_cns fun c hc => (h.c c hc).1⟩)
def isPk (p : Pk) : Bool := match p.cs with
  | [a, b, c] => isWiD 0 7 p.n && (decide (a.l.length = b.l.length) && decide (b.l.length = c.l.length))
  | _ => false
section
variable {L : Nat} (hL : 2 ^ 9000 ≤ L)
include hL
theorem isPiece_no {n : Nat} (hn : 2 ≤ n) {d : D} (h : Gd d) (hz : isSzD 4 4 d = false) : Pu L n 42 [d] (.bl false) :=
  Pu.mk (f := ⟨1, 2, i42⟩) (by omega) rfl rfl fun j e bx => by
    have hf : d.frz = d := frz_of (gd_own h)
    have hs := isSized_ok (L := L) (n := j) (by omega) h.ok 4 4
    refine ⟨[some d, none], ?_⟩
    simp [i42, startL, gv_d _ _ _ (gd_own h), hf, hs.r, hz]
theorem isPiece_ok {n : Nat} (hn : 5 ≤ n) {p : Pk} (h : p.Ok) : Pu L n 42 [p.d] (.bl (isPk p)) := by
  rcases h.l with hl | hl
  · obtain ⟨k, cs⟩ := p
    match cs, hl with
    | [a, b], _ => exact isPiece_no hL (by omega) h.gd rfl
  · obtain ⟨k, cs⟩ := p
    match cs, hl with
    | [a, b, c], _ =>
      refine Pu.mk (f := ⟨1, 2, i42⟩) (by omega) rfl rfl fun j e bx => ?_
      have gk : Gd k := h.gn
      have fk : k.frz = k := frz_of (gd_own gk)
      have hs := isSized_ok (L := L) (n := j) (by omega) (d := (⟨k, [a, b, c]⟩ : Pk).d) rfl 4 4
      have hz : isSzD 4 4 (⟨k, [a, b, c]⟩ : Pk).d = true := rfl
      rw [hz] at hs
      have p1 := isWi_ok (L := L) (n := j) (by omega) gk.ok 0 7
      have ix0 : ixD (⟨k, [a, b, c]⟩ : Pk).d (.int 0) = some k := by show atI (_ :: _) 0 = _; rw [at0]
      have ix1 : ixD (⟨k, [a, b, c]⟩ : Pk).d (.int 1) = some a.d := by show atI (_ :: _ :: _) 1 = _; rw [at1]
      have ix2 : ixD (⟨k, [a, b, c]⟩ : Pk).d (.int 2) = some b.d := by show atI (_ :: _ :: _ :: _) 2 = _; rw [at2]
      have ix3 : ixD (⟨k, [a, b, c]⟩ : Pk).d (.int 3) = some c.d := by show atI (_ :: _ :: _ :: _ :: _) 3 = _; rw [at3]
      have ct : ctD bx (⟨k, [a, b, c]⟩ : Pk).d = some (⟨k, [a, b, c]⟩ : Pk).d := rfl
      have gvp : ∀ l, gv (some (some (⟨k, [a, b, c]⟩ : Pk).d)) l bx 0 = .ok (⟨k, [a, b, c]⟩ : Pk).d ⟨l, bx⟩ := fun l => rfl
      have fp : (⟨k, [a, b, c]⟩ : Pk).d.frz = (⟨k, [a, b, c]⟩ : Pk).d := rfl
      have ei : isPk ⟨k, [a, b, c]⟩ = (isWiD 0 7 k && (decide (a.l.length = b.l.length) && decide (b.l.length = c.l.length))) := rfl
      rw [ei]
      refine ⟨[some (⟨k, [a, b, c]⟩ : Pk).d, none], ?_⟩
      cases hp : isWiD 0 7 k with
      | false => simp [i42, startL, gvp, fp, hs.r, ct, ix0, fk, p1.r, hp]
      | true =>
        have hcut : slD (⟨k, [a, b, c]⟩ : Pk).d (some 1) none = some (.tup [a.d, b.d, c.d]) := rfl
        have hlc : evE (cc L j) (.lc (.and (.call 32 (.cons (.var 1) .nil)) (.cmp .gt (.call 18 (.cons (.idx (.ixv 1 (.cst (.int 0))) (.cst (.int 2))) .nil)) (.cst (.int 0)))) (.var 1) (.its (.slv 0 (.prt (.cst (.int 1))) .nil)) .nil [1]) ⟨[some (⟨k, [a, b, c]⟩ : Pk).d, none], bx⟩ = .ok (.own ([a, b, c].map fun _ => .bl true)) ⟨[some (⟨k, [a, b, c]⟩ : Pk).d, none], bx⟩ :=
          lc_mapA [a, b, c] Cn.d (fun _ => .bl true) (by simp [hcut, ct]) (by show 3 ≤ 16777216; omega) (by simp [S.frzs, S.frz]) fun x hx => by
            obtain ⟨x1, x2, x3⟩ := h.c x hx
            have c1 := isCorner_ok hL (n := j) (by omega) (cn_gd x1)
            rw [cn_is x1 x2] at c1
            have c2 := signOf_ok (L := L) (n := j) (by omega) x.p.z
            have es : sgn x.p.z = 1 := by rw [sgn_eq]; simp [x3]
            rw [es] at c2
            exact ⟨[some (⟨k, [a, b, c]⟩ : Pk).d, some x.d], [some (⟨k, [a, b, c]⟩ : Pk).d, some x.d], .bl true, by simp [asgT, wipeL], by simp [c1.r, c2.r], rfl, by simp [wipeL]⟩
        simp only [List.map] at hlc
        have hs0 : startL ⟨1, 2, i42⟩ [(⟨k, [a, b, c]⟩ : Pk).d] = [some (⟨k, [a, b, c]⟩ : Pk).d, none] := rfl
        rw [hs0]
        refine seq_of (l1 := [some (⟨k, [a, b, c]⟩ : Pk).d, none]) (b1 := bx) (by simp [gvp, fp, hs.r, ct, ix0, fk, p1.r, hp]) ?_
        refine seq_of (l1 := [some (⟨k, [a, b, c]⟩ : Pk).d, none]) (b1 := bx) (by simp [hlc]) ?_
        simp [ct, ix1, ix2, ix3]
        by_cases k1 : a.l.length = b.l.length
        · by_cases k2 : b.l.length = c.l.length
          · simp [k1, k2]
          · simp [k1, k2]; omega
        · have k1' : ¬ ((a.l.length : Nat) : Int) = b.l.length := by omega
          simp [k1, k1']
end
end Q.K26
end

section
set_option maxRecDepth 100000
set_option maxHeartbeats 4000000
set_option exponentiation.threshold 70
/-! P31j: lots of pieces judged, both ways. -/
namespace Q.K26
open PySem L2 Q
def psD (ps : List Pk) : D := .tup (ps.map Pk.d)
@[simp] theorem pk_frz (c : Pk) : c.d.frz = c.d := rfl
@[simp] theorem pk_own (c : Pk) : c.d.isOwn = false := rfl
@[simp] theorem gv_pk (l : List (Option D)) (b : List (List D)) (i : Nat) (c : Pk) : gv (some (some c.d)) l b i = .ok c.d ⟨l, b⟩ := rfl
@[simp] theorem ctD_pk (bx : List (List D)) (c : Pk) : ctD bx c.d = some c.d := rfl
@[simp] theorem sl_pk (c : Pk) : slD c.d (some 1) none = some (csD c.cs) := by
  show some (D.tup (cutD (c.n :: c.cs.map Cn.d) (some 1) none)) = _
  rw [cut_d1]; rfl
@[simp] theorem ps_frz (c : List Pk) : (psD c).frz = psD c := rfl
@[simp] theorem ps_own (c : List Pk) : (psD c).isOwn = false := rfl
@[simp] theorem gv_ps (l : List (Option D)) (b : List (List D)) (i : Nat) (c : List Pk) : gv (some (some (psD c))) l b i = .ok (psD c) ⟨l, b⟩ := rfl
@[simp] theorem ps_items (c : List Pk) : (psD c).items = some (c.map Pk.d) := rfl
@[simp] theorem ps_ty (c : List Pk) : isTy (psD c) .tuple = true := rfl
@[simp] theorem ps_tyok (c : List Pk) : isTyOk (psD c) = true := rfl
def kpB (ws : List W4) (c : Cn) : Bool := ws.all fun w => decide (0 ≤ ahd w c)
def cok (t : Tri) (ws : List W4) (c : Cn) : Bool := kpB ws c && liesB t c
def areB (t : Tri) (ws : List W4) (ps : List Pk) : Bool := ps.all isPk && ps.all fun p => p.cs.all (cok t ws)
theorem areB_eq (t : Tri) (ws : List W4) : ∀ ps : List Pk, areB t ws ps = ps.all fun p => isPk p && p.cs.all (cok t ws)
  | [] => rfl
  | p :: ps => by
    have ih := areB_eq t ws ps
    unfold areB at ih ⊢
    simp only [List.all_cons, ← ih]
    generalize ps.all isPk = x
    generalize (ps.all fun p => p.cs.all (cok t ws)) = y
    cases isPk p <;> cases p.cs.all (cok t ws) <;> cases x <;> cases y <;> rfl
theorem any_not (ws : List W4) (c : Cn) : (ws.map fun w => !decide (0 ≤ ahd w c)).any id = !kpB ws c := by
  unfold kpB
  induction ws with
  | nil => rfl
  | cons w ws ih =>
    simp only [List.map_cons, List.any_cons, List.all_cons, id, ih, Bool.not_and]
theorem anyB_map {α : Type} (f : α → Bool) (xs : List α) : bltD .any [.lst (xs.map fun x => D.bl (f x))] = some (.bl ((xs.map f).any id)) := by
  rw [blt_any, allB_map f xs, Option.map_some]
theorem forL_allA {α : Type} (g : α → D) {f : D → S → Res Flow} {p : α → Bool} {r : D} (Inv : S → Prop) : ∀ (ds : List α) (h : ∀ d, d ∈ ds → ∀ s, Inv s → ∃ s', f (g d) s = .ok (if p d then .nx else .rt r) s' ∧ Inv s') (s : S), Inv s →
    ∃ s', Inv s' ∧ forL f (ds.map g) s = .ok (if ds.all p then .nx else .rt r) s'
  | [], h, s, hs => ⟨s, hs, rfl⟩
  | d :: ds, h, s, hs => by
    obtain ⟨s1, e1, i1⟩ := h d (by simp) s hs
    cases hp : p d with
    | true =>
      rw [hp, if_pos rfl] at e1
      obtain ⟨s2, i2, e2⟩ := forL_allA g Inv ds (fun d hd => h d (by simp [hd])) s1 i1
      refine ⟨s2, i2, ?_⟩
      rw [List.map_cons]
      unfold forL
      rw [e1, Res.bnd_ok]
      simp only [List.all_cons, hp, Bool.true_and]
      exact e2
    | false =>
      rw [hp, if_neg (by decide)] at e1
      refine ⟨s1, i1, ?_⟩
      rw [List.map_cons]
      unfold forL
      rw [e1, Res.bnd_ok]
      simp [hp]
section
variable {L : Nat} (hL : 2 ^ 9000 ≤ L)
include hL
end
end Q.K26
end

section
set_option maxRecDepth 100000
set_option maxHeartbeats 4000000
set_option exponentiation.threshold 70
/-! P31k: fans, pieces, lies_in; what is no lot of pieces. -/
namespace Q.K26
open PySem L2 Q
@[simp] theorem ws_len (ws : List W4) : lenD (wsD ws) = some ws.length := by show some (ws.map W4.d).length = _; simp
def fanL (k : Int) (cs : List Cn) : List Pk := (List.range (cs.length - 2)).map fun i => ⟨.int k, [gt cs 0, gt cs (i + 1), gt cs (i + 2)]⟩
def Tri.cs (t : Tri) : List Cn := [⟨t.p, t.vs.map (·.1)⟩, ⟨t.q, t.vs.map (·.2.1)⟩, ⟨t.s, t.vs.map (·.2.2)⟩]
theorem tcs_d (t : Tri) : D.tup [t.c1, t.c2, t.c3] = csD t.cs := rfl
theorem wok1 : Wok [⟨0, 0, 1, 1⟩] := ⟨⟨[], rfl⟩, by simp, fun w hw => by
  simp at hw; subst hw; exact ⟨by decide, by decide, by decide, by decide, by decide⟩⟩
section
variable {L : Nat}
variable (hL : 2 ^ 9000 ≤ L)
include hL
end
end Q.K26
end

section
set_option maxRecDepth 100000
set_option maxHeartbeats 4000000
set_option exponentiation.threshold 70
/-! P31l: a piece cut once. -/
namespace Q.K26
open PySem L2 Q
def WH : D := .tup [.str "whole"]
def PL : D := .tup [.str "cut", .int 0, .tup [.int 1, .int 2], WH, WH]
theorem wh_eq : opC .eq WH (.tup [.str "whole"]) = some true := by decide +kernel
theorem pl_eq : opC .eq PL (.tup [.str "whole"]) = some false := by decide +kernel
theorem cut_ne : opC .ne (.str "cut") (.str "cut") = some false := by decide +kernel
@[simp] theorem wh_frz : WH.frz = WH := rfl
@[simp] theorem pl_frz : PL.frz = PL := rfl
@[simp] theorem gv_wh (l : List (Option D)) (b : List (List D)) (i : Nat) : gv (some (some WH)) l b i = .ok WH ⟨l, b⟩ := rfl
@[simp] theorem gv_pl (l : List (Option D)) (b : List (List D)) (i : Nat) : gv (some (some PL)) l b i = .ok PL ⟨l, b⟩ := rfl
@[simp] theorem ct_wh (bx : List (List D)) : ctD bx WH = some WH := rfl
@[simp] theorem ct_pl (bx : List (List D)) : ctD bx PL = some PL := rfl
@[simp] theorem ix_wh : ixD WH (.int 0) = some (.str "whole") := by show atI (_ :: _) 0 = _; rw [at0]
@[simp] theorem ix_pl0 : ixD PL (.int 0) = some (.str "cut") := by show atI (_ :: _) 0 = _; rw [at0]
@[simp] theorem ix_pl1 : ixD PL (.int 1) = some (.int 0) := by show atI (_ :: _ :: _) 1 = _; rw [at1]
@[simp] theorem ix_pl2 : ixD PL (.int 2) = some (.tup [.int 1, .int 2]) := by show atI (_ :: _ :: _ :: _) 2 = _; rw [at2]
@[simp] theorem ix_pl3 : ixD PL (.int 3) = some WH := by show atI (_ :: _ :: _ :: _ :: _) 3 = _; rw [at3]
@[simp] theorem ix_pl4 : ixD PL (.int 4) = some WH := by show atI (_ :: _ :: _ :: _ :: _ :: _) 4 = _; rw [at4]
@[simp] theorem sl_pl3 : slD PL (some 3) none = some (.tup [WH, WH]) := rfl
def hf : Rat := Rat.normalize 1 2 (by decide)
theorem hf_d : D.tup [.int 1, .int 2] = sh hf := rfl
theorem hf_sz : Sz 2 hf := norm_sz _ (by decide) (by decide)
section
variable {L : Nat}
variable (hL : 2 ^ 9000 ≤ L)
include hL
end
end Q.K26
end

section
set_option maxRecDepth 100000
set_option maxHeartbeats 4000000
set_option exponentiation.threshold 70
/-! P31m: corners as the law draws them. -/
namespace Q.K26
open PySem L2 Q
structure Sc (c : Cn) : Prop where
  x : Hm 2 4 c.p.x
  y : Hm 2 4 c.p.y
  z : Hm 2 4 c.p.z
  l : ∀ q, q ∈ c.l → Hm 2 4 q
  z0 : 0 < c.p.z
  n : c.l.length = 1
theorem norm_hm {t : Int} {b : Nat} (hb : b = 1 ∨ b = 2) (ht : t.natAbs < 8) (h0 : b ≠ 0) : Hm 2 4 (Rat.normalize t b h0) ∧ (0 < t → 0 < Rat.normalize t b h0) := by
  have e : Rat.normalize t b h0 = (t : Rat) / ((b : Int) : Rat) := by rw [Rat.normalize_eq_mkRat, Rat.mkRat_eq_div]; try rfl
  have e2 : ((2 : Nat) : Rat) = 2 := rfl
  rcases hb with rfl | rfl
  · have e1 : (((1 : Nat) : Int) : Rat) = 1 := rfl
    rw [e, e1]
    refine ⟨⟨t * 2, by omega, ?_⟩, fun h => ?_⟩
    · rw [Rat.intCast_mul, e2]
      have : ((2 : Int) : Rat) = 2 := rfl
      grind
    · have : (0 : Rat) < t := Rat.intCast_pos.mpr h
      grind
  · have e1 : (((2 : Nat) : Int) : Rat) = 2 := rfl
    rw [e, e1]
    refine ⟨⟨t, by omega, ?_⟩, fun h => ?_⟩
    · rw [e2]; grind
    · have : (0 : Rat) < t := Rat.intCast_pos.mpr h
      grind
section
variable {L : Nat} (hL : 2 ^ 9000 ≤ L)
include hL
end
theorem Sc.cz {c : Cn} (h : Sc c) : c.p.Z 10 ∧ Szs 10 c.l := by
  have s : ∀ {q : Rat}, Hm 2 4 q → Sz 10 q := fun h => (h.sz (by omega) (by omega)).mono (by omega)
  exact ⟨⟨s h.x, s h.y, s h.z⟩, fun q hq => s (h.l q hq)⟩
theorem Sc.c {c : Cn} (h : Sc c) : Cz c := ⟨h.cz.1.mono (by omega), fun q hq => (h.cz.2 q hq).mono (by omega), by rw [h.n]; omega⟩
structure Ts (t : Tri) : Prop where
  ok : t.Ok
  v : t.vs.length = 1
  c : ∀ c, c ∈ t.cs → Sc c
theorem tri_of {r : Int} (h0 : 0 ≤ r) (h3 : r ≤ 3) {a b c : Cn} (ha : Sc a) (hb : Sc b) (hc : Sc c) : ∃ t : Tri, t.k = r ∧ t.cs = [a, b, c] ∧ Ts t := by
  obtain ⟨p, l1⟩ := a
  obtain ⟨q, l2⟩ := b
  obtain ⟨s, l3⟩ := c
  obtain ⟨vs, e1, e2, e3, hv⟩ := vals3 (L := 2 ^ 9000) (Nat.le_refl _) (k := 1) l1 l2 l3 ha.n hb.n hc.n
  subst e1 e2 e3
  refine ⟨⟨r, p, q, s, vs⟩, rfl, rfl, ⟨h0, h3, ha.cz.1, hb.cz.1, hc.cz.1, by show 1 ≤ vs.length; omega, by show vs.length ≤ 4; omega, fun x hx => ⟨ha.cz.2 _ (List.mem_map.mpr ⟨x, hx, rfl⟩), hb.cz.2 _ (List.mem_map.mpr ⟨x, hx, rfl⟩), hc.cz.2 _ (List.mem_map.mpr ⟨x, hx, rfl⟩)⟩⟩, hv, fun c hc' => ?_⟩
  simp [Tri.cs] at hc'
  rcases hc' with rfl | rfl | rfl <;> assumption
theorem Ts.g {t : Tri} (h : Ts t) : ∀ c, c ∈ t.cs → Gc t [] 4 c := fun c hc => by
  have s := h.c c hc
  have hb : ∃ b, Ib t c b := by
    simp [Tri.cs] at hc
    rcases hc with rfl | rfl | rfl
    · exact ⟨(1, 0, 0), by decide, by decide, by decide, by show ((1 : Rat) + 0 + 0 : Rat) = 1; grind, by simp only [comb]; cases t.p; simp; grind, List.map_congr_left fun x _ => by simp only [mixR]; grind⟩
    · exact ⟨(0, 1, 0), by decide, by decide, by decide, by show (0 + 1 + 0 : Rat) = 1; grind, by simp only [comb]; cases t.q; simp; grind, List.map_congr_left fun x _ => by simp only [mixR]; grind⟩
    · exact ⟨(0, 0, 1), by decide, by decide, by decide, by show (0 + 0 + 1 : Rat) = 1; grind, by simp only [comb]; cases t.s; simp; grind, List.map_congr_left fun x _ => by simp only [mixR]; grind⟩
  exact ⟨hb, fun w hw => by simp at hw, 2, by omega, by omega, s.x, s.y, s.z, s.l⟩
end Q.K26
end

section
set_option maxRecDepth 100000
set_option maxHeartbeats 4000000
set_option exponentiation.threshold 70
/-! P31n: what good corners come to. -/
namespace Q.K26
open PySem L2 Q
theorem vol_comb1 (b : T3) (p q s : V) : vol (comb b p q s) q s = b.1 * vol p q s := by
  simp only [vol, V.dot, V.crs, comb]; grind
theorem vol_comb2 (b : T3) (p q s : V) : vol (comb b p q s) s p = b.2.1 * vol p q s := by
  simp only [vol, V.dot, V.crs, comb]; grind
theorem vol_comb3 (b : T3) (p q s : V) : vol (comb b p q s) p q = b.2.2 * vol p q s := by
  simp only [vol, V.dot, V.crs, comb]; grind
theorem Ib.w {t : Tri} (h0 : vol t.p t.q t.s ≠ 0) {c : Cn} {b : T3} (h : Ib t c b) : wts t c = b := by
  unfold wts
  rw [h.p, vol_comb1, vol_comb2, vol_comb3]
  obtain ⟨b1, b2, b3⟩ := b
  have e : ∀ x : Rat, x * vol t.p t.q t.s / vol t.p t.q t.s = x := fun x => by grind
  simp only [e]
theorem Ib.lies {t : Tri} (h0 : vol t.p t.q t.s ≠ 0) {c : Cn} {b : T3} (h : Ib t c b) : liesB t c = true := by
  unfold liesB inB
  rw [h.w h0]
  have e1 : one3 b = true := decide_eq_true h.s
  have e2 : nn3 b = true := by unfold nn3; simp [h.n1, h.n2, h.n3]
  have e3 : c.l.length = t.vs.length := by rw [h.l, List.length_map]
  simp [e1, e2, e3, h0, h.l]
theorem Ib.z {t : Tri} (h : Ts t) {c : Cn} {b : T3} (hb : Ib t c b) : 0 < c.p.z := by
  have z1 : 0 < t.p.z := (h.c ⟨t.p, t.vs.map (·.1)⟩ (by simp [Tri.cs])).z0
  have z2 : 0 < t.q.z := (h.c ⟨t.q, t.vs.map (·.2.1)⟩ (by simp [Tri.cs])).z0
  have z3 : 0 < t.s.z := (h.c ⟨t.s, t.vs.map (·.2.2)⟩ (by simp [Tri.cs])).z0
  rw [hb.p]
  show 0 < b.1 * t.p.z + b.2.1 * t.q.z + b.2.2 * t.s.z
  have s := hb.s
  have n1 := Rat.mul_nonneg hb.n1 (Rat.le_of_lt z1)
  have n2 := Rat.mul_nonneg hb.n2 (Rat.le_of_lt z2)
  have n3 := Rat.mul_nonneg hb.n3 (Rat.le_of_lt z3)
  by_cases h1 : 0 < b.1
  · have := Rat.mul_pos h1 z1
    grind
  · by_cases h2 : 0 < b.2.1
    · have := Rat.mul_pos h2 z2
      grind
    · have h1' := hb.n1
      have h2' := hb.n2
      have e3 : b.2.2 = 1 := by grind
      rw [e3, Rat.one_mul]
      grind
theorem fan_len (k : Int) (cs : List Cn) : (fanL k cs).length ≤ cs.length := by
  unfold fanL; rw [List.length_map, List.length_range]; omega
theorem bt_pos {u a b : Rat} (h0 : 0 ≤ u) (h1 : u < 1) (ha : 0 < a) (hb : 0 < b) : 0 < bt u a b := by
  have e : bt u a b = (1 - u) * a + u * b := by simp only [bt]; grind
  rw [e]
  have x1 := Rat.mul_pos (by grind : (0 : Rat) < 1 - u) ha
  have x2 := Rat.mul_nonneg h0 (Rat.le_of_lt hb)
  grind
section
variable {a b c : Cn} (ha : Sc a) (hb : Sc b) (hc : Sc c)
include ha hb
include hc
end
end Q.K26
end

section
set_option maxRecDepth 100000
set_option maxHeartbeats 4000000
set_option exponentiation.threshold 70
/-! S30a: shares by common bottoms; places that are seen. -/
namespace Q.K26
open PySem L2 Q
theorem natAbs_add2 {a b : Int} {k : Nat} (ha : a.natAbs < 2 ^ k) (hb : b.natAbs < 2 ^ k) : (a + b).natAbs < 2 ^ (k + 1) := by
  rw [Nat.pow_succ]; omega
theorem Hm.mul {D E k m : Nat} {q r : Rat} (hq : Hm D k q) (hr : Hm E m r) : Hm (D * E) (k + m) (q * r) := by
  obtain ⟨a, a1, a2⟩ := hq
  obtain ⟨b, b1, b2⟩ := hr
  refine ⟨a * b, natAbs_bd a1 b1, ?_⟩
  rw [Rat.intCast_mul, ← a2, ← b2, Rat.natCast_mul]; grind
theorem Hm.add {D k m : Nat} {q r : Rat} (hq : Hm D k q) (hr : Hm D m r) (hk : k ≤ m) : Hm D (m + 1) (q + r) := by
  obtain ⟨a, a1, a2⟩ := hq.mono hk
  obtain ⟨b, b1, b2⟩ := hr
  refine ⟨a + b, natAbs_add2 a1 b1, ?_⟩
  rw [Rat.intCast_add, ← a2, ← b2]; grind
theorem Hm.neg {D k : Nat} {q : Rat} (hq : Hm D k q) : Hm D k (-q) := by
  obtain ⟨a, a1, a2⟩ := hq
  refine ⟨-a, by rwa [Int.natAbs_neg], ?_⟩
  rw [Rat.intCast_neg, ← a2]; grind
theorem Hm.sub {D k m : Nat} {q r : Rat} (hq : Hm D k q) (hr : Hm D m r) (hk : k ≤ m) : Hm D (m + 1) (q - r) := by
  have := hq.add hr.neg hk
  rwa [show q + -r = q - r by grind] at this
theorem Hm.scale {D E k e : Nat} {q : Rat} (hq : Hm D k q) (hE : E < 2 ^ e) : Hm (D * E) (k + e) q := by
  have h1 : Hm E e 1 := ⟨E, by simpa using hE, by rw [castN]; grind⟩
  have := hq.mul h1
  rwa [Rat.mul_one] at this
theorem Hm.comm {D E k : Nat} {q : Rat} (h : Hm (D * E) k q) : Hm (E * D) k q := by rwa [Nat.mul_comm]
/-- a share of two numbers by one bottom -/
theorem Hm.div {D k : Nat} (h0 : 0 < D) {q r : Rat} (hq : Hm D k q) (hr : Hm D k r) (hz : r ≠ 0) : Sz k (q / r) := by
  obtain ⟨a, a1, a2⟩ := hq
  obtain ⟨b, b1, b2⟩ := hr
  have hd : (D : Rat) ≠ 0 := by
    intro e
    have : (D : Rat) = ((D : Int) : Rat) := (castN D).symm
    rw [this] at e
    have := Rat.intCast_eq_zero_iff.mp e
    omega
  have hb0 : b ≠ 0 := by
    intro e
    rw [e] at b2
    have : r * (D : Rat) = 0 := b2
    rcases Rat.mul_eq_zero.mp this with z | z
    · exact hz z
    · exact hd z
  have e1 : q / r = (a : Rat) / (b : Rat) := by
    rw [← a2, ← b2]; grind
  rw [e1]
  rcases Int.lt_or_gt_of_ne hb0 with hn | hp
  · have e2 : (a : Rat) / (b : Rat) = Rat.normalize (-a) b.natAbs (by omega) := by
      rw [Rat.normalize_eq_mkRat, Rat.mkRat_eq_div]
      have : ((b.natAbs : Int) : Rat) = -(b : Rat) := by rw [← Rat.intCast_neg]; congr 1; omega
      have h2 : (((-a : Int)) : Rat) = -(a : Rat) := Rat.intCast_neg a
      have h3 : ((b.natAbs : Nat) : Rat) = -(b : Rat) := by rw [← castN]; exact this
      rw [h2]
      first | rw [h3] | rw [this]
      grind
    rw [e2]
    exact norm_sz _ (by rwa [Int.natAbs_neg]) b1
  · have e2 : (a : Rat) / (b : Rat) = Rat.normalize a b.natAbs (by omega) := by
      rw [Rat.normalize_eq_mkRat, Rat.mkRat_eq_div]
      have : ((b.natAbs : Int) : Rat) = (b : Rat) := by congr 1; omega
      have h3 : ((b.natAbs : Nat) : Rat) = (b : Rat) := by rw [← castN]; exact this
      first | rw [h3] | rw [this]
    rw [e2]
    exact norm_sz _ a1 b1
/-- a corner whose numbers have a common bottom -/
structure Hq (k : Nat) (c : Cn) : Prop where
  h : ∃ D : Nat, 0 < D ∧ D < 2 ^ k ∧ Hm D k c.p.x ∧ Hm D k c.p.y ∧ Hm D k c.p.z ∧ ∀ q, q ∈ c.l → Hm D k q
  z0 : 0 < c.p.z
  n1 : 1 ≤ c.l.length
  n4 : c.l.length ≤ 4
theorem Hq.z {k : Nat} {c : Cn} (g : Hq k c) : c.p.Z k ∧ Szs k c.l := by
  obtain ⟨D, d0, d1, x, y, z, l⟩ := g.h
  exact ⟨⟨x.sz d0 d1, y.sz d0 d1, z.sz d0 d1⟩, fun q hq => (l q hq).sz d0 d1⟩
theorem Hq.ne {k : Nat} {c : Cn} (g : Hq k c) : c.p.z ≠ 0 := by have := g.z0; grind
/-- a place in the picture -/
structure P2 where
  x : Rat
  y : Rat
namespace P2
def d (p : P2) : D := shs [p.x, p.y]
def Z (k : Nat) (p : P2) : Prop := Sz k p.x ∧ Sz k p.y
end P2
def sat (v : V) : P2 := ⟨v.x / v.z, v.y / v.z⟩
theorem Hq.sat {k : Nat} {c : Cn} (g : Hq k c) : (sat c.p).Z k := by
  obtain ⟨D, d0, d1, x, y, z, l⟩ := g.h
  exact ⟨x.div d0 z g.ne, y.div d0 z g.ne⟩
@[simp] theorem p2_frz (v : P2) : v.d.frz = v.d := rfl
@[simp] theorem p2_own (v : P2) : v.d.isOwn = false := rfl
@[simp] theorem gv_p2 (l : List (Option D)) (b : List (List D)) (i : Nat) (v : P2) : gv (some (some v.d)) l b i = .ok v.d ⟨l, b⟩ := rfl
@[simp] theorem ctD_p2 (bx : List (List D)) (v : P2) : ctD bx v.d = some v.d := rfl
@[simp] theorem ix_p20 (v : P2) : ixD v.d (.int 0) = some (sh v.x) := rfl
@[simp] theorem ix_p21 (v : P2) : ixD v.d (.int 1) = some (sh v.y) := rfl
def areaR (a b c : P2) : Rat := (b.x - a.x) * (c.y - a.y) - (b.y - a.y) * (c.x - a.x)
def edgeR (a b : P2) (x y : Rat) : Rat := (b.x - a.x) * (y - a.y) - (b.y - a.y) * (x - a.x)
def edgeS (a b : P2) (x y : Rat) : Int := mvS (edgeR a b x y) (0 - (b.y - a.y)) (b.x - a.x)
def pl3 (a b c : P2) : D := .lst [a.d, b.d, c.d]
section
variable {L : Nat} (hL : 2 ^ 9000 ≤ L)
include hL
theorem seenAt_ok {n k : Nat} (hn : 4 ≤ n) {c : Cn} (h : Hq k c) (hk : k ≤ 2000) : Pu L n 27 [c.p.d] (sat c.p).d :=
  Pu.mk (f := ⟨1, 1, i27⟩) (by omega) rfl rfl fun j e bx => by
    have hz := h.z.1
    have a := over_ok hL (n := j) (by omega) hz.1 hz.2.2 (by omega) h.ne
    have b := over_ok hL (n := j) (by omega) hz.2.1 hz.2.2 (by omega) h.ne
    refine ⟨[some c.p.d], ?_⟩
    simp [i27, startL, a.r, b.r]
    rfl
theorem seen_ok {n k : Nat} (hn : 5 ≤ n) {m : D} {a b c : Cn} (ha : Hq k a) (hb : Hq k b) (hc : Hq k c) (hk : k ≤ 2000) : Pu L n 44 [(⟨m, [a, b, c]⟩ : Pk).d] (.own [(sat a.p).d, (sat b.p).d, (sat c.p).d]) :=
  Pu.mk (f := ⟨1, 2, i44⟩) (by omega) rfl rfl fun j e bx => by
    have hcut : slD (⟨m, [a, b, c]⟩ : Pk).d (some 1) (some 4) = some (csD [a, b, c]) := rfl
    have hlc : evE (cc L j) (.lc (.call 27 (.cons (.ixv 1 (.cst (.int 0))) .nil)) (.var 1) (.its (.slv 0 (.prt (.cst (.int 1))) (.prt (.cst (.int 4))))) .nil [1]) ⟨[some (⟨m, [a, b, c]⟩ : Pk).d, none], bx⟩ = .ok (.own ([a, b, c].map fun x => (sat x.p).d)) ⟨[some (⟨m, [a, b, c]⟩ : Pk).d, none], bx⟩ :=
      lc_mapA [a, b, c] Cn.d (fun x => (sat x.p).d) (by simp [hcut]) (by show 3 ≤ 16777216; omega) (by simp [S.frzs, S.frz]) fun x hx => by
        have hxq : Hq k x := by simp at hx; rcases hx with rfl | rfl | rfl <;> assumption
        have c1 := seenAt_ok hL (n := j) (by omega) hxq hk
        exact ⟨[some (⟨m, [a, b, c]⟩ : Pk).d, some x.d], [some (⟨m, [a, b, c]⟩ : Pk).d, some x.d], (sat x.p).d, by simp [asgT, wipeL], by simp [c1.r], rfl, by simp [wipeL]⟩
    simp only [List.map] at hlc
    refine ⟨[some (⟨m, [a, b, c]⟩ : Pk).d, none], ?_⟩
    have hs : startL ⟨1, 2, i44⟩ [(⟨m, [a, b, c]⟩ : Pk).d] = [some (⟨m, [a, b, c]⟩ : Pk).d, none] := rfl
    rw [hs]
    show evS (cc L j) L (.seq (.ret _) .nil) _ = _
    rw [es_seq, es_ret, hlc, Res.bnd_ok, Res.bnd_ok, seqK_rt]
theorem area_ok {n k : Nat} (hn : 4 ≤ n) {a b c : P2} (ha : a.Z k) (hb : b.Z k) (hc : c.Z k) (hk : k ≤ 500) : Pu L n 45 [pl3 a b c] (sh (areaR a b c)) :=
  Pu.mk (f := ⟨1, 7, i45⟩) (by omega) rfl rfl fun j e bx => by
    have d1 := minus_ok hL (n := j) (by omega) hb.1 ha.1 (by omega)
    have d2 := minus_ok hL (n := j) (by omega) hc.2 ha.2 (by omega)
    have d3 := minus_ok hL (n := j) (by omega) hb.2 ha.2 (by omega)
    have d4 := minus_ok hL (n := j) (by omega) hc.1 ha.1 (by omega)
    have t1 := times_ok hL (n := j) (by omega) (sz_sub hb.1 ha.1) (sz_sub hc.2 ha.2) (by omega)
    have t2 := times_ok hL (n := j) (by omega) (sz_sub hb.2 ha.2) (sz_sub hc.1 ha.1) (by omega)
    have m1 := minus_ok hL (n := j) (by omega) (sz_mul (sz_sub hb.1 ha.1) (sz_sub hc.2 ha.2)) (sz_mul (sz_sub hb.2 ha.2) (sz_sub hc.1 ha.1)) (by omega)
    have ea : asgT (.tup (.cons (.tup (.cons (.var 1) (.cons (.var 2) .nil))) (.cons (.tup (.cons (.var 3) (.cons (.var 4) .nil))) (.cons (.tup (.cons (.var 5) (.cons (.var 6) .nil))) .nil)))) (pl3 a b c) ⟨[some (pl3 a b c), none, none, none, none, none, none], bx⟩ = some ⟨[some (pl3 a b c), some (sh a.x), some (sh a.y), some (sh b.x), some (sh b.y), some (sh c.x), some (sh c.y)], bx⟩ := rfl
    refine ⟨[some (pl3 a b c), some (sh a.x), some (sh a.y), some (sh b.x), some (sh b.y), some (sh c.x), some (sh c.y)], ?_⟩
    have hs : startL ⟨1, 7, i45⟩ [pl3 a b c] = [some (pl3 a b c), none, none, none, none, none, none] := rfl
    have gp : ∀ l, gv (some (some (pl3 a b c))) l bx 0 = .ok (pl3 a b c) ⟨l, bx⟩ := fun l => rfl
    have fp : (pl3 a b c).frz = pl3 a b c := rfl
    rw [hs]
    refine seq_of (l1 := [some (pl3 a b c), some (sh a.x), some (sh a.y), some (sh b.x), some (sh b.y), some (sh c.x), some (sh c.y)]) (b1 := bx) (by simp [gp, fp, ea]) ?_
    simp [d1.r, d2.r, d3.r, d4.r, t1.r, t2.r, m1.r, areaR]
theorem edgeAt_ok {n k : Nat} (hn : 4 ≤ n) {a b : P2} {x y : Rat} (ha : a.Z k) (hb : b.Z k) (hx : Sz k x) (hy : Sz k y) (hk : k ≤ 500) : Pu L n 46 [a.d, b.d, sh x, sh y] (sh (edgeR a b x y)) :=
  Pu.mk (f := ⟨4, 6, i46⟩) (by omega) rfl rfl fun j e bx => by
    have d1 := minus_ok hL (n := j) (by omega) hb.1 ha.1 (by omega)
    have d2 := minus_ok hL (n := j) (by omega) hb.2 ha.2 (by omega)
    have d3 := minus_ok hL (n := j) (by omega) hy ha.2 (by omega)
    have d4 := minus_ok hL (n := j) (by omega) hx ha.1 (by omega)
    have t1 := times_ok hL (n := j) (by omega) (sz_sub hb.1 ha.1) (sz_sub hy ha.2) (by omega)
    have t2 := times_ok hL (n := j) (by omega) (sz_sub hb.2 ha.2) (sz_sub hx ha.1) (by omega)
    have m1 := minus_ok hL (n := j) (by omega) (sz_mul (sz_sub hb.1 ha.1) (sz_sub hy ha.2)) (sz_mul (sz_sub hb.2 ha.2) (sz_sub hx ha.1)) (by omega)
    refine ⟨[some a.d, some b.d, some (sh x), some (sh y), some (sh (b.x - a.x)), some (sh (b.y - a.y))], ?_⟩
    simp [i46, startL, d1.r, d2.r, d3.r, d4.r, t1.r, t2.r, m1.r, edgeR]
theorem edgeSign_ok {n k : Nat} (hn : 5 ≤ n) {a b : P2} {x y : Rat} (ha : a.Z k) (hb : b.Z k) (hx : Sz k x) (hy : Sz k y) (hk : k ≤ 500) : Pu L n 47 [a.d, b.d, sh x, sh y] (.int (edgeS a b x y)) :=
  Pu.mk (f := ⟨4, 7, i47⟩) (by omega) rfl rfl fun j e bx => by
    have d1 := minus_ok hL (n := j) (by omega) hb.1 ha.1 (by omega)
    have d2 := minus_ok hL (n := j) (by omega) hb.2 ha.2 (by omega)
    have c1 := edgeAt_ok hL (n := j) (by omega) ha hb hx hy hk
    have c2 := minus_ok hL (n := j) (by omega) sz_zero (sz_sub hb.2 ha.2) (by omega)
    have z0 : prg.gb 0 = some (sh 0) := rfl
    have s1 := signOf_ok (L := L) (n := j) (by omega) (edgeR a b x y)
    have s2 := signOf_ok (L := L) (n := j) (by omega) (0 - (b.y - a.y))
    have s3 := signOf_ok (L := L) (n := j) (by omega) (b.x - a.x)
    have hs : startL ⟨4, 7, i47⟩ [a.d, b.d, sh x, sh y] = [some a.d, some b.d, some (sh x), some (sh y), none, none, none] := rfl
    have hI : evI (cc L j) (.its (.tup (.cons (.call 46 (.cons (.var 0) (.cons (.var 1) (.cons (.var 2) (.cons (.var 3) .nil))))) (.cons (.call 7 (.cons (.glb 0) (.cons (.var 6) .nil))) (.cons (.var 5) .nil))))) ⟨[some a.d, some b.d, some (sh x), some (sh y), none, some (sh (b.x - a.x)), some (sh (b.y - a.y))], bx⟩ = .ok [sh (edgeR a b x y), sh (0 - (b.y - a.y)), sh (b.x - a.x)] ⟨[some a.d, some b.d, some (sh x), some (sh y), none, some (sh (b.x - a.x)), some (sh (b.y - a.y))], bx⟩ := by
      simp [c1.r, c2.r, z0]
    have hi : i47 = .seq (.par 5 6 (.call 7 (.cons (.ixv 1 (.cst (.int 0))) (.cons (.ixv 0 (.cst (.int 0))) .nil))) (.call 7 (.cons (.ixv 1 (.cst (.int 1))) (.cons (.ixv 0 (.cst (.int 1))) .nil)))) (.seq (.for (.var 4) (.its (.tup (.cons (.call 46 (.cons (.var 0) (.cons (.var 1) (.cons (.var 2) (.cons (.var 3) .nil))))) (.cons (.call 7 (.cons (.glb 0) (.cons (.var 6) .nil))) (.cons (.var 5) .nil))))) (.seq (.ite (.tru (.cmp .ne (.call 18 (.cons (.var 4) .nil)) (.cst (.int 0)))) (.seq (.ret (.call 18 (.cons (.var 4) .nil))) .nil) .nil) .nil)) (.seq (.ret (.cst (.int 0))) .nil)) := rfl
    have st : evS (cc L j) L (.par 5 6 (.call 7 (.cons (.ixv 1 (.cst (.int 0))) (.cons (.ixv 0 (.cst (.int 0))) .nil))) (.call 7 (.cons (.ixv 1 (.cst (.int 1))) (.cons (.ixv 0 (.cst (.int 1))) .nil)))) ⟨[some a.d, some b.d, some (sh x), some (sh y), none, none, none], bx⟩ = .ok .nx ⟨[some a.d, some b.d, some (sh x), some (sh y), none, some (sh (b.x - a.x)), some (sh (b.y - a.y))], bx⟩ := by simp [d1.r, d2.r]
    unfold edgeS mvS
    generalize edgeR a b x y = u at *
    generalize 0 - (b.y - a.y) = v at *
    generalize b.x - a.x = w at *
    generalize b.y - a.y = w2 at *
    by_cases h1 : sgn u = 0
    · by_cases h2 : sgn v = 0
      · by_cases h3 : sgn w = 0
        · refine ⟨[some a.d, some b.d, some (sh x), some (sh y), some (sh w), some (sh w), some (sh w2)], ?_⟩
          rw [hs]; show evS (cc L j) L i47 _ = _; rw [hi]
          refine seq_of st ?_
          rw [es_seq, es_for, hI, Res.bnd_ok]
          simp [forL, forT, asgT, s1.r, s2.r, s3.r, h1, h2, h3]
        · refine ⟨[some a.d, some b.d, some (sh x), some (sh y), some (sh w), some (sh w), some (sh w2)], ?_⟩
          rw [hs]; show evS (cc L j) L i47 _ = _; rw [hi]
          refine seq_of st ?_
          rw [es_seq, es_for, hI, Res.bnd_ok]
          simp [forL, forT, asgT, s1.r, s2.r, s3.r, h1, h2, h3]
      · refine ⟨[some a.d, some b.d, some (sh x), some (sh y), some (sh v), some (sh w), some (sh w2)], ?_⟩
        rw [hs]; show evS (cc L j) L i47 _ = _; rw [hi]
        refine seq_of st ?_
        rw [es_seq, es_for, hI, Res.bnd_ok]
        simp [forL, forT, asgT, s1.r, s2.r, h1, h2]
    · refine ⟨[some a.d, some b.d, some (sh x), some (sh y), some (sh u), some (sh w), some (sh w2)], ?_⟩
      rw [hs]; show evS (cc L j) L i47 _ = _; rw [hi]
      refine seq_of st ?_
      rw [es_seq, es_for, hI, Res.bnd_ok]
      simp [forL, forT, asgT, s1.r, h1]
end
end Q.K26
end

section
set_option maxRecDepth 100000
set_option maxHeartbeats 4000000
set_option exponentiation.threshold 70
/-! S30b: edges, owning. -/
namespace Q.K26
open PySem L2 Q
def edD (a b : P2) : D := .tup [a.d, b.d]
def edL (a b c : P2) : List (P2 × P2) := if 0 < areaR a b c then [(b, c), (c, a), (a, b)] else [(c, b), (a, c), (b, a)]
def eB (x y : Rat) (e : P2 × P2) : Bool := decide (edgeS e.1 e.2 x y > 0)
def ownB (a b c : P2) (x y : Rat) : Bool := decide (areaR a b c ≠ 0) && (edL a b c).all (eB x y)
theorem sgn_pos_iff (q : Rat) : decide (sgn q > 0) = decide (0 < q) := by rw [sgn_eq]; grind
section
variable {L : Nat} (hL : 2 ^ 9000 ≤ L)
include hL
theorem edges_ok {n k : Nat} (hn : 5 ≤ n) {a b c : P2} (ha : a.Z k) (hb : b.Z k) (hc : c.Z k) (hk : k ≤ 500) : Pu L n 48 [pl3 a b c] (.lst ((edL a b c).map fun e => edD e.1 e.2)) :=
  Pu.mk (f := ⟨1, 5, i48⟩) (by omega) rfl rfl fun j e bx => by
    have c1 := area_ok hL (n := j) (by omega) ha hb hc hk
    have c2 := signOf_ok (L := L) (n := j) (by omega) (areaR a b c)
    have cs : opC .gt (.int (sgn (areaR a b c))) (.int 0) = some (decide (0 < areaR a b c)) := by rw [← sgn_pos_iff]; rfl
    have gp : ∀ l, gv (some (some (pl3 a b c))) l bx 0 = .ok (pl3 a b c) ⟨l, bx⟩ := fun l => rfl
    have gp1 : ∀ l, gv (some (some (pl3 a b c))) l bx 1 = .ok (pl3 a b c) ⟨l, bx⟩ := fun l => rfl
    have fp : (pl3 a b c).frz = pl3 a b c := rfl
    have ct : ∀ x y z : P2, ctD bx (pl3 x y z) = some (pl3 x y z) := fun x y z => rfl
    have i0 : ∀ x y z : P2, ixD (pl3 x y z) (.int 0) = some x.d := fun x y z => by show atI (_ :: _) 0 = _; rw [at0]
    have i1 : ∀ x y z : P2, ixD (pl3 x y z) (.int 1) = some y.d := fun x y z => by show atI (_ :: _ :: _) 1 = _; rw [at1]
    have i2 : ∀ x y z : P2, ixD (pl3 x y z) (.int 2) = some z.d := fun x y z => by show atI (_ :: _ :: _ :: _) 2 = _; rw [at2]
    have r3 : rngOk 0 3 = true := rfl
    have rr : rangeD 0 3 = [.int 0, .int 1, .int 2] := rfl
    have hs : startL ⟨1, 5, i48⟩ [pl3 a b c] = [some (pl3 a b c), none, none, none, none] := rfl
    unfold edL
    by_cases h : 0 < areaR a b c
    · rw [if_pos h]
      refine ⟨[some (pl3 a b c), some (pl3 a b c), some (.lst [.int 0, .int 1, .int 2]), some (.lst [edD b c, edD c a, edD a b]), some (.int 2)], ?_⟩
      rw [hs]
      refine seq_of (l1 := [some (pl3 a b c), some (pl3 a b c), none, none, none]) (b1 := bx) (by simp [gp, fp, c1.r, c2.r, cs, h]) ?_
      refine seq_of (l1 := [some (pl3 a b c), some (pl3 a b c), some (.lst [.int 0, .int 1, .int 2]), none, none]) (b1 := bx) (by simp [gp, fp, c1.r, c2.r, cs, h]) ?_
      refine seq_of (l1 := [some (pl3 a b c), some (pl3 a b c), some (.lst [.int 0, .int 1, .int 2]), some (.own [.non, .non, .non]), none]) (b1 := bx) (by simp) ?_
      refine seq_of (l1 := [some (pl3 a b c), some (pl3 a b c), some (.lst [.int 0, .int 1, .int 2]), some (.own [edD b c, edD c a, edD a b]), some (.int 2)]) (b1 := bx) ?_ (by simp)
      have hI : evI (cc L j) (.rng1 (.cst (.int 3))) ⟨[some (pl3 a b c), some (pl3 a b c), some (.lst [.int 0, .int 1, .int 2]), some (.own [.non, .non, .non]), none], bx⟩ = .ok [.int 0, .int 1, .int 2] ⟨[some (pl3 a b c), some (pl3 a b c), some (.lst [.int 0, .int 1, .int 2]), some (.own [.non, .non, .non]), none], bx⟩ := by simp [r3, rr]
      rw [es_for, hI, Res.bnd_ok]
      simp [forL, forT, asgT, ct, i0, i1, i2, S.setItem, ixN]
      exact ⟨rfl, rfl, rfl⟩
    · rw [if_neg h]
      refine ⟨[some (pl3 a b c), some (pl3 a c b), some (.lst [.int 0, .int 2, .int 1]), some (.lst [edD c b, edD a c, edD b a]), some (.int 2)], ?_⟩
      have ep : D.lst [a.d, c.d, b.d] = pl3 a c b := rfl
      rw [hs]
      refine seq_of (l1 := [some (pl3 a b c), some (pl3 a c b), none, none, none]) (b1 := bx) (by simp [gp, fp, c1.r, c2.r, cs, h, ct, i0, i1, i2, ep]) ?_
      refine seq_of (l1 := [some (pl3 a b c), some (pl3 a c b), some (.lst [.int 0, .int 2, .int 1]), none, none]) (b1 := bx) (by simp [gp, fp, c1.r, c2.r, cs, h]) ?_
      refine seq_of (l1 := [some (pl3 a b c), some (pl3 a c b), some (.lst [.int 0, .int 2, .int 1]), some (.own [.non, .non, .non]), none]) (b1 := bx) (by simp) ?_
      refine seq_of (l1 := [some (pl3 a b c), some (pl3 a c b), some (.lst [.int 0, .int 2, .int 1]), some (.own [edD c b, edD a c, edD b a]), some (.int 2)]) (b1 := bx) ?_ (by simp)
      have hI : evI (cc L j) (.rng1 (.cst (.int 3))) ⟨[some (pl3 a b c), some (pl3 a c b), some (.lst [.int 0, .int 2, .int 1]), some (.own [.non, .non, .non]), none], bx⟩ = .ok [.int 0, .int 1, .int 2] ⟨[some (pl3 a b c), some (pl3 a c b), some (.lst [.int 0, .int 2, .int 1]), some (.own [.non, .non, .non]), none], bx⟩ := by simp [r3, rr]
      rw [es_for, hI, Res.bnd_ok]
      simp [forL, forT, asgT, ct, i0, i1, i2, S.setItem, ixN]
      exact ⟨rfl, rfl, rfl⟩
theorem owns_ok {n k : Nat} (hn : 7 ≤ n) {m : D} {a b c : Cn} (ha : Hq k a) (hb : Hq k b) (hc : Hq k c) (hk : k ≤ 500) (k1 : 10 ≤ k) {p : P2} (hp : p.Z 10) : Pu L n 49 [(⟨m, [a, b, c]⟩ : Pk).d, p.d] (.bl (ownB (sat a.p) (sat b.p) (sat c.p) p.x p.y)) :=
  Pu.run (f := ⟨2, 5, i49⟩) (by omega) rfl fun j e bx => by
    have c0 := seen_ok hL (n := j) (by omega) (m := m) ha hb hc (by omega)
    have sa := ha.sat
    have sb := hb.sat
    have sc := hc.sat
    have px := hp.1.mono k1
    have py := hp.2.mono k1
    unfold ownB
    generalize sat a.p = A at *
    generalize sat b.p = B at *
    generalize sat c.p = C at *
    have c1 := area_ok hL (n := j) (by omega) sa sb sc hk
    have c2 := signOf_ok (L := L) (n := j) (by omega) (areaR A B C)
    have c3 := edges_ok hL (n := j) (by omega) sa sb sc hk
    have gp : ∀ l, gv (some (some (pl3 A B C))) l bx 2 = .ok (pl3 A B C) ⟨l, bx⟩ := fun l => rfl
    have fp : (pl3 A B C).frz = pl3 A B C := rfl
    have ep : D.lst [A.d, B.d, C.d] = pl3 A B C := rfl
    have hs : startL ⟨2, 5, i49⟩ [(⟨m, [a, b, c]⟩ : Pk).d, p.d] = [some (⟨m, [a, b, c]⟩ : Pk).d, some p.d, none, none, none] := rfl
    have eqI : ∀ i j : Int, opC .eq (.int i) (.int j) = some (i == j) := fun i j => rfl
    have hi : i49 = .seq (.asv 2 (.call 44 (.cons (.var 0) .nil))) (.seq (.ite (.tru (.cmp .eq (.call 18 (.cons (.call 45 (.cons (.var 2) .nil)) .nil)) (.cst (.int 0)))) (.seq (.ret (.cst (.bl false))) .nil) .nil) (.seq (.ret (.blt .all (.cons (.lc (.cmp .gt (.call 47 (.cons (.var 3) (.cons (.var 4) (.cons (.ixv 1 (.cst (.int 0))) (.cons (.ixv 1 (.cst (.int 1))) .nil))))) (.cst (.int 0))) (.tup (.cons (.var 3) (.cons (.var 4) .nil))) (.its (.call 48 (.cons (.var 2) .nil))) .nil [3, 4]) .nil))) .nil)) := rfl
    by_cases h0 : areaR A B C = 0
    · have e0 : sgn (areaR A B C) = 0 := (sgn_zero_iff _).mpr h0
      rw [e0] at c2
      rw [h0] at c1 c2
      refine runF_rt (s := ⟨[some (⟨m, [a, b, c]⟩ : Pk).d, some p.d, some (pl3 A B C), none, none], bx⟩) rfl ?_
      rw [hs]; show evS (cc L j) L i49 _ = _; rw [hi]
      refine seq_of (l1 := [some (⟨m, [a, b, c]⟩ : Pk).d, some p.d, some (.own [A.d, B.d, C.d]), none, none]) (b1 := bx) (by simp [c0.r]) ?_
      simp [ep, gp, fp, c1.r, c2.r, eqI, h0, -opC_eq]
    · have e0 : sgn (areaR A B C) ≠ 0 := fun z => h0 ((sgn_zero_iff _).mp z)
      have hlc : evE (cc L j) (.lc (.cmp .gt (.call 47 (.cons (.var 3) (.cons (.var 4) (.cons (.ixv 1 (.cst (.int 0))) (.cons (.ixv 1 (.cst (.int 1))) .nil))))) (.cst (.int 0))) (.tup (.cons (.var 3) (.cons (.var 4) .nil))) (.its (.call 48 (.cons (.var 2) .nil))) .nil [3, 4]) ⟨[some (⟨m, [a, b, c]⟩ : Pk).d, some p.d, some (pl3 A B C), none, none], bx⟩ = .ok (.own ((edL A B C).map fun e => .bl (eB p.x p.y e))) ⟨[some (⟨m, [a, b, c]⟩ : Pk).d, some p.d, some (pl3 A B C), none, none], bx⟩ :=
        lc_mapA (edL A B C) (fun e => edD e.1 e.2) (fun e => .bl (eB p.x p.y e)) (by simp [gp, fp, c3.r]) (by unfold edL; split <;> (show 3 ≤ 16777216; omega)) (by simp [S.frzs, S.frz]) fun y hy => by
          have hz : y.1.Z k ∧ y.2.Z k := by
            unfold edL at hy
            split at hy
            · simp at hy; rcases hy with rfl | rfl | rfl <;> exact ⟨by assumption, by assumption⟩
            · simp at hy; rcases hy with rfl | rfl | rfl <;> exact ⟨by assumption, by assumption⟩
          have c4 := edgeSign_ok hL (n := j) (by omega) hz.1 hz.2 px py hk
          exact ⟨[some (⟨m, [a, b, c]⟩ : Pk).d, some p.d, some (pl3 A B C), some y.1.d, some y.2.d], [some (⟨m, [a, b, c]⟩ : Pk).d, some p.d, some (pl3 A B C), some y.1.d, some y.2.d], .bl (eB p.x p.y y), by simp [asgT, asgT.asgTs, wipeL, edD], by simp [c4.r, eB], rfl, by simp [wipeL]⟩
      have hall : bltD .all [.lst ((edL A B C).map fun e => .bl (eB p.x p.y e))] = some (.bl ((edL A B C).all (eB p.x p.y))) := by
        rw [blt_all, allB_map (eB p.x p.y), Option.map_some, List.all_map]; rfl
      have ev : evE (cc L j) (.blt .all (.cons (.lc (.cmp .gt (.call 47 (.cons (.var 3) (.cons (.var 4) (.cons (.ixv 1 (.cst (.int 0))) (.cons (.ixv 1 (.cst (.int 1))) .nil))))) (.cst (.int 0))) (.tup (.cons (.var 3) (.cons (.var 4) .nil))) (.its (.call 48 (.cons (.var 2) .nil))) .nil [3, 4]) .nil)) ⟨[some (⟨m, [a, b, c]⟩ : Pk).d, some p.d, some (pl3 A B C), none, none], bx⟩ = .ok (.bl ((edL A B C).all (eB p.x p.y))) ⟨[some (⟨m, [a, b, c]⟩ : Pk).d, some p.d, some (pl3 A B C), none, none], bx⟩ := by
        rw [ev_blt, ea_cons, hlc, Res.bnd_ok, ea_nil, Res.bnd_ok, Res.bnd_ok, frz_own', hall]; rfl
      refine runF_rt (s := ⟨[some (⟨m, [a, b, c]⟩ : Pk).d, some p.d, some (pl3 A B C), none, none], bx⟩) rfl ?_
      rw [hs]; show evS (cc L j) L i49 _ = _; rw [hi]
      refine seq_of (l1 := [some (⟨m, [a, b, c]⟩ : Pk).d, some p.d, some (.own [A.d, B.d, C.d]), none, none]) (b1 := bx) (by simp [c0.r]) ?_
      refine seq_of (l1 := [some (⟨m, [a, b, c]⟩ : Pk).d, some p.d, some (pl3 A B C), none, none]) (b1 := bx) (by simp [ep, gp, fp, c1.r, c2.r, eqI, e0, -opC_eq]) ?_
      rw [es_seq, es_ret, ev, Res.bnd_ok, Res.bnd_ok, seqK_rt]
      simp [h0]
end
end Q.K26
end

section
set_option maxRecDepth 100000
set_option maxHeartbeats 4000000
set_option exponentiation.threshold 70
/-! R30a: how often a closed way goes about a ray, by signs. -/
namespace Q.K26
/-- on which side of the way from a to b the ray is -/
def br (r a b : V) : Rat := (a.crs b).dot r
theorem br_anti (r a b : V) : br r b a = -br r a b := by simp only [br, V.dot, V.crs]; grind
theorem br_self (r a : V) : br r a a = 0 := by simp only [br, V.dot, V.crs]; grind
theorem br_pl (r a b c d : V) : br r a b * br r c d - br r a c * br r b d + br r a d * br r b c = 0 := by
  simp only [br, V.dot, V.crs]; grind
/-- 1, -1 or 0: whether three are all above, all below, or neither -/
def tS (x y z : Rat) : Int := if 0 < x ∧ 0 < y ∧ 0 < z then 1 else if x < 0 ∧ y < 0 ∧ z < 0 then -1 else 0
def tr (r a b c : V) : Int := tS (br r b c) (br r c a) (br r a b)
theorem tr_aab (r a b : V) : tr r a a b = 0 := by
  unfold tr tS
  have := br_self r a
  grind
theorem tr_abb (r a b : V) : tr r a b b = 0 := by
  unfold tr tS
  have := br_self r b
  grind
theorem tr_aba (r a b : V) : tr r a b a = 0 := by
  unfold tr tS
  have := br_self r a
  grind
theorem tr_rot (r a b c : V) : tr r b c a = tr r a b c := by
  unfold tr tS; grind
theorem tr_sw (r a b c : V) : tr r b a c = -tr r a b c := by
  unfold tr tS
  rw [br_anti r c b, br_anti r a c, br_anti r b a]
  generalize br r c b = x
  generalize br r a c = y
  generalize br r b a = z
  by_cases h1 : 0 < x ∧ 0 < y ∧ 0 < z
  · have h2 : ¬ (0 < -y ∧ 0 < -x ∧ 0 < -z) := by grind
    have h3 : -y < 0 ∧ -x < 0 ∧ -z < 0 := by grind
    grind
  · grind
def sB3 (x y z : Bool) : Int := if x && (y && z) then 1 else if !x && (!y && !z) then -1 else 0
theorem tS_b {x y z : Rat} (hx : x ≠ 0) (hy : y ≠ 0) (hz : z ≠ 0) : tS x y z = sB3 (decide (0 < x)) (decide (0 < y)) (decide (0 < z)) := by
  unfold tS sB3
  by_cases h1 : 0 < x <;> by_cases h2 : 0 < y <;> by_cases h3 : 0 < z <;> simp [h1, h2, h3] <;> grind
theorem dec_mul {x y : Rat} (hx : x ≠ 0) (hy : y ≠ 0) : decide (0 < x * y) = (decide (0 < x) == decide (0 < y)) := by
  by_cases h1 : 0 < x <;> by_cases h2 : 0 < y
  · have := Rat.mul_pos h1 h2
    simp [h1, h2, this]
  · have h3 : 0 < -y := by grind
    have := Rat.mul_pos h1 h3
    have h4 : ¬ 0 < x * y := by grind
    simp [h1, h2, h4]
  · have h3 : 0 < -x := by grind
    have := Rat.mul_pos h3 h2
    have h4 : ¬ 0 < x * y := by grind
    simp [h1, h2, h4]
  · have h3 : 0 < -x := by grind
    have h5 : 0 < -y := by grind
    have := Rat.mul_pos h3 h5
    have h4 : 0 < x * y := by grind
    simp [h1, h2, h4]
theorem dec_neg {x : Rat} (hx : x ≠ 0) : decide (0 < -x) = !decide (0 < x) := by
  by_cases h : 0 < x
  · have : ¬ 0 < -x := by grind
    simp [h, this]
  · have : 0 < -x := by grind
    simp [h, this]
theorem cyc_b : ∀ a b c d e f : Bool, ¬ ((a == f) = true ∧ (b == e) = false ∧ (c == d) = true) → ¬ ((a == f) = false ∧ (b == e) = true ∧ (c == d) = false) →
    sB3 f (!c) b - sB3 f (!e) d + sB3 c (!e) (!a) - sB3 b (!d) (!a) = 0 := by decide
/-- going about four: the sums agree -/
theorem tr_cyc {r p q a b : V} (h : ∀ u ∈ [p, q, a, b], ∀ v ∈ [p, q, a, b], br r u v = 0 → u = v) : tr r p a b - tr r q a b + tr r q p b - tr r q p a = 0 := by
  by_cases e1 : p = q
  · subst e1; rw [tr_aab, tr_aab]; omega
  by_cases e2 : p = a
  · subst e2; rw [tr_aab, tr_abb]; omega
  by_cases e3 : p = b
  · subst e3; rw [tr_aba, tr_abb, ← tr_rot r q p a, tr_sw r a p q]
    have := tr_rot r q a p
    have := tr_rot r a p q
    omega
  by_cases e4 : q = a
  · subst e4; rw [tr_aab, tr_aba, tr_sw r p q b]; omega
  by_cases e5 : q = b
  · subst e5; rw [tr_aba, tr_aba]
    have h1 := tr_rot r p a q
    have h2 := tr_rot r q p a
    have h3 := tr_rot r a q p
    omega
  by_cases e6 : a = b
  · subst e6; rw [tr_abb, tr_abb]; omega
  have n1 : br r p q ≠ 0 := fun z => e1 (h p (by simp) q (by simp) z)
  have n2 : br r p a ≠ 0 := fun z => e2 (h p (by simp) a (by simp) z)
  have n3 : br r p b ≠ 0 := fun z => e3 (h p (by simp) b (by simp) z)
  have n4 : br r q a ≠ 0 := fun z => e4 (h q (by simp) a (by simp) z)
  have n5 : br r q b ≠ 0 := fun z => e5 (h q (by simp) b (by simp) z)
  have n6 : br r a b ≠ 0 := fun z => e6 (h a (by simp) b (by simp) z)
  have pl := br_pl r p q a b
  have a1 : br r b p = -br r p b := br_anti _ _ _
  have a2 : br r b q = -br r q b := br_anti _ _ _
  have a3 : br r q p = -br r p q := br_anti _ _ _
  have a4 : br r a q = -br r q a := br_anti _ _ _
  unfold tr
  rw [a1, a2, a3, a4]
  generalize br r p q = A at *
  generalize br r p a = B at *
  generalize br r p b = C at *
  generalize br r q a = D at *
  generalize br r q b = E at *
  generalize br r a b = F at *
  have m : ∀ {x : Rat}, x ≠ 0 → -x ≠ 0 := fun h z => h (by grind)
  rw [tS_b n6 (m n3) n2, tS_b n6 (m n5) n4, tS_b n3 (m n5) (m n1), tS_b n2 (m n4) (m n1), dec_neg n1, dec_neg n3, dec_neg n4, dec_neg n5]
  refine cyc_b _ _ _ _ _ _ ?_ ?_
  · rw [← dec_mul n1 n6, ← dec_mul n2 n5, ← dec_mul n3 n4]
    rintro ⟨h1, h2, h3⟩
    have h1 := of_decide_eq_true h1
    have h2 := of_decide_eq_false h2
    have h3 := of_decide_eq_true h3
    grind
  · rw [← dec_mul n1 n6, ← dec_mul n2 n5, ← dec_mul n3 n4]
    rintro ⟨h1, h2, h3⟩
    have h1 := of_decide_eq_false h1
    have h2 := of_decide_eq_true h2
    have h3 := of_decide_eq_false h3
    have z1 : A * F ≠ 0 := fun z => by rcases Rat.mul_eq_zero.mp z with z | z <;> contradiction
    grind
end Q.K26
end

section
set_option maxRecDepth 100000
set_option maxHeartbeats 4000000
set_option exponentiation.threshold 70
/-! R30b: closed ways: from where they are looked at, points put in, points twice. -/
namespace Q.K26
/-- no two of these points in line with the ray but they are one -/
def Gn (r : V) (G : V → Prop) : Prop := ∀ u v, G u → G v → br r u v = 0 → u = v
def sP (r q : V) : List V → Int
  | a :: b :: l => tr r q a b + sP r q (b :: l)
  | _ => 0
@[simp] theorem sP_nil (r q : V) : sP r q [] = 0 := rfl
@[simp] theorem sP_one (r q a : V) : sP r q [a] = 0 := rfl
@[simp] theorem sP_cons (r q a b : V) (l : List V) : sP r q (a :: b :: l) = tr r q a b + sP r q (b :: l) := rfl
theorem sP_app (r q a : V) (m : List V) : ∀ l : List V, sP r q (l ++ a :: m) = sP r q (l ++ [a]) + sP r q (a :: m)
  | [] => by simp
  | [b] => by simp
  | b :: c :: l => by
    have := sP_app r q a m (c :: l)
    simp only [List.cons_append, sP_cons] at *
    omega
theorem tr_from {r : V} {G : V → Prop} (g : Gn r G) {p q a b : V} (hp : G p) (hq : G q) (ha : G a) (hb : G b) : tr r q a b = tr r p a b + tr r q p b - tr r q p a := by
  have h : ∀ x, x ∈ [p, q, a, b] → G x := fun x hx => by
    simp at hx; rcases hx with rfl | rfl | rfl | rfl <;> assumption
  have := tr_cyc (r := r) (p := p) (q := q) (a := a) (b := b) fun u hu v hv z => g u v (h u hu) (h v hv) z
  omega
theorem sP_from {r : V} {G : V → Prop} (g : Gn r G) {p q : V} (hp : G p) (hq : G q) (z : V) (hz : G z) : ∀ (l : List V) (a : V), G a → (∀ x, x ∈ l → G x) → sP r q (a :: l ++ [z]) = sP r p (a :: l ++ [z]) + tr r q p z - tr r q p a
  | [], a, ha, _ => by
    have := tr_from g hp hq ha hz
    simp; omega
  | b :: l, a, ha, h => by
    have h1 := tr_from g hp hq ha (h b (by simp))
    have h2 := sP_from g hp hq z hz l b (h b (by simp)) fun x hx => h x (by simp [hx])
    simp only [List.cons_append, sP_cons] at *
    omega
/-- the whole way about -/
def wP (r q : V) : List V → Int
  | [] => 0
  | a :: l => sP r q (a :: l ++ [a])
theorem wP_from {r : V} {G : V → Prop} (g : Gn r G) {p q : V} (hp : G p) (hq : G q) : ∀ (l : List V), (∀ x, x ∈ l → G x) → wP r q l = wP r p l
  | [], _ => rfl
  | a :: l, h => by
    have := sP_from g hp hq a (h a (by simp)) l a (h a (by simp)) fun x hx => h x (by simp [hx])
    show sP r q (a :: l ++ [a]) = sP r p (a :: l ++ [a])
    omega
theorem wP_zero {r q : V} (P : V → Prop) (hz : ∀ a b, P a → P b → tr r q a b = 0) : ∀ l : List V, (∀ x, x ∈ l → P x) → wP r q l = 0 := by
  have gen : ∀ (l : List V) , (∀ x, x ∈ l → P x) → sP r q l = 0 := by
    intro l
    induction l with
    | nil => intro _; rfl
    | cons a l ih =>
      intro h
      cases l with
      | nil => rfl
      | cons b l =>
        rw [sP_cons, hz a b (h a (by simp)) (h b (by simp)), ih fun x hx => h x (by simp [hx])]; rfl
  intro l h
  cases l with
  | nil => rfl
  | cons a l =>
    refine gen _ fun x hx => ?_
    simp at hx
    rcases hx with rfl | hx | rfl
    · exact h _ (by simp)
    · exact h _ (by simp [hx])
    · exact h _ (by simp)
/-- the last of a list that begins with a -/
theorem wP_two {r q : V} : ∀ l : List V, l.length < 3 → wP r q l = 0
  | [], _ => rfl
  | [a], _ => by simp [wP, tr_abb]
  | [a, b], _ => by
    have h1 := tr_rot r q a b
    have h2 := tr_rot r q b a
    have h3 := tr_sw r q a b
    have h4 := tr_sw r a q b
    have h5 := tr_rot r b q a
    have h6 := tr_sw r q b a
    have h7 := tr_rot r a q b
    have h8 : tr r b a q = -tr r a b q := by rw [tr_sw]
    simp [wP]; omega
  | _ :: _ :: _ :: _, h => by simp at h; omega
/-- looked at from its first point: the fan -/
theorem wP_fan (r a : V) (l : List V) : wP r a (a :: l) = sP r a l := by
  show sP r a (a :: (l ++ [a])) = _
  cases l with
  | nil => simp [tr_abb]
  | cons b l =>
    rw [List.cons_append, sP_cons, tr_aab, Int.zero_add]
    have : ∀ (l : List V) (b : V), sP r a (b :: (l ++ [a])) = sP r a (b :: l) := by
      intro l
      induction l with
      | nil => intro b; simp [tr_aba]
      | cons c l ih => intro b; rw [List.cons_append, sP_cons, sP_cons, ih]
    exact this l b
/-- those unlike the one ahead of them -/
def dd (p : V) [DecidableEq V] : List V → List V
  | [] => []
  | c :: l => (if c = p then [] else [c]) ++ dd c l
theorem sP_dd (r q : V) [DecidableEq V] : ∀ (l : List V) (p : V), sP r q (p :: dd p l) = sP r q (p :: l)
  | [], p => rfl
  | c :: l, p => by
    have ih := sP_dd r q l c
    unfold dd
    split
    · rename_i e
      subst e
      rw [List.nil_append, sP_cons, tr_abb, Int.zero_add, ih]
    · rw [List.cons_append, List.nil_append, sP_cons, sP_cons, ih]
end Q.K26
end

section
set_option maxRecDepth 100000
set_option maxHeartbeats 4000000
set_option exponentiation.threshold 70
/-! R30c: a closed way cut by a wall. -/
namespace Q.K26
theorem br_btl (r : V) (u : Rat) (a o b : V) : br r (btV u a o) b = bt u (br r a b) (br r o b) := by
  simp only [br, btV, bt, V.dot, V.crs]; grind
theorem br_btr (r : V) (u : Rat) (a o b : V) : br r b (btV u a o) = bt u (br r b a) (br r b o) := by
  simp only [br, btV, bt, V.dot, V.crs]; grind
theorem tr_seg {r : V} {u : Rat} (h0 : 0 ≤ u) (h1 : u ≤ 1) (a o : V) : tr r a (btV u a o) o = 0 := by
  unfold tr
  rw [br_btl, br_btr, br_self, br_self, br_anti r a o]
  generalize br r a o = X
  have e1 : bt u X 0 = (1 - u) * X := by simp only [bt]; grind
  have e2 : bt u 0 X = u * X := by simp only [bt]; grind
  rw [e1, e2]
  unfold tS
  rw [if_neg, if_neg]
  · rintro ⟨a1, a2, a3⟩
    have := Rat.mul_nonneg h0 (show (0 : Rat) ≤ X by grind)
    grind
  · rintro ⟨a1, a2, a3⟩
    have := Rat.mul_nonneg h0 (show (0 : Rat) ≤ -X by grind)
    grind
theorem tr_mid {r : V} {G : V → Prop} (g : Gn r G) {u : Rat} (h0 : 0 ≤ u) (h1 : u ≤ 1) {q a o : V} (hq : G q) (ha : G a) (ho : G o) (hm : G (btV u a o)) : tr r q a o = tr r q a (btV u a o) + tr r q (btV u a o) o := by
  have e := tr_from g ha hq hm ho
  have z := tr_seg (r := r) h0 h1 a o
  have s := tr_sw r q a o
  have s2 := tr_sw r q a (btV u a o)
  have s3 := tr_sw r a q (btV u a o)
  omega
section
variable (g : V → Rat)
def mid (a o : V) : List V := if opp (g a) (g o) then [btV (g a / (g a - g o)) a o] else []
def rf (f : V) : List V → List V
  | [] => []
  | [c] => c :: mid g c f
  | c :: d :: l => c :: (mid g c d ++ rf f (d :: l))
def kept (x : V) : Bool := decide (0 ≤ g x)
def wsg (x y : Rat) : Prop := (0 ≤ x ∧ 0 ≤ y) ∨ (x ≤ 0 ∧ y ≤ 0)
def ch : List V → Prop
  | a :: b :: l => wsg (g a) (g b) ∧ ch (b :: l)
  | _ => True
variable {g}
theorem opp_part {h t : Rat} (hs : opp h t = true) : h - t ≠ 0 ∧ 0 ≤ h / (h - t) ∧ h / (h - t) ≤ 1 ∧ bt (h / (h - t)) h t = 0 := by
  have hs := of_decide_eq_true hs
  have key : ∀ {a b : Rat}, 0 < a → b < 0 → 0 ≤ a / (a - b) ∧ a / (a - b) ≤ 1 := fun {a b} ha hb => by
    have hd : 0 < a - b := by grind
    have i : 0 < (a - b)⁻¹ := Rat.inv_pos.mpr hd
    have e1 : a / (a - b) = a * (a - b)⁻¹ := Rat.div_def _ _
    have p1 := Rat.mul_pos ha i
    have p2 := Rat.mul_pos (show 0 < -b by grind) i
    have e2 : a / (a - b) + (-b) * (a - b)⁻¹ = 1 := by rw [e1]; grind
    constructor <;> grind
  rcases hs with ⟨h1, h2⟩ | ⟨h1, h2⟩
  · obtain ⟨k1, k2⟩ := key h1 h2
    exact ⟨by grind, k1, k2, by simp only [bt]; grind⟩
  · obtain ⟨k1, k2⟩ := key (show 0 < -h by grind) (show -t < 0 by grind)
    have e : -h / (-h - -t) = h / (h - t) := by
      have n : h - t ≠ 0 := by grind
      have n2 : -h - -t ≠ 0 := by grind
      grind
    rw [e] at k1 k2
    exact ⟨by grind, k1, k2, by simp only [bt]; grind⟩
theorem not_opp {h t : Rat} (hs : opp h t = false) : wsg h t := by
  have hs := of_decide_eq_false hs
  unfold wsg; grind
variable {r : V} {G : V → Prop} (gn : Gn r G)
include gn
theorem sP_rf {q f : V} (hq : G q) (hf : G f) : ∀ (l : List V), (∀ x, x ∈ rf g f l → G x) → sP r q (rf g f l ++ [f]) = sP r q (l ++ [f])
  | [], _ => rfl
  | [c], h => by
    unfold rf mid at *
    split
    · rename_i ho
      obtain ⟨_, u0, u1, _⟩ := opp_part ho
      have := tr_mid gn u0 u1 hq (h c (by simp)) hf (h _ (by simp [ho]))
      simp; omega
    · rfl
  | c :: d :: l, h => by
    have hd : ∀ x, x ∈ rf g f (d :: l) → G x := fun x hx => h x (by unfold rf; simp [hx])
    have dm : d ∈ rf g f (d :: l) := by cases l <;> (unfold rf; simp)
    have ih := sP_rf hq hf (d :: l) hd
    have hc : G c := h c (by unfold rf; simp)
    obtain ⟨t, ht⟩ : ∃ t, rf g f (d :: l) = d :: t := by cases l <;> exact ⟨_, rfl⟩
    unfold rf
    unfold mid
    split
    · rename_i ho
      obtain ⟨_, u0, u1, _⟩ := opp_part ho
      have hm : G (btV (g c / (g c - g d)) c d) := h _ (by unfold rf mid; simp [ho])
      have := tr_mid gn u0 u1 hq hc (hd d dm) hm
      rw [ht] at ih ⊢
      simp only [List.cons_append, List.nil_append, sP_cons] at ih ⊢
      omega
    · rw [ht] at ih ⊢
      simp only [List.cons_append, List.nil_append, sP_cons] at ih ⊢
      omega
omit gn
theorem rf_head (f : V) (a : V) (l : List V) : ∃ t, rf g f (a :: l) = a :: t := by cases l <;> exact ⟨_, rfl⟩
variable (lin : ∀ u a o, g (btV u a o) = bt u (g a) (g o))
include lin
theorem ch_rf (f : V) : ∀ l : List V, ch g (rf g f l ++ [f])
  | [] => trivial
  | [c] => by
    unfold rf mid
    split
    · rename_i ho
      obtain ⟨_, u0, u1, z⟩ := opp_part ho
      have e : g (btV (g c / (g c - g f)) c f) = 0 := by rw [lin, z]
      simp only [List.cons_append, List.nil_append, ch, e, wsg]
      grind
    · rename_i ho
      have := not_opp (by simpa using ho)
      simp only [List.cons_append, List.nil_append, ch]
      exact ⟨this, trivial⟩
  | c :: d :: l => by
    have ih := ch_rf f (d :: l)
    obtain ⟨t, ht⟩ := rf_head (g := g) f d l
    rw [ht] at ih
    unfold rf
    rw [ht]
    unfold mid
    split
    · rename_i ho
      obtain ⟨_, u0, u1, z⟩ := opp_part ho
      have e : g (btV (g c / (g c - g d)) c d) = 0 := by rw [lin, z]
      refine ⟨?_, ?_, ih⟩
      · rw [e]; unfold wsg; grind
      · rw [e]; unfold wsg; grind
    · rename_i ho
      exact ⟨not_opp (by simpa using ho), ih⟩
omit lin
section
variable {q : V} {P : V → Prop} (hz : ∀ a b, P a → P b → g a ≤ 0 → g b ≤ 0 → tr r q a b = 0)
include hz
theorem sP_fil : ∀ (l : List V) (a : V), (∀ x, x ∈ a :: l → P x) → ch g (a :: l) →
    (0 ≤ g a → sP r q (a :: l) = sP r q (a :: l.filter (kept g))) ∧ (¬ 0 ≤ g a → sP r q (a :: l) = sP r q (l.filter (kept g)) ∧ ∀ y t, l.filter (kept g) = y :: t → g y = 0)
  | [], a, _, _ => ⟨fun _ => rfl, fun _ => ⟨rfl, fun y t h => by cases h⟩⟩
  | b :: l, a, hp, ⟨hw, hc⟩ => by
    obtain ⟨i1, i2⟩ := sP_fil l b (fun x hx => hp x (List.mem_cons_of_mem _ hx)) hc
    have pa := hp a (by simp)
    have pb := hp b (by simp)
    have pl : ∀ y t, l.filter (kept g) = y :: t → P y := fun y t e => by
      have : y ∈ l.filter (kept g) := by rw [e]; simp
      exact hp y (by simp [(List.mem_filter.mp this).1])
    refine ⟨fun ka => ?_, fun ka => ?_⟩
    · by_cases kb : 0 ≤ g b
      · have kb' : kept g b = true := decide_eq_true kb
        rw [List.filter_cons_of_pos kb', sP_cons, sP_cons, i1 kb]
      · have kb' : ¬ kept g b = true := by unfold kept; simp [kb]
        obtain ⟨e1, e2⟩ := i2 kb
        have ga : g a ≤ 0 := by unfold wsg at hw; grind
        rw [List.filter_cons_of_neg kb', sP_cons, hz a b pa pb ga (by grind), Int.zero_add, e1]
        cases hl : l.filter (kept g) with
        | nil => rfl
        | cons y t => rw [sP_cons, hz a y pa (pl y t hl) ga (by have := e2 y t hl; grind), Int.zero_add]
    · have ga : g a ≤ 0 := by grind
      have gb : g b ≤ 0 := by unfold wsg at hw; grind
      by_cases kb : 0 ≤ g b
      · have kb' : kept g b = true := decide_eq_true kb
        rw [List.filter_cons_of_pos kb', sP_cons, hz a b pa pb ga gb, Int.zero_add, i1 kb]
        exact ⟨rfl, fun y t h => by cases h; grind⟩
      · have kb' : ¬ kept g b = true := by unfold kept; simp [kb]
        obtain ⟨e1, e2⟩ := i2 kb
        rw [List.filter_cons_of_neg kb', sP_cons, hz a b pa pb ga gb, Int.zero_add, e1]
        exact ⟨rfl, e2⟩
omit hz
theorem fil_last {a : V} (ka : ¬ 0 ≤ g a) : ∀ (l : List V), ch g (l ++ [a]) → ∀ h : l.filter (kept g) ≠ [], g ((l.filter (kept g)).getLast h) = 0
  | [], _, h => absurd rfl h
  | b :: l, hc, h => by
    have hc' : ch g (l ++ [a]) := by
      cases l with
      | nil => trivial
      | cons c l => exact hc.2
    by_cases hl : l.filter (kept g) = []
    · have kb : kept g b = true := by
        by_cases k : kept g b = true
        · exact k
        · rw [List.filter_cons_of_neg k] at h; exact absurd hl h
      have e : ∀ hh, ((b :: l).filter (kept g)).getLast hh = b := fun hh => by
        simp [List.filter_cons_of_pos kb, hl]
      rw [e]
      have gb : 0 ≤ g b := of_decide_eq_true kb
      cases l with
      | nil =>
        have hw := hc.1
        unfold wsg at hw; grind
      | cons c l =>
        have kc : ¬ kept g c = true := fun k => by rw [List.filter_cons_of_pos k] at hl; cases hl
        have gc : ¬ 0 ≤ g c := fun k => kc (decide_eq_true k)
        have hw := hc.1
        unfold wsg at hw; grind
    · have ih := fil_last ka l hc' hl
      by_cases kb : kept g b = true
      · have e : ∀ hh, ((b :: l).filter (kept g)).getLast hh = (l.filter (kept g)).getLast hl := fun hh => by
          simp only [List.filter_cons_of_pos kb]
          exact List.getLast_cons hl
        rw [e]; exact ih
      · have e : ∀ hh, ((b :: l).filter (kept g)).getLast hh = (l.filter (kept g)).getLast hl := fun hh => by
          simp only [List.filter_cons_of_neg kb]
        rw [e]; exact ih
theorem sP_snoc (r q z : V) : ∀ (l : List V) (h : l ≠ []), sP r q (l ++ [z]) = sP r q l + tr r q (l.getLast h) z
  | [a], _ => by simp
  | a :: b :: l, _ => by
    have := sP_snoc r q z (b :: l) (by simp)
    simp only [List.cons_append, sP_cons, List.getLast_cons_cons] at *
    omega
include hz
theorem wP_fil (l : List V) (a : V) (hp : ∀ x, x ∈ a :: l → P x) (hc : ch g (a :: l ++ [a])) : wP r q ((a :: l).filter (kept g)) = wP r q (a :: l) := by
  have hp' : ∀ x, x ∈ a :: (l ++ [a]) → P x := fun x hx => hp x (by simpa [or_comm, or_left_comm] using hx)
  obtain ⟨i1, i2⟩ := sP_fil hz (l ++ [a]) a hp' hc
  by_cases ka : 0 ≤ g a
  · have ka' : kept g a = true := decide_eq_true ka
    have := i1 ka
    rw [List.filter_append, List.filter_cons_of_pos ka', List.filter_nil] at this
    rw [List.filter_cons_of_pos ka']
    exact this.symm
  · have ka' : ¬ kept g a = true := by unfold kept; simp [ka]
    obtain ⟨e1, e2⟩ := i2 ka
    rw [List.filter_append, List.filter_cons_of_neg ka', List.filter_nil, List.append_nil] at e1 e2
    rw [List.filter_cons_of_neg ka']
    show _ = sP r q (a :: (l ++ [a]))
    rw [e1]
    have hl := fil_last ka (a :: l) hc
    rw [List.filter_cons_of_neg ka'] at hl
    cases hf : l.filter (kept g) with
    | nil => rfl
    | cons y t =>
      have mem : ∀ z, z ∈ y :: t → P z := fun z hz' => hp z (by
        have : z ∈ l.filter (kept g) := by rw [hf]; exact hz'
        simp [(List.mem_filter.mp this).1])
      rw [hf] at hl
      have h2 := hl (by simp)
      have h3 := e2 y t hf
      show sP r q (y :: t ++ [y]) = _
      rw [sP_snoc r q y (y :: t) (by simp), hz _ y (mem _ (List.getLast_mem _)) (mem y (by simp)) (by grind) (by grind)]
      omega
end
end
end Q.K26
end

section
set_option maxRecDepth 100000
set_option maxHeartbeats 4000000
set_option exponentiation.threshold 70
/-! R30d: a ray near the ray whose plain signs are the moved signs. -/
namespace Q.K26
def rAbs (x : Rat) : Rat := if 0 ≤ x then x else -x
theorem rAbs_nn (x : Rat) : 0 ≤ rAbs x := by unfold rAbs; grind
theorem rAbs_ge (x : Rat) : x ≤ rAbs x ∧ -x ≤ rAbs x := by unfold rAbs; grind
theorem mul_le_of {e a b : Rat} (h : 0 ≤ e) (k : a ≤ b) : e * a ≤ e * b := Rat.mul_le_mul_of_nonneg_left k h
/-- d leads: what is added is too small -/
theorem lead {d x : Rat} (hd : d ≠ 0) : ∃ m : Rat, 0 < m ∧ m ≤ 1 ∧ ∀ y : Rat, rAbs y ≤ rAbs x → ∀ e, 0 < e → e ≤ m → sgn (d + e * y) = sgn d := by
  have hd0 : 0 < rAbs d := by unfold rAbs; grind
  have hx := rAbs_nn x
  have hs : 0 < rAbs d + rAbs x := by grind
  have hi : 0 < (rAbs d + rAbs x)⁻¹ := Rat.inv_pos.mpr hs
  have e1 : rAbs d / (rAbs d + rAbs x) = rAbs d * (rAbs d + rAbs x)⁻¹ := Rat.div_def _ _
  have p1 := Rat.mul_pos hd0 hi
  have p2 := Rat.mul_nonneg hx (Rat.le_of_lt hi)
  have n0 : rAbs d + rAbs x ≠ 0 := by grind
  have e2 : rAbs d * (rAbs d + rAbs x)⁻¹ + rAbs x * (rAbs d + rAbs x)⁻¹ = 1 := by grind
  refine ⟨rAbs d * (rAbs d + rAbs x)⁻¹, p1, by grind, fun y hy e h0 h1 => ?_⟩
  have f1 : e * rAbs y ≤ e * rAbs x := mul_le_of (Rat.le_of_lt h0) hy
  have f2 : e * rAbs x ≤ rAbs d * (rAbs d + rAbs x)⁻¹ * rAbs x := Rat.mul_le_mul_of_nonneg_right h1 hx
  have f3 : rAbs d * (rAbs d + rAbs x)⁻¹ * rAbs x = rAbs d - rAbs d * (rAbs d * (rAbs d + rAbs x)⁻¹) := by
    have : rAbs x * (rAbs d + rAbs x)⁻¹ = 1 - rAbs d * (rAbs d + rAbs x)⁻¹ := by grind
    calc rAbs d * (rAbs d + rAbs x)⁻¹ * rAbs x = rAbs d * (rAbs x * (rAbs d + rAbs x)⁻¹) := by grind
      _ = _ := by rw [this]; grind
  have f4 := Rat.mul_pos hd0 p1
  have f5 : e * rAbs y < rAbs d := by grind
  have g1 : e * y ≤ e * rAbs y := mul_le_of (Rat.le_of_lt h0) (rAbs_ge y).1
  have g2 : e * (-y) ≤ e * rAbs y := mul_le_of (Rat.le_of_lt h0) (rAbs_ge y).2
  rw [sgn_eq, sgn_eq]
  unfold rAbs at f5 hd0
  by_cases hp : 0 < d
  · have : 0 ≤ d := by grind
    rw [if_pos this] at f5
    have : 0 < d + e * y := by unfold rAbs at g2; grind
    simp [hp, this]
  · have hn : d < 0 := by grind
    have h' : ¬ 0 ≤ d := by grind
    rw [if_neg h'] at f5
    have t1 : d + e * y < 0 := by unfold rAbs at g1; grind
    have t2 : ¬ 0 < d + e * y := by grind
    simp [hp, hn, t1, t2]
theorem near1 (d x y : Rat) : ∃ m : Rat, 0 < m ∧ m ≤ 1 ∧ ∀ e, 0 < e → e ≤ m → sgn (d + e * x + e * e * y) = mvS d x y := by
  unfold mvS
  have lt1 : (0 : Rat) < 1 := by grind
  by_cases hd : d = 0
  · subst hd
    have z0 : sgn 0 = 0 := by rw [sgn_eq]; rfl
    rw [if_neg (by simp [z0])]
    by_cases hx : x = 0
    · subst hx
      rw [if_neg (by simp [z0])]
      refine ⟨1, lt1, Rat.le_refl, fun e h0 _ => ?_⟩
      have he := Rat.mul_pos h0 h0
      have e1 : 0 + e * 0 + e * e * y = e * e * y := by grind
      rw [e1, sgn_eq, sgn_eq]
      by_cases hp : 0 < y
      · have := Rat.mul_pos he hp
        simp [hp, this]
      · by_cases hn : y < 0
        · have := Rat.mul_pos he (show 0 < -y by grind)
          have t1 : e * e * y < 0 := by grind
          have t2 : ¬ 0 < e * e * y := by grind
          simp [hp, hn, t1, t2]
        · have : y = 0 := by grind
          subst this
          have : e * e * 0 = (0 : Rat) := by grind
          simp [this]
    · have nx : sgn x ≠ 0 := fun z => hx ((sgn_zero_iff x).mp z)
      rw [if_pos nx]
      obtain ⟨m, m0, m1, hm⟩ := lead (x := y) hx
      refine ⟨m, m0, m1, fun e h0 h1 => ?_⟩
      have := hm y Rat.le_refl e h0 h1
      rw [← this]
      have e1 : 0 + e * x + e * e * y = e * (x + e * y) := by grind
      rw [e1]
      generalize x + e * y = w
      rw [sgn_eq, sgn_eq]
      by_cases hp : 0 < w
      · have := Rat.mul_pos h0 hp
        simp [hp, this]
      · by_cases hn : w < 0
        · have := Rat.mul_pos h0 (show 0 < -w by grind)
          have t1 : e * w < 0 := by grind
          have t2 : ¬ 0 < e * w := by grind
          simp [hp, hn, t1, t2]
        · have : w = 0 := by grind
          subst this
          have : e * 0 = (0 : Rat) := by grind
          simp [this]
  · have nd : sgn d ≠ 0 := fun z => hd ((sgn_zero_iff d).mp z)
    rw [if_pos nd]
    obtain ⟨m, m0, m1, hm⟩ := lead (x := rAbs x + rAbs y) hd
    refine ⟨m, m0, m1, fun e h0 h1 => ?_⟩
    have e1 : d + e * x + e * e * y = d + e * (x + e * y) := by grind
    rw [e1]
    refine hm _ ?_ e h0 h1
    have a1 := rAbs_ge x
    have a2 := rAbs_ge y
    have a3 := rAbs_nn x
    have a4 := rAbs_nn y
    have b1 : e * y ≤ e * rAbs y := mul_le_of (Rat.le_of_lt h0) a2.1
    have b2 : e * (-y) ≤ e * rAbs y := mul_le_of (Rat.le_of_lt h0) a2.2
    have b3 : e * rAbs y ≤ 1 * rAbs y := Rat.mul_le_mul_of_nonneg_right (by grind) a4
    have c1 : rAbs (rAbs x + rAbs y) = rAbs x + rAbs y := by
      rw [show rAbs (rAbs x + rAbs y) = if 0 ≤ rAbs x + rAbs y then rAbs x + rAbs y else -(rAbs x + rAbs y) from rfl, if_pos (by grind)]
    rw [c1]
    rw [show rAbs (x + e * y) = if 0 ≤ x + e * y then x + e * y else -(x + e * y) from rfl]
    split <;> grind
theorem near_all (r : V) : ∀ fs : List V, ∃ m : Rat, 0 < m ∧ m ≤ 1 ∧ ∀ f, f ∈ fs → ∀ e, 0 < e → e ≤ m → sgn (f.dot r + e * f.x + e * e * f.y) = f.mv r
  | [] => ⟨1, by grind, Rat.le_refl, fun f h => by cases h⟩
  | f :: fs => by
    obtain ⟨m, m0, m1, hm⟩ := near_all r fs
    obtain ⟨k, k0, k1, hk⟩ := near1 (f.dot r) f.x f.y
    by_cases h : m ≤ k
    · refine ⟨m, m0, m1, fun g hg e h0 h1 => ?_⟩
      rcases List.mem_cons.mp hg with rfl | hg
      · exact hk e h0 (Rat.le_trans h1 h)
      · exact hm g hg e h0 h1
    · refine ⟨k, k0, k1, fun g hg e h0 h1 => ?_⟩
      rcases List.mem_cons.mp hg with rfl | hg
      · exact hk e h0 h1
      · exact hm g hg e h0 (by grind)
/-- one ray whose plain signs are the moved signs of all these forms -/
theorem near_ray (r : V) (hr : r.z = 1) (fs : List V) : ∃ t : V, t.z = 1 ∧ ∀ f, f ∈ fs → sgn (f.dot t) = f.mv r := by
  obtain ⟨m, m0, m1, hm⟩ := near_all r fs
  refine ⟨⟨r.x + m, r.y + m * m, 1⟩, rfl, fun f hf => ?_⟩
  rw [← hm f hf m m0 Rat.le_refl]
  congr 1
  simp only [V.dot, hr]; grind
theorem mv_zero {f r : V} (hr : r.z = 1) (h : f.mv r = 0) : f.x = 0 ∧ f.y = 0 ∧ f.z = 0 := by
  unfold V.mv mvS at h
  have k : ∀ x, sgn x = 0 → x = 0 := fun x => (sgn_zero_iff x).mp
  have hd : f.dot r = f.x * r.x + f.y * r.y + f.z := by simp only [V.dot, hr]; grind
  by_cases h1 : sgn (f.dot r) = 0
  · by_cases h2 : sgn f.x = 0
    · have h3 : sgn f.y = 0 := by simpa [h1, h2] using h
      have e1 := k _ h1
      have e2 := k _ h2
      have e3 := k _ h3
      rw [hd, e2, e3] at e1
      exact ⟨e2, e3, by grind⟩
    · simp [h1, h2] at h
  · simp [h1] at h
end Q.K26
end

section
set_option maxRecDepth 100000
set_option maxHeartbeats 4000000
set_option exponentiation.threshold 70
/-! R30e: what a wall cuts off is seen by no ray that it keeps. -/
namespace Q.K26
theorem cramer_f (f p q s r : V) : vol p q s * f.dot r = (q.crs s).dot r * f.dot p + (s.crs p).dot r * f.dot q + (p.crs q).dot r * f.dot s := by
  simp only [vol, V.dot, V.crs]; grind
theorem tr_pos {r a b c : V} (h : tr r a b c = 1) : 0 < br r b c ∧ 0 < br r c a ∧ 0 < br r a b := by
  unfold tr tS at h; grind
theorem tr_neg {r a b c : V} (h : tr r a b c = -1) : br r b c < 0 ∧ br r c a < 0 ∧ br r a b < 0 := by
  unfold tr tS at h; grind
theorem tr_three (r a b c : V) : tr r a b c = 1 ∨ tr r a b c = -1 ∨ tr r a b c = 0 := by
  unfold tr tS; grind
/-- a point ahead of the eye -/
def Ahd (v : V) : Prop := 0 < v.z
theorem tr_vol_pos {r a b c : V} (hr : r.z = 1) (ha : Ahd a) (hb : Ahd b) (hc : Ahd c) (h : tr r a b c = 1) : 0 < vol a b c := by
  obtain ⟨h1, h2, h3⟩ := tr_pos h
  have := cramer_z a b c r
  rw [hr] at this
  have p1 := Rat.mul_pos h1 ha
  have p2 := Rat.mul_pos h2 hb
  have p3 := Rat.mul_pos h3 hc
  simp only [br] at p1 p2 p3
  grind
theorem tr_vol_neg {r a b c : V} (hr : r.z = 1) (ha : Ahd a) (hb : Ahd b) (hc : Ahd c) (h : tr r a b c = -1) : vol a b c < 0 := by
  obtain ⟨h1, h2, h3⟩ := tr_neg h
  have := cramer_z a b c r
  rw [hr] at this
  have p1 := Rat.mul_pos (show 0 < -br r b c by grind) ha
  have p2 := Rat.mul_pos (show 0 < -br r c a by grind) hb
  have p3 := Rat.mul_pos (show 0 < -br r a b by grind) hc
  simp only [br] at p1 p2 p3
  grind
theorem sum_nn {x y z a b c : Rat} (hx : 0 ≤ x) (hy : 0 ≤ y) (hz : 0 ≤ z) (ha : 0 ≤ a) (hb : 0 ≤ b) (hc : 0 ≤ c) : 0 ≤ x * a + y * b + z * c := by
  have h1 := Rat.mul_nonneg hx ha
  have h2 := Rat.mul_nonneg hy hb
  have h3 := Rat.mul_nonneg hz hc
  grind
/-- a form that is of one sign at three points is of that sign at a ray through them -/
theorem tr_zero {r f a b c : V} (hr : r.z = 1) (ha : Ahd a) (hb : Ahd b) (hc : Ahd c) (hf : 0 < f.dot r) (fa : f.dot a ≤ 0) (fb : f.dot b ≤ 0) (fc : f.dot c ≤ 0) : tr r a b c = 0 := by
  have cr := cramer_f f a b c r
  rcases tr_three r a b c with h | h | h
  · have hv := tr_vol_pos hr ha hb hc h
    obtain ⟨h1, h2, h3⟩ := tr_pos h
    simp only [br] at h1 h2 h3
    have p := Rat.mul_pos hv hf
    have n := sum_nn (Rat.le_of_lt h1) (Rat.le_of_lt h2) (Rat.le_of_lt h3) (show 0 ≤ -f.dot a by grind) (show 0 ≤ -f.dot b by grind) (show 0 ≤ -f.dot c by grind)
    grind
  · have hv := tr_vol_neg hr ha hb hc h
    obtain ⟨h1, h2, h3⟩ := tr_neg h
    simp only [br] at h1 h2 h3
    have p := Rat.mul_pos (show 0 < -vol a b c by grind) hf
    have n := sum_nn (show 0 ≤ -(b.crs c).dot r by grind) (show 0 ≤ -(c.crs a).dot r by grind) (show 0 ≤ -(a.crs b).dot r by grind) (show 0 ≤ -f.dot a by grind) (show 0 ≤ -f.dot b by grind) (show 0 ≤ -f.dot c by grind)
    grind
  · exact h
theorem tr_zero' {r f a b c : V} (hr : r.z = 1) (ha : Ahd a) (hb : Ahd b) (hc : Ahd c) (hf : f.dot r < 0) (fa : 0 ≤ f.dot a) (fb : 0 ≤ f.dot b) (fc : 0 ≤ f.dot c) : tr r a b c = 0 := by
  have e : ∀ v : V, (V.smul (-1) f).dot v = -f.dot v := fun v => by simp only [V.dot, V.smul]; grind
  refine tr_zero (f := V.smul (-1) f) hr ha hb hc ?_ ?_ ?_ ?_ <;> (rw [e]; grind)
theorem ch_zero {g : V → Rat} : ∀ l : List V, ch g l → ∀ a b, a ∈ l → b ∈ l → 0 < g a → g b < 0 → ∃ z, z ∈ l ∧ g z = 0
  | [], _, a, _, h, _, _, _ => by cases h
  | [x], _, a, b, ha, hb, h1, h2 => by simp at ha hb; subst ha hb; grind
  | x :: y :: l, ⟨hw, hc⟩, a, b, ha, hb, h1, h2 => by
    by_cases hx : g x = 0
    · exact ⟨x, by simp, hx⟩
    · by_cases hy : g y = 0
      · exact ⟨y, by simp, hy⟩
      · -- x and y are of one sign: y stands for x
        have pick : ∀ c, c ∈ x :: y :: l → c ∈ y :: l ∨ c = x := fun c hc => by
          rcases List.mem_cons.mp hc with e | e
          · exact .inr e
          · exact .inl e
        have : ∃ a' b', a' ∈ y :: l ∧ b' ∈ y :: l ∧ 0 < g a' ∧ g b' < 0 := by
          unfold wsg at hw
          rcases pick a ha with ia | ia <;> rcases pick b hb with ib | ib
          · exact ⟨a, b, ia, ib, h1, h2⟩
          · subst ib; exact ⟨a, y, ia, by simp, h1, by grind⟩
          · subst ia; exact ⟨y, b, by simp, ib, by grind, h2⟩
          · subst ia; subst ib; grind
        obtain ⟨a', b', k1, k2, k3, k4⟩ := this
        obtain ⟨z, hz, e⟩ := ch_zero (y :: l) hc a' b' k1 k2 k3 k4
        exact ⟨z, by simp [List.mem_cons.mp hz], e⟩
section
variable {r : V} {G : V → Prop} (gn : Gn r G) {g : V → Rat} (lin : ∀ u a o, g (btV u a o) = bt u (g a) (g o))
include gn lin
/-- a closed way that a wall cuts: seen as before by a ray that the wall keeps -/
theorem wP_cut (hz : ∀ q a b, G q → G a → G b → g q ≤ 0 → g a ≤ 0 → g b ≤ 0 → tr r q a b = 0) (a : V) (l : List V) (hG : ∀ x, x ∈ rf g a (a :: l) → G x) {q : V} (hq : G q) :
    wP r q ((rf g a (a :: l)).filter (kept g)) = wP r q (a :: l) := by
  obtain ⟨t, ht⟩ := rf_head (g := g) a a l
  have gl : ∀ x, x ∈ a :: l → G x := by
    have mem : ∀ (l : List V) (f x : V), x ∈ l → x ∈ rf g f l := by
      intro l
      induction l with
      | nil => intro f x h; cases h
      | cons c l ih =>
        intro f x h
        cases l with
        | nil => simp at h; subst h; unfold rf; simp
        | cons d l =>
          unfold rf
          rcases List.mem_cons.mp h with h | h
          · simp [h]
          · have := ih f x h
            simp [this]
    exact fun x hx => hG x (mem _ _ _ hx)
  have ga : G a := gl a (by simp)
  have hch := ch_rf (g := g) lin a (a :: l)
  have gR : ∀ x, x ∈ (rf g a (a :: l)).filter (kept g) → G x := fun x hx => hG x (List.mem_filter.mp hx).1
  -- the way with the crossings put in
  have same : ∀ p, G p → wP r p (rf g a (a :: l)) = wP r p (a :: l) := fun p hp => by
    have := sP_rf (g := g) gn hp ga (a :: l) hG
    rw [ht] at this ⊢
    exact this
  by_cases hpos : ∀ x, x ∈ rf g a (a :: l) → 0 ≤ g x
  · have : (rf g a (a :: l)).filter (kept g) = rf g a (a :: l) := List.filter_eq_self.mpr fun x hx => decide_eq_true (hpos x hx)
    rw [this, same q hq]
  · by_cases hneg : ∀ x, x ∈ rf g a (a :: l) → g x ≤ 0
    · have gan := hneg a (by rw [ht]; simp)
      rw [← same q hq, wP_from gn ga hq _ gR, wP_from gn ga hq _ hG]
      have z : ∀ b c, (G b ∧ g b ≤ 0) → (G c ∧ g c ≤ 0) → tr r a b c = 0 := fun b c hb hc => hz a b c ga hb.1 hc.1 gan hb.2 hc.2
      rw [wP_zero (fun x => G x ∧ g x ≤ 0) z _ fun x hx => ⟨gR x hx, hneg x (List.mem_filter.mp hx).1⟩]
      rw [wP_zero (fun x => G x ∧ g x ≤ 0) z _ fun x hx => ⟨hG x hx, hneg x hx⟩]
    · obtain ⟨n, hn, hn0⟩ : ∃ n, n ∈ rf g a (a :: l) ∧ g n < 0 := by
        apply Classical.byContradiction
        intro hc
        exact hpos fun x hx => by
          have := fun h => hc ⟨x, hx, h⟩
          grind
      obtain ⟨m, hm, hm0⟩ : ∃ n, n ∈ rf g a (a :: l) ∧ 0 < g n := by
        apply Classical.byContradiction
        intro hc
        exact hneg fun x hx => by
          have := fun h => hc ⟨x, hx, h⟩
          grind
      obtain ⟨z, hzm, hz0⟩ := ch_zero _ hch m n (by simp [hm]) (by simp [hn]) hm0 hn0
      have gz : G z := by
        rcases List.mem_append.mp hzm with h | h
        · exact hG z h
        · simp at h; subst h; exact ga
      rw [wP_from gn gz hq _ gR, wP_from gn gz hq _ gl, ← same z gz]
      rw [ht] at hch ⊢
      refine wP_fil (r := r) (g := g) (q := z) (P := G) (fun b c hb hc k1 k2 => hz z b c gz hb hc (by grind) k1 k2) t a (fun x hx => hG x (by rw [ht]; exact hx)) hch
omit lin
/-- and not at all by one that it bars -/
theorem wP_gone (hz : ∀ q a b, G q → G a → G b → 0 ≤ g q → 0 ≤ g a → 0 ≤ g b → tr r q a b = 0) (l : List V) (hG : ∀ x, x ∈ l → G x) {q : V} (hq : G q) : wP r q (l.filter (kept g)) = 0 := by
  cases hf : l.filter (kept g) with
  | nil => rfl
  | cons c t =>
    have mem : ∀ x, x ∈ c :: t → G x ∧ 0 ≤ g x := fun x hx => by
      rw [← hf] at hx
      exact ⟨hG x (List.mem_filter.mp hx).1, of_decide_eq_true (List.mem_filter.mp hx).2⟩
    have hc := mem c (by simp)
    rw [wP_from gn hc.1 hq _ fun x hx => (mem x hx).1]
    exact wP_zero (fun x => G x ∧ 0 ≤ g x) (fun a b ha hb => hz c a b hc.1 ha.1 hb.1 hc.2 ha.2 hb.2) _ mem
end
end Q.K26
end

section
set_option maxRecDepth 100000
set_option maxHeartbeats 4000000
set_option exponentiation.threshold 70
/-! R30f: ways that turn one way; points twice left out; stage by stage. -/
namespace Q.K26
theorem vol_bt1 (u : Rat) (a o b c : V) : vol (btV u a o) b c = bt u (vol a b c) (vol o b c) := by
  simp only [vol, btV, bt, V.dot, V.crs]; grind
theorem vol_bt2 (u : Rat) (a o b c : V) : vol b (btV u a o) c = bt u (vol b a c) (vol b o c) := by
  simp only [vol, btV, bt, V.dot, V.crs]; grind
theorem vol_bt3 (u : Rat) (a o b c : V) : vol b c (btV u a o) = bt u (vol b c a) (vol b c o) := by
  simp only [vol, btV, bt, V.dot, V.crs]; grind
theorem vol_aab (a b : V) : vol a a b = 0 := by simp only [vol, V.dot, V.crs]; grind
theorem vol_abb (a b : V) : vol a b b = 0 := by simp only [vol, V.dot, V.crs]; grind
theorem vol_aba (a b : V) : vol a b a = 0 := by simp only [vol, V.dot, V.crs]; grind
theorem vol_rot (a b c : V) : vol b c a = vol a b c := by simp only [vol, V.dot, V.crs]; grind
theorem s_bt {s u x y : Rat} (h0 : 0 ≤ u) (h1 : u ≤ 1) (hx : 0 ≤ s * x) (hy : 0 ≤ s * y) : 0 ≤ s * bt u x y := by
  have e : s * bt u x y = (1 - u) * (s * x) + u * (s * y) := by simp only [bt]; grind
  rw [e]
  have p1 := Rat.mul_nonneg (show (0 : Rat) ≤ 1 - u by grind) hx
  have p2 := Rat.mul_nonneg h0 hy
  grind
theorem s_z {s x : Rat} (h : x = 0) : 0 ≤ s * x := by rw [h]; grind
/-- all triples turn as s does -/
def Tw (s : Rat) : List V → Prop
  | [] => True
  | a :: l => l.Pairwise (fun b c => 0 ≤ s * vol a b c) ∧ Tw s l
theorem tw_sub {s : Rat} : ∀ {l m : List V}, l.Sublist m → Tw s m → Tw s l
  | _, _, .slnil, _ => trivial
  | _, _, .cons a h, ⟨_, t⟩ => tw_sub h t
  | _, _, .cons₂ a h, ⟨p, t⟩ => ⟨p.sublist h, tw_sub h t⟩
theorem pw_ins {R : V → V → Prop} {c d m : V} (r1 : ∀ y, R y c → R y d → R y m) (r2 : ∀ y, R c y → R d y → R m y) (r3 : R c d → R c m) (r4 : R c d → R m d) (post : List V) : ∀ pre : List V, (pre ++ c :: d :: post).Pairwise R → (pre ++ c :: m :: d :: post).Pairwise R
  | [], h => by
    simp only [List.nil_append, List.pairwise_cons] at h ⊢
    obtain ⟨h1, h2, h3⟩ := h
    have cd := h1 d (by simp)
    refine ⟨fun y hy => ?_, fun y hy => ?_, h2, h3⟩
    · rcases List.mem_cons.mp hy with rfl | hy
      · exact r3 cd
      · exact h1 y hy
    · rcases List.mem_cons.mp hy with rfl | hy
      · exact r4 cd
      · exact r2 y (h1 y (by simp [hy])) (h2 y hy)
  | x :: pre, h => by
    simp only [List.cons_append, List.pairwise_cons] at h ⊢
    obtain ⟨h1, h2⟩ := h
    refine ⟨fun y hy => ?_, pw_ins r1 r2 r3 r4 post pre h2⟩
    simp only [List.mem_append, List.mem_cons] at hy
    rcases hy with hy | rfl | rfl | rfl | hy
    · exact h1 y (by simp [hy])
    · exact h1 y (by simp)
    · exact r1 x (h1 c (by simp)) (h1 d (by simp))
    · exact h1 y (by simp)
    · exact h1 y (by simp [hy])
theorem tw_ins {s u : Rat} (h0 : 0 ≤ u) (h1 : u ≤ 1) {c d : V} (post : List V) : ∀ pre : List V, Tw s (pre ++ c :: d :: post) → Tw s (pre ++ c :: btV u c d :: d :: post)
  | [], ⟨p1, p2, p3⟩ => by
    rw [List.pairwise_cons] at p1
    obtain ⟨q1, q2⟩ := p1
    refine ⟨?_, ?_, p2, p3⟩
    · rw [List.pairwise_cons, List.pairwise_cons]
      refine ⟨fun y hy => ?_, q1, q2⟩
      rw [vol_bt2]
      rcases List.mem_cons.mp hy with rfl | hy
      · exact s_bt h0 h1 (s_z (vol_aab _ _)) (s_z (vol_abb _ _))
      · exact s_bt h0 h1 (s_z (vol_aab _ _)) (q1 y hy)
    · rw [List.pairwise_cons]
      refine ⟨fun y hy => ?_, ?_⟩
      · rw [vol_bt1]
        exact s_bt h0 h1 (q1 y hy) (s_z (vol_aab _ _))
      · exact (q2.and p2).imp fun {a b} ⟨k1, k2⟩ => by
          rw [vol_bt1]
          exact s_bt h0 h1 k1 k2
  | x :: pre, ⟨p1, p2⟩ => by
    refine ⟨?_, tw_ins h0 h1 post pre p2⟩
    refine pw_ins (R := fun b c => 0 ≤ s * vol x b c) ?_ ?_ ?_ ?_ post pre p1
    · intro y k1 k2; show 0 ≤ s * vol x y _; rw [vol_bt3]; exact s_bt h0 h1 k1 k2
    · intro y k1 k2; show 0 ≤ s * vol x _ y; rw [vol_bt2]; exact s_bt h0 h1 k1 k2
    · intro k; show 0 ≤ s * vol x c _; rw [vol_bt3]; exact s_bt h0 h1 (s_z (vol_abb _ _)) k
    · intro k; show 0 ≤ s * vol x _ d; rw [vol_bt2]; exact s_bt h0 h1 k (s_z (vol_abb _ _))
theorem pw_end {R : V → V → Prop} {c m : V} : ∀ pre : List V, (∀ y, y ∈ pre → R y m) → R c m → (pre ++ [c]).Pairwise R → (pre ++ [c, m]).Pairwise R
  | [], _, h, _ => by simp [h]
  | x :: pre, hm, h, hp => by
    simp only [List.cons_append, List.pairwise_cons] at hp ⊢
    refine ⟨fun y hy => ?_, pw_end pre (fun y hy => hm y (by simp [hy])) h hp.2⟩
    simp only [List.mem_append, List.mem_cons, List.not_mem_nil, or_false] at hy
    rcases hy with hy | rfl | rfl
    · exact hp.1 y (by simp [hy])
    · exact hp.1 y (by simp)
    · exact hm x (by simp)
theorem tw_end {s u : Rat} (h0 : 0 ≤ u) (h1 : u ≤ 1) {f c : V} : ∀ pre : List V, Tw s (pre ++ [c]) → (pre ++ [c]).Pairwise (fun x y => 0 ≤ s * vol f x y) → Tw s (pre ++ [c, btV u c f])
  | [], _, _ => ⟨by simp, by simp [Tw]⟩
  | x :: pre, ⟨p1, p2⟩, hp => by
    simp only [List.cons_append, List.pairwise_cons] at hp
    refine ⟨?_, tw_end h0 h1 pre p2 hp.2⟩
    have key : ∀ y, y ∈ pre ++ [c] → 0 ≤ s * vol x y c → 0 ≤ s * vol x y (btV u c f) := fun y hy k => by
      rw [vol_bt3]
      refine s_bt h0 h1 k ?_
      rw [vol_rot]
      exact hp.1 y hy
    refine pw_end pre (fun y hy => key y (by simp [hy]) ?_) (key c (by simp) (s_z (vol_abb _ _))) p1
    exact (List.pairwise_append.mp p1).2.2 y hy c (by simp)
theorem tw_rf {s : Rat} {g : V → Rat} {f : V} : ∀ (l pre : List V), Tw s (pre ++ l) → (pre ++ l).head? = some f → Tw s (pre ++ rf g f l)
  | [], pre, h, _ => h
  | [c], pre, h, hh => by
    unfold rf mid
    split
    · rename_i ho
      obtain ⟨_, u0, u1, _⟩ := opp_part ho
      cases pre with
      | nil =>
        have e : c = f := by simpa using hh
        subst e
        have := of_decide_eq_true ho
        grind
      | cons x pre =>
        have e : x = f := by simpa using hh
        subst e
        obtain ⟨p1, p2⟩ := h
        refine ⟨?_, tw_end u0 u1 pre p2 p1⟩
        have key : ∀ y, 0 ≤ s * vol x y c → 0 ≤ s * vol x y (btV (g c / (g c - g x)) c x) := fun y k => by
          rw [vol_bt3]
          exact s_bt u0 u1 k (s_z (vol_aba _ _))
        exact pw_end pre (fun y hy => key y ((List.pairwise_append.mp p1).2.2 y hy c (by simp))) (key c (s_z (vol_abb _ _))) p1
    · exact h
  | c :: d :: l, pre, h, hh => by
    unfold rf mid
    split
    · rename_i ho
      obtain ⟨_, u0, u1, _⟩ := opp_part ho
      have h2 := tw_ins u0 u1 l pre h
      have := tw_rf (g := g) (f := f) (d :: l) (pre ++ [c, btV (g c / (g c - g d)) c d]) (by simpa using h2) (by cases pre <;> simpa using hh)
      simpa using this
    · have := tw_rf (g := g) (f := f) (d :: l) (pre ++ [c]) (by simpa using h) (by cases pre <;> simpa using hh)
      simpa using this
instance : DecidableEq V := fun a b => decidable_of_iff (a.x = b.x ∧ a.y = b.y ∧ a.z = b.z) (by
  constructor
  · rintro ⟨h1, h2, h3⟩; cases a; cases b; simp at h1 h2 h3; subst h1 h2 h3; rfl
  · rintro rfl; exact ⟨rfl, rfl, rfl⟩)
theorem dd_sub : ∀ (l : List V) (p : V), (dd p l).Sublist l
  | [], p => .slnil
  | c :: l, p => by
    unfold dd
    split
    · exact (dd_sub l c).cons c
    · exact (dd_sub l c).cons₂ c
/-- those unlike the one ahead, the last being ahead of the first -/
def ddc (l : List V) : List V := match l with
  | [] => []
  | a :: t => dd ((a :: t).getLast (by simp)) (a :: t)
theorem dd_nil : ∀ (l : List V) (p : V), dd p l = [] → ∀ x, x ∈ l → x = p
  | [], p, _, x, h => by cases h
  | c :: l, p, h, x, hx => by
    unfold dd at h
    split at h
    · rename_i e
      subst e
      rcases List.mem_cons.mp hx with rfl | hx
      · rfl
      · exact dd_nil l c (by simpa using h) x hx
    · simp at h
theorem dd_last : ∀ (l : List V) (p : V) (h : dd p l ≠ []) (h' : l ≠ []), (dd p l).getLast h = l.getLast h'
  | [], p, h, h' => absurd rfl h'
  | c :: l, p, h, h' => by
    by_cases hl : dd c l = []
    · have al := dd_nil l c hl
      have el : (c :: l).getLast h' = c := by
        cases l with
        | nil => rfl
        | cons d l =>
          rw [List.getLast_cons (by simp)]
          exact al _ (List.getLast_mem _)
      rw [el]
      have e1 : dd p (c :: l) = (if c = p then [] else [c]) ++ dd c l := rfl
      rw [hl, List.append_nil] at e1
      have e2 : dd p (c :: l) = [c] := by
        by_cases hc : c = p
        · rw [if_pos hc] at e1; exact absurd e1 h
        · rw [if_neg hc] at e1; exact e1
      simp [e2]
    · have hln : l ≠ [] := fun e => by subst e; exact hl rfl
      have ih := dd_last l c hl hln
      rw [List.getLast_cons hln, ← ih]
      have : ∀ hh, (dd p (c :: l)).getLast hh = (dd c l).getLast hl := by
        show ∀ hh : ((if c = p then [] else [c]) ++ dd c l) ≠ [], ((if c = p then [] else [c]) ++ dd c l).getLast hh = _
        split
        · intro hh; rfl
        · intro hh
          exact List.getLast_cons hl
      exact this h
theorem wP_last (r q : V) (l : List V) (h : l ≠ []) : wP r q l = sP r q (l.getLast h :: l) := by
  cases l with
  | nil => exact absurd rfl h
  | cons a t =>
    show sP r q (a :: t ++ [a]) = _
    rw [sP_snoc r q a (a :: t) (by simp), sP_cons]; omega
theorem wP_ddc (r q : V) (l : List V) : wP r q (ddc l) = wP r q l := by
  cases l with
  | nil => rfl
  | cons a t =>
    show wP r q (dd ((a :: t).getLast (by simp)) (a :: t)) = _
    rw [wP_last r q (a :: t) (by simp)]
    by_cases hd : dd ((a :: t).getLast (by simp)) (a :: t) = []
    · rw [hd]
      have al := dd_nil _ _ hd
      have : wP r q (a :: t) = 0 := wP_zero (fun x => x = (a :: t).getLast (by simp)) (fun x y hx hy => by rw [hx, hy, tr_abb]) _ al
      rw [← wP_last r q (a :: t) (by simp), this]; rfl
    · rw [wP_last r q _ hd, dd_last _ _ hd (by simp), sP_dd]
theorem ddc_sub (l : List V) : (ddc l).Sublist l := by
  cases l with
  | nil => exact .slnil
  | cons a t => exact dd_sub _ _
/-- one wall -/
def stg (g : V → Rat) (l : List V) : List V := match l with
  | [] => []
  | a :: t => ddc ((rf g a (a :: t)).filter (kept g))
def stgs : List (V → Rat) → List V → List V
  | [], l => l
  | g :: gs, l => if (stg g l).length < 3 then [] else stgs gs (stg g l)
theorem tw_stg {s : Rat} {g : V → Rat} {l : List V} (h : Tw s l) : Tw s (stg g l) := by
  cases l with
  | nil => trivial
  | cons a t =>
    have h1 := tw_rf (g := g) (f := a) (a :: t) [] h rfl
    exact tw_sub (ddc_sub _) (tw_sub List.filter_sublist h1)
theorem tw_stgs {s : Rat} : ∀ {gs : List (V → Rat)} {l : List V}, Tw s l → Tw s (stgs gs l)
  | [], _, h => h
  | g :: gs, l, h => by
    unfold stgs
    split
    · trivial
    · exact tw_stgs (tw_stg h)
end Q.K26
end

section
set_option maxRecDepth 100000
set_option maxHeartbeats 4000000
set_option exponentiation.threshold 70
/-! R30g: all walls. -/
namespace Q.K26
def rfA (g : V → Rat) (l : List V) : List V := match l with
  | [] => []
  | a :: t => rf g a (a :: t)
/-- all points that are met on the way -/
def aP : List (V → Rat) → List V → List V
  | [], l => l
  | g :: gs, l => l ++ rfA g l ++ aP gs (stg g l)
def lin (g : V → Rat) : Prop := ∀ u a o, g (btV u a o) = bt u (g a) (g o)
theorem rf_flat {g : V → Rat} : ∀ (l : List V) (f : V), g f = 0 → (∀ x, x ∈ l → g x = 0) → rf g f l = l
  | [], _, _, _ => rfl
  | [c], f, hf, h => by
    have : opp (g c) (g f) = false := by rw [h c (by simp), hf]; decide +kernel
    simp [rf, mid, this]
  | c :: d :: l, f, hf, h => by
    have : opp (g c) (g d) = false := by rw [h c (by simp), h d (by simp)]; decide +kernel
    unfold rf
    rw [rf_flat (d :: l) f hf fun x hx => h x (by simp [List.mem_cons.mp hx])]
    simp [mid, this]
theorem wP_stg {r : V} {G : V → Prop} (gn : Gn r G) {g : V → Rat} (hl : lin g) {K : Prop} [Decidable K]
    (hA : K → (∀ q a b, G q → G a → G b → g q ≤ 0 → g a ≤ 0 → g b ≤ 0 → tr r q a b = 0) ∨ ∀ v, G v → g v = 0)
    (hC : ¬ K → ∀ q a b, G q → G a → G b → 0 ≤ g q → 0 ≤ g a → 0 ≤ g b → tr r q a b = 0)
    (l : List V) (hG : ∀ x, x ∈ l ++ rfA g l → G x) {q : V} (hq : G q) : wP r q (stg g l) = if K then wP r q l else 0 := by
  cases l with
  | nil => split <;> rfl
  | cons a t =>
    show wP r q (ddc ((rf g a (a :: t)).filter (kept g))) = _
    rw [wP_ddc]
    have hr : ∀ x, x ∈ rf g a (a :: t) → G x := fun x hx => hG x (by simp [rfA, hx])
    by_cases k : K
    · rw [if_pos k]
      rcases hA k with hz | h0
      · exact wP_cut gn hl hz a t hr hq
      · have hm : ∀ x, x ∈ a :: t → g x = 0 := fun x hx => h0 x (hG x (List.mem_append.mpr (.inl hx)))
        rw [rf_flat (a :: t) a (hm a (by simp)) hm]
        have : (a :: t).filter (kept g) = a :: t := List.filter_eq_self.mpr fun x hx => decide_eq_true (by rw [hm x hx]; exact Rat.le_refl)
        rw [this]
    · rw [if_neg k]
      exact wP_gone gn (hC k) _ hr hq
theorem wP_stgs {r : V} {G : V → Prop} (gn : Gn r G) (K : (V → Rat) → Prop) : ∀ (gs : List (V → Rat)) (l : List V), (∀ g, g ∈ gs → lin g) →
    (∀ g, g ∈ gs → K g → (∀ q a b, G q → G a → G b → g q ≤ 0 → g a ≤ 0 → g b ≤ 0 → tr r q a b = 0) ∨ ∀ v, G v → g v = 0) →
    (∀ g, g ∈ gs → ¬ K g → ∀ q a b, G q → G a → G b → 0 ≤ g q → 0 ≤ g a → 0 ≤ g b → tr r q a b = 0) →
    (∀ x, x ∈ aP gs l → G x) → ∀ q, G q → ((∀ g, g ∈ gs → K g) → wP r q (stgs gs l) = wP r q l) ∧ (¬ (∀ g, g ∈ gs → K g) → wP r q (stgs gs l) = 0)
  | [], l, _, _, _, _, q, hq => ⟨fun _ => rfl, fun h => absurd (fun g hg => by cases hg) h⟩
  | g :: gs, l, hl, hA, hC, hG, q, hq => by
    haveI : Decidable (K g) := Classical.propDecidable _
    have h1 := wP_stg gn (hl g (by simp)) (hA g (by simp)) (hC g (by simp)) l (fun x hx => hG x (by
      unfold aP
      simp only [List.mem_append] at hx ⊢
      exact .inl hx)) hq
    obtain ⟨i1, i2⟩ := wP_stgs gn K gs (stg g l) (fun f hf => hl f (by simp [hf])) (fun f hf => hA f (by simp [hf])) (fun f hf => hC f (by simp [hf])) (fun x hx => hG x (by unfold aP; simp [hx])) q hq
    unfold stgs
    by_cases hlen : (stg g l).length < 3
    · rw [if_pos hlen]
      have z := wP_two (r := r) (q := q) _ hlen
      refine ⟨fun h => ?_, fun _ => rfl⟩
      rw [z, if_pos (h g (by simp))] at h1
      rw [← h1]; rfl
    · rw [if_neg hlen]
      refine ⟨fun h => ?_, fun h => ?_⟩
      · rw [i1 fun f hf => h f (by simp [hf]), h1, if_pos (h g (by simp))]
      · by_cases k : ∀ f, f ∈ gs → K f
        · rw [i1 k, h1, if_neg]
          intro kg
          exact h fun f hf => by
            rcases List.mem_cons.mp hf with rfl | hf
            · exact kg
            · exact k f hf
        · exact i2 k
/-- what holds of the first points and of all between two holds of all -/
theorem aP_all {P : V → Prop} (hP : ∀ u a o, 0 ≤ u → u ≤ 1 → P a → P o → P (btV u a o)) : ∀ (gs : List (V → Rat)) (l : List V), (∀ x, x ∈ l → P x) → ∀ x, x ∈ aP gs l → P x := by
  have rfP : ∀ (g : V → Rat) (l : List V) (f : V), P f → (∀ x, x ∈ l → P x) → ∀ x, x ∈ rf g f l → P x := by
    intro g l
    induction l with
    | nil => intro f _ _ x hx; cases hx
    | cons c l ih =>
      intro f hf hl x hx
      cases l with
      | nil =>
        unfold rf mid at hx
        split at hx
        · rename_i ho
          obtain ⟨_, u0, u1, _⟩ := opp_part ho
          simp at hx
          rcases hx with rfl | rfl
          · exact hl _ (by simp)
          · exact hP _ _ _ u0 u1 (hl c (by simp)) hf
        · simp at hx; subst hx; exact hl _ (by simp)
      | cons d l =>
        unfold rf mid at hx
        rcases List.mem_cons.mp hx with rfl | hx
        · exact hl _ (by simp)
        · rcases List.mem_append.mp hx with hx | hx
          · split at hx
            · rename_i ho
              obtain ⟨_, u0, u1, _⟩ := opp_part ho
              simp at hx; subst hx
              exact hP _ _ _ u0 u1 (hl c (by simp)) (hl d (by simp))
            · cases hx
          · exact ih f hf (fun y hy => hl y (by simp [List.mem_cons.mp hy])) x hx
  intro gs
  induction gs with
  | nil => intro l hl x hx; exact hl x hx
  | cons g gs ih =>
    intro l hl x hx
    have hr : ∀ x, x ∈ rfA g l → P x := by
      cases l with
      | nil => intro x hx; cases hx
      | cons a t => exact rfP g _ a (hl a (by simp)) hl
    unfold aP at hx
    simp only [List.mem_append] at hx
    rcases hx with (hx | hx) | hx
    · exact hl x hx
    · exact hr x hx
    · refine ih (stg g l) (fun y hy => ?_) x hx
      cases l with
      | nil => cases hy
      | cons a t =>
        have := (ddc_sub _).subset hy
        exact hr y (List.mem_filter.mp this).1
theorem stg_aP {g : V → Rat} : ∀ (gs : List (V → Rat)) (l : List V) (x : V), x ∈ stgs gs l → x ∈ aP gs l
  | [], l, x, h => h
  | g :: gs, l, x, h => by
    unfold stgs at h
    split at h
    · cases h
    · have := stg_aP (g := g) gs _ x h
      unfold aP; simp [this]
end Q.K26
end

section
set_option maxRecDepth 100000
set_option maxHeartbeats 4000000
set_option exponentiation.threshold 70
/-! R30h: the rows of corners that cut_by, plain, left_of tell are these ways. -/
namespace Q.K26
def cyN (h : Cn → Cn → List Cn) (f : Cn) : List Cn → List Cn
  | [] => []
  | [c] => h c f
  | c :: d :: l => h c d ++ cyN h f (d :: l)
def cyP (h : Cn → Cn → List Cn) (p : Cn) : List Cn → List Cn
  | [] => []
  | c :: l => h p c ++ cyP h c l
theorem gt_app (pre : List Cn) (c : Cn) (l : List Cn) : gt (pre ++ c :: l) pre.length = c := by
  unfold gt
  rw [List.getD_eq_getElem?_getD, List.getElem?_append_right (Nat.le_refl _)]
  simp
theorem gt_zero (c : Cn) (l : List Cn) : gt (c :: l) 0 = c := rfl
theorem fmN (h : Cn → Cn → List Cn) (cs : List Cn) : ∀ (suf pre : List Cn), cs = pre ++ suf →
    (List.range suf.length).flatMap (fun i => h (gt cs (pre.length + i)) (gt cs ((pre.length + i + 1) % cs.length))) = cyN h (gt cs 0) suf
  | [], _, _ => rfl
  | [c], pre, e => by
    have e1 : gt cs pre.length = c := by rw [e, gt_app]
    have e2 : (pre.length + 1) % cs.length = 0 := by
      rw [e, List.length_append]; exact Nat.mod_self _
    simp [cyN, e1, e2]
  | c :: d :: l, pre, e => by
    have ih := fmN h cs (d :: l) (pre ++ [c]) (by rw [e]; simp)
    have e1 : gt cs pre.length = c := by rw [e, gt_app]
    have e2 : gt cs (pre.length + 1) = d := by
      have e' : cs = (pre ++ [c]) ++ d :: l := by rw [e]; simp
      have := gt_app (pre ++ [c]) d l
      rw [← e'] at this
      simpa using this
    have e3 : (pre.length + 1) % cs.length = pre.length + 1 := Nat.mod_eq_of_lt (by rw [e]; simp)
    rw [show (c :: d :: l).length = (d :: l).length + 1 from rfl, List.range_succ_eq_map, List.flatMap_cons, List.flatMap_map]
    show h _ _ ++ _ = h c d ++ cyN h (gt cs 0) (d :: l)
    rw [← ih]
    congr 1
    · rw [Nat.add_zero, e1, e3, e2]
    · congr 1
      funext i
      have : pre.length + i.succ = (pre ++ [c]).length + i := by simp; omega
      rw [this]
theorem fmP (h : Cn → Cn → List Cn) (cs : List Cn) : ∀ (suf pre : List Cn), cs = pre ++ suf →
    (List.range suf.length).flatMap (fun i => h (gt cs ((pre.length + i + cs.length - 1) % cs.length)) (gt cs (pre.length + i))) = cyP h (gt cs ((pre.length + cs.length - 1) % cs.length)) suf
  | [], _, _ => rfl
  | c :: l, pre, e => by
    have ih := fmP h cs l (pre ++ [c]) (by rw [e]; simp)
    have e1 : gt cs pre.length = c := by rw [e, gt_app]
    have hl : pre.length < cs.length := by rw [e]; simp
    have e3 : ((pre ++ [c]).length + cs.length - 1) % cs.length = pre.length := by
      rw [show (pre ++ [c]).length + cs.length - 1 = pre.length + cs.length by rw [List.length_append, List.length_singleton]; omega, Nat.add_mod_right, Nat.mod_eq_of_lt hl]
    rw [e3, e1] at ih
    rw [show (c :: l).length = l.length + 1 from rfl, List.range_succ_eq_map, List.flatMap_cons, List.flatMap_map]
    show h _ _ ++ _ = h _ c ++ cyP h c l
    rw [← ih]
    congr 1
    · rw [Nat.add_zero, e1]
    · congr 1
      funext i
      have : pre.length + i.succ = (pre ++ [c]).length + i := by simp; omega
      rw [this]
def gw (w : W4) (v : V) : Rat := w.v.dot v - (w.e : Rat)
theorem lin_gw (w : W4) : lin (gw w) := fun u a o => by simp only [gw, bt, btV, V.dot]; grind
theorem kept_mid (w : W4) {a o : V} (h : opp (gw w a) (gw w o) = true) : kept (gw w) (btV (gw w a / (gw w a - gw w o)) a o) = true := by
  unfold kept
  rw [lin_gw, (opp_part h).2.2.2]; simp
def stepN (w : W4) (c d : Cn) : List Cn := (if 0 ≤ ahd w c then [c] else []) ++ (if opp (ahd w c) (ahd w d) then [btC (ahd w c / (ahd w c - ahd w d)) c d] else [])
theorem stepN_map (w : W4) (c d : Cn) : (stepN w c d).map Cn.p = ([c.p] ++ mid (gw w) c.p d.p).filter (kept (gw w)) := by
  have e1 : ahd w c = gw w c.p := rfl
  have e2 : ahd w d = gw w d.p := rfl
  unfold stepN mid
  rw [e1, e2, List.filter_append, List.map_append]
  congr 1
  · by_cases h : 0 ≤ gw w c.p
    · have k : kept (gw w) c.p = true := decide_eq_true h
      simp [h, k]
    · have k : kept (gw w) c.p = false := decide_eq_false h
      simp [h, k]
  · cases ho : opp (gw w c.p) (gw w d.p) with
    | false => simp
    | true =>
      have k := kept_mid w ho
      simp [k, btC]
theorem cyN_map (w : W4) (f : Cn) : ∀ l : List Cn, (cyN (stepN w) f l).map Cn.p = (rf (gw w) f.p (l.map Cn.p)).filter (kept (gw w))
  | [] => rfl
  | [c] => by
    show (stepN w c f).map Cn.p = _
    rw [stepN_map]; rfl
  | c :: d :: l => by
    show (stepN w c d ++ cyN (stepN w) f (d :: l)).map Cn.p = (c.p :: (mid (gw w) c.p d.p ++ rf (gw w) f.p ((d :: l).map Cn.p))).filter (kept (gw w))
    rw [List.map_append, stepN_map, cyN_map w f (d :: l), ← List.filter_append]; rfl
theorem cutL_map (w : W4) (cs : List Cn) : (cutL w cs).map Cn.p = (rfA (gw w) (cs.map Cn.p)).filter (kept (gw w)) := by
  have := fmN (stepN w) cs cs [] rfl
  have e : cutL w cs = cyN (stepN w) (gt cs 0) cs := by
    rw [← this]
    unfold cutL
    congr 1
    funext i
    show cutAt w cs i = stepN w (gt cs (0 + i)) (gt cs ((0 + i + 1) % cs.length))
    rw [Nat.zero_add]; rfl
  rw [e, cyN_map]
  cases cs with
  | nil => rfl
  | cons c l => rfl
def stepP (p c : Cn) : List Cn := if eqV c.p p.p then [] else [c]
theorem eqV_iff (a b : V) : eqV a b = true ↔ a = b := by
  unfold eqV
  simp only [Bool.and_eq_true, decide_eq_true_eq]
  constructor
  · rintro ⟨h1, h2, h3⟩; cases a; cases b; simp at h1 h2 h3; subst h1 h2 h3; rfl
  · rintro rfl; exact ⟨rfl, rfl, rfl⟩
theorem cyP_map : ∀ (l : List Cn) (p : Cn), (cyP stepP p l).map Cn.p = dd p.p (l.map Cn.p)
  | [], p => rfl
  | c :: l, p => by
    show (stepP p c ++ cyP stepP c l).map Cn.p = (if c.p = p.p then [] else [c.p]) ++ dd c.p (l.map Cn.p)
    rw [List.map_append, cyP_map l c]
    congr 1
    unfold stepP
    by_cases h : c.p = p.p
    · rw [if_pos h, if_pos ((eqV_iff _ _).mpr h)]; rfl
    · rw [if_neg h, if_neg (fun k => h ((eqV_iff _ _).mp k))]; rfl
theorem plL_map (cs : List Cn) : (plL cs).map Cn.p = ddc (cs.map Cn.p) := by
  have := fmP stepP cs cs [] rfl
  have e : plL cs = cyP stepP (gt cs ((0 + cs.length - 1) % cs.length)) cs := by
    refine Eq.trans ?_ this
    unfold plL
    congr 1
    funext i
    show plAt cs i = stepP (gt cs ((0 + i + cs.length - 1) % cs.length)) (gt cs (0 + i))
    rw [Nat.zero_add]; rfl
  rw [e, cyP_map]
  cases cs with
  | nil => rfl
  | cons c l =>
    show dd _ _ = dd _ _
    congr 1
    have h1 : (0 + (c :: l).length - 1) % (c :: l).length = l.length := by
      rw [show 0 + (c :: l).length - 1 = l.length by simp]
      exact Nat.mod_eq_of_lt (by simp)
    rw [h1]
    have : ∀ (l : List Cn) (c : Cn) (h : (c :: l).map Cn.p ≠ []), (gt (c :: l) l.length).p = ((c :: l).map Cn.p).getLast h := by
      intro l
      induction l with
      | nil => intro c h; rfl
      | cons d l ih =>
        intro c h
        have := ih d (by simp)
        show _ = (c.p :: (d :: l).map Cn.p).getLast _
        rw [List.getLast_cons (by simp), ← this]; rfl
    exact this l c _
theorem ltL_map : ∀ (ws : List W4) (cs : List Cn), (ltL ws cs).map Cn.p = stgs (ws.map gw) (cs.map Cn.p)
  | [], cs => rfl
  | w :: ws, cs => by
    have e : (plL (cutL w cs)).map Cn.p = stg (gw w) (cs.map Cn.p) := by
      rw [plL_map, cutL_map]
      cases cs with
      | nil => rfl
      | cons c l => rfl
    have el : (plL (cutL w cs)).length = (stg (gw w) (cs.map Cn.p)).length := by rw [← e, List.length_map]
    show (ltL (w :: ws) cs).map Cn.p = stgs (gw w :: ws.map gw) (cs.map Cn.p)
    unfold ltL stgs
    rw [el]
    split
    · rfl
    · rw [ltL_map ws, e]
end Q.K26
end

section
set_option maxRecDepth 100000
set_option maxHeartbeats 4000000
set_option exponentiation.threshold 70
/-! R30i: just one piece owns what is hit. -/
namespace Q.K26
theorem rat_tri {a b : Rat} (h : a ≠ b) : a < b ∨ b < a := by grind
theorem sgn_scale {k x : Rat} (hk : 0 < k) : sgn (k * x) = sgn x := by
  rw [sgn_eq, sgn_eq]
  by_cases hp : 0 < x
  · have := Rat.mul_pos hk hp
    simp [hp, this]
  · by_cases hn : x < 0
    · have := Rat.mul_pos hk (show 0 < -x by grind)
      have t1 : k * x < 0 := by grind
      have t2 : ¬ 0 < k * x := by grind
      simp [hp, hn, t1, t2]
    · have : x = 0 := by grind
      subst this
      have : k * 0 = (0 : Rat) := by grind
      simp [this]
theorem mvS_scale {k x y z : Rat} (hk : 0 < k) : mvS (k * x) (k * y) (k * z) = mvS x y z := by
  unfold mvS; rw [sgn_scale hk, sgn_scale hk, sgn_scale hk]
theorem area_vol {a b c : V} (ha : Ahd a) (hb : Ahd b) (hc : Ahd c) : vol a b c = (a.z * b.z * c.z) * areaR (sat a) (sat b) (sat c) := by
  unfold Ahd at *
  have h1 : a.z ≠ 0 := by grind
  have h2 : b.z ≠ 0 := by grind
  have h3 : c.z ≠ 0 := by grind
  simp only [vol, areaR, sat, V.dot, V.crs]
  grind
theorem edgeS_mv {a b r : V} (hr : r.z = 1) (ha : Ahd a) (hb : Ahd b) : edgeS (sat a) (sat b) r.x r.y = (a.crs b).mv r := by
  unfold Ahd at *
  have h1 : a.z ≠ 0 := by grind
  have h2 : b.z ≠ 0 := by grind
  unfold edgeS V.mv
  rw [← mvS_scale (Rat.mul_pos ha hb)]
  congr 1
  · simp only [edgeR, sat, V.dot, V.crs]; grind
  · simp only [sat, V.crs]; grind
  · simp only [sat, V.crs]; grind
def own3 (r a b c : V) : Bool := ownB (sat a) (sat b) (sat c) r.x r.y
/-- t is so near r that its signs are the moved ones -/
structure Nr (r t : V) (G : V → Prop) : Prop where
  r1 : r.z = 1
  t1 : t.z = 1
  ah : ∀ a, G a → Ahd a
  sg : ∀ a b, G a → G b → sgn (br t a b) = (a.crs b).mv r
theorem eB_br {r t : V} {G : V → Prop} (n : Nr r t G) {a b : V} (ha : G a) (hb : G b) : eB r.x r.y (sat a, sat b) = decide (0 < br t a b) := by
  unfold eB
  rw [edgeS_mv n.r1 (n.ah a ha) (n.ah b hb), ← n.sg a b ha hb, ← sgn_pos_iff]
theorem own_tr {r t : V} {G : V → Prop} (n : Nr r t G) {a b c : V} (ha : G a) (hb : G b) (hc : G c) : own3 r a b c = decide (tr t a b c ≠ 0) := by
  have av := area_vol (n.ah a ha) (n.ah b hb) (n.ah c hc)
  have zp : 0 < a.z * b.z * c.z := Rat.mul_pos (Rat.mul_pos (n.ah a ha) (n.ah b hb)) (n.ah c hc)
  unfold own3 ownB edL
  by_cases h : 0 < areaR (sat a) (sat b) (sat c)
  · have hv : 0 < vol a b c := by rw [av]; exact Rat.mul_pos zp h
    have n0 : areaR (sat a) (sat b) (sat c) ≠ 0 := by grind
    rw [if_pos h]
    simp only [List.all_cons, List.all_nil, eB_br n hb hc, eB_br n hc ha, eB_br n ha hb, decide_eq_true n0, Bool.true_and, Bool.and_true]
    rcases tr_three t a b c with e | e | e
    · obtain ⟨h1, h2, h3⟩ := tr_pos e
      simp [h1, h2, h3, e]
    · have := tr_vol_neg n.t1 (n.ah a ha) (n.ah b hb) (n.ah c hc) e
      grind
    · rw [e]
      unfold tr tS at e
      have : ¬ (0 < br t b c ∧ 0 < br t c a ∧ 0 < br t a b) := fun k => by rw [if_pos k] at e; cases e
      simp only [ne_eq, not_true_eq_false, decide_false]
      by_cases h1 : 0 < br t b c <;> by_cases h2 : 0 < br t c a <;> by_cases h3 : 0 < br t a b <;> simp [h1, h2, h3]
      exact absurd ⟨h1, h2, h3⟩ this
  · rw [if_neg h]
    by_cases h0 : areaR (sat a) (sat b) (sat c) = 0
    · have hv : vol a b c = 0 := by rw [av, h0]; grind
      simp only [h0, ne_eq, not_true_eq_false, decide_false, Bool.false_and]
      rcases tr_three t a b c with e | e | e
      · have := tr_vol_pos n.t1 (n.ah a ha) (n.ah b hb) (n.ah c hc) e
        grind
      · have := tr_vol_neg n.t1 (n.ah a ha) (n.ah b hb) (n.ah c hc) e
        grind
      · simp [e]
    · have hv : vol a b c < 0 := by
        have := Rat.mul_pos zp (show 0 < -areaR (sat a) (sat b) (sat c) by grind)
        grind
      simp only [List.all_cons, List.all_nil, eB_br n hc hb, eB_br n ha hc, eB_br n hb ha, decide_eq_true h0, Bool.true_and, Bool.and_true]
      have x1 := br_anti t b c
      have x2 := br_anti t c a
      have x3 := br_anti t a b
      rcases tr_three t a b c with e | e | e
      · have := tr_vol_pos n.t1 (n.ah a ha) (n.ah b hb) (n.ah c hc) e
        grind
      · obtain ⟨h1, h2, h3⟩ := tr_neg e
        have y1 : 0 < br t c b := by grind
        have y2 : 0 < br t a c := by grind
        have y3 : 0 < br t b a := by grind
        simp [y1, y2, y3, e]
      · rw [e]
        unfold tr tS at e
        have : ¬ (br t b c < 0 ∧ br t c a < 0 ∧ br t a b < 0) := fun k => by
          have k' : ¬ (0 < br t b c ∧ 0 < br t c a ∧ 0 < br t a b) := by grind
          rw [if_neg k', if_pos k] at e; cases e
        simp only [ne_eq, not_true_eq_false, decide_false]
        by_cases h1 : 0 < br t c b <;> by_cases h2 : 0 < br t a c <;> by_cases h3 : 0 < br t b a <;> simp [h1, h2, h3]
        exact absurd ⟨by grind, by grind, by grind⟩ this
def cntF (r c0 : V) : List V → Nat
  | a :: b :: l => (if own3 r c0 a b then 1 else 0) + cntF r c0 (b :: l)
  | _ => 0
def cntV (r : V) : List V → Nat
  | [] => 0
  | c :: l => cntF r c l
theorem cnt_tr {r t : V} {G : V → Prop} (n : Nr r t G) {s : Rat} (hs : s ≠ 0) {c0 : V} (h0 : G c0) : ∀ l : List V, (∀ x, x ∈ l → G x) → l.Pairwise (fun b c => 0 ≤ s * vol c0 b c) → sgn s * sP t c0 l = (cntF r c0 l : Int)
  | [], _, _ => by simp [cntF]
  | [a], _, _ => by simp [cntF]
  | a :: b :: l, hg, hp => by
    have ih := cnt_tr n hs h0 (b :: l) (fun x hx => hg x (by simp [List.mem_cons.mp hx])) (List.pairwise_cons.mp hp).2
    have ga := hg a (by simp)
    have gb := hg b (by simp)
    have hv := (List.pairwise_cons.mp hp).1 b (by simp)
    have ow := own_tr n h0 ga gb
    rw [sP_cons, Int.mul_add, ih]
    show _ = (((if own3 r c0 a b then 1 else 0) + cntF r c0 (b :: l) : Nat) : Int)
    rw [ow]
    rcases tr_three t c0 a b with e | e | e
    · have := tr_vol_pos n.t1 (n.ah _ h0) (n.ah _ ga) (n.ah _ gb) e
      have sp : 0 < s := by
        rcases rat_tri hs with k | k
        · have := Rat.mul_pos (show 0 < -s by grind) this
          grind
        · exact k
      have : sgn s = 1 := by rw [sgn_eq]; simp [sp]
      simp [e, this]
    · have := tr_vol_neg n.t1 (n.ah _ h0) (n.ah _ ga) (n.ah _ gb) e
      have sp : s < 0 := by
        rcases rat_tri hs with k | k
        · exact k
        · have := Rat.mul_pos k (show 0 < -vol c0 a b by grind)
          grind
      have : sgn s = -1 := by rw [sgn_eq]; have : ¬ 0 < s := by grind
                              simp [sp, this]
      simp [e, this]
    · simp [e]
theorem cnt_flat {r c0 : V} (h0 : Ahd c0) : ∀ l : List V, (∀ x, x ∈ l → Ahd x) → l.Pairwise (fun b c => vol c0 b c = 0) → cntF r c0 l = 0
  | [], _, _ => rfl
  | [a], _, _ => rfl
  | a :: b :: l, hg, hp => by
    have ih := cnt_flat (r := r) h0 (b :: l) (fun x hx => hg x (by simp [List.mem_cons.mp hx])) (List.pairwise_cons.mp hp).2
    have hv := (List.pairwise_cons.mp hp).1 b (by simp)
    have zp : 0 < c0.z * a.z * b.z := Rat.mul_pos (Rat.mul_pos h0 (hg a (by simp))) (hg b (by simp))
    have av := area_vol h0 (hg a (by simp)) (hg b (by simp))
    have : areaR (sat c0) (sat a) (sat b) = 0 := by
      rw [hv] at av
      rcases Rat.mul_eq_zero.mp av.symm with z | z
      · grind
      · exact z
    show (if own3 r c0 a b then 1 else 0) + cntF r c0 (b :: l) = 0
    have e : own3 r c0 a b = false := by unfold own3 ownB; simp [this]
    rw [e, ih]; rfl
theorem firstW_none {p q s r : V} : ∀ (ws : List W4) (n : Nat), firstW p q s r n ws = none ↔ ∀ w, w ∈ ws → 0 ≤ (wf p q s w).mv r * (whole p q s).mv r
  | [], n => by simp [firstW]
  | w :: ws, n => by
    unfold firstW
    by_cases h : (wf p q s w).mv r * (whole p q s).mv r < 0
    · rw [if_pos h]
      constructor
      · intro k; cases k
      · intro k
        have := k w (by simp)
        omega
    · rw [if_neg h, firstW_none ws (n + 1)]
      constructor
      · intro k v hv
        rcases List.mem_cons.mp hv with rfl | hv
        · omega
        · exact k v hv
      · intro k v hv
        exact k v (by simp [hv])
end Q.K26
end

section
set_option maxRecDepth 100000
set_option maxHeartbeats 4000000
set_option exponentiation.threshold 70
/-! R30j: the count whole. -/
namespace Q.K26
theorem aP_sub : ∀ (gs : List (V → Rat)) (l : List V) (x : V), x ∈ l → x ∈ aP gs l
  | [], l, x, h => h
  | g :: gs, l, x, h => by unfold aP; simp [h]
theorem stgs_aP : ∀ (gs : List (V → Rat)) (l : List V) (x : V), x ∈ stgs gs l → x ∈ aP gs l
  | [], l, x, h => h
  | g :: gs, l, x, h => by
    unfold stgs at h
    split at h
    · cases h
    · have := stgs_aP gs _ x h
      unfold aP; simp [this]
theorem crs_zero {N u v : V} {d : Rat} (hd : d ≠ 0) (hu : N.dot u = d) (hv : N.dot v = d) (h : (u.crs v).x = 0 ∧ (u.crs v).y = 0 ∧ (u.crs v).z = 0) : u = v := by
  obtain ⟨h1, h2, h3⟩ := h
  simp only [V.crs, V.dot] at *
  have e : ∀ x, d * x = 0 → x = 0 := fun x hx => by
    rcases Rat.mul_eq_zero.mp hx with z | z
    · exact absurd z hd
    · exact z
  have ex : u.x - v.x = 0 := e _ (by
    have : d * (u.x - v.x) = (N.x * v.x + N.y * v.y + N.z * v.z) * u.x - (N.x * u.x + N.y * u.y + N.z * u.z) * v.x := by rw [hu, hv]; grind
    rw [this]; grind)
  have ey : u.y - v.y = 0 := e _ (by
    have : d * (u.y - v.y) = (N.x * v.x + N.y * v.y + N.z * v.z) * u.y - (N.x * u.x + N.y * u.y + N.z * u.z) * v.y := by rw [hu, hv]; grind
    rw [this]; grind)
  have ez : u.z - v.z = 0 := e _ (by
    have : d * (u.z - v.z) = (N.x * v.x + N.y * v.y + N.z * v.z) * u.z - (N.x * u.x + N.y * u.y + N.z * u.z) * v.z := by rw [hu, hv]; grind
    rw [this]; grind)
  have q1 : u.x = v.x := by grind
  have q2 : u.y = v.y := by grind
  have q3 : u.z = v.z := by grind
  cases u; cases v; simp at q1 q2 q3; subst q1 q2 q3; rfl
theorem whole_dots (p q s : V) : (whole p q s).dot p = vol p q s ∧ (whole p q s).dot q = vol p q s ∧ (whole p q s).dot s = vol p q s := by
  simp only [whole, vol, V.dot, V.crs, V.add]
  refine ⟨?_, ?_, ?_⟩ <;> grind
theorem whole_br (p q s t : V) : (whole p q s).dot t = br t q s + br t s p + br t p q := by
  simp only [whole, br, V.dot, V.crs, V.add]; grind
theorem wf_dot {p q s v : V} (w : W4) (h : (whole p q s).dot v = vol p q s) : (wf p q s w).dot v = vol p q s * gw w v := by
  have : (wf p q s w).dot v = vol p q s * w.v.dot v - w.e * (whole p q s).dot v := by
    simp only [wf, V.dot, V.sub, V.smul]; grind
  rw [this, h]; unfold gw; grind
theorem smul_dot (k : Rat) (f v : V) : (V.smul k f).dot v = k * f.dot v := by simp only [V.smul, V.dot]; grind
theorem fb_tr {p q s r t : V} {G : V → Prop} (n : Nr r t G) (hp : G p) (hq : G q) (hs : G s) (h0 : vol p q s ≠ 0) (hw : sgn ((whole p q s).dot t) = (whole p q s).mv r) :
    (fbO p q s r = none → tr t p q s = sgn (vol p q s)) ∧ (fbO p q s r ≠ none → tr t p q s = 0) ∧ (fbO p q s r = none → (whole p q s).mv r = sgn (vol p q s)) := by
  have b1 := n.sg q s hq hs
  have b2 := n.sg s p hs hp
  have b3 := n.sg p q hp hq
  have sp : ∀ {x : Rat}, sgn x = 1 → 0 < x := fun {x} h => by rw [sgn_eq] at h; grind
  have sn : ∀ {x : Rat}, sgn x = -1 → x < 0 := fun {x} h => by rw [sgn_eq] at h; grind
  have ps : ∀ {x : Rat}, 0 < x → sgn x = 1 := fun {x} h => by rw [sgn_eq]; simp [h]
  have ns : ∀ {x : Rat}, x < 0 → sgn x = -1 := fun {x} h => by
    have : ¬ 0 < x := by grind
    rw [sgn_eq]
    simp [h, this]
  refine ⟨fun h => ?_, fun h => ?_, fun h => (fb_none h).2.2.2.2⟩
  · obtain ⟨_, h1, h2, h3, h4⟩ := fb_none h
    rw [h4] at h1 h2 h3
    rw [← b1] at h1
    rw [← b2] at h2
    rw [← b3] at h3
    rcases rat_tri h0 with k | k
    · have e := ns k
      rw [e] at h1 h2 h3 ⊢
      have k1 := sn h1
      have k2 := sn h2
      have k3 := sn h3
      unfold tr tS
      rw [if_neg (by grind), if_pos ⟨k1, k2, k3⟩]
    · have e := ps k
      rw [e] at h1 h2 h3 ⊢
      unfold tr tS
      rw [if_pos ⟨sp h1, sp h2, sp h3⟩]
  · rcases tr_three t p q s with e | e | e
    · exfalso
      obtain ⟨h1, h2, h3⟩ := tr_pos e
      have v := tr_vol_pos n.t1 (n.ah p hp) (n.ah q hq) (n.ah s hs) e
      have w := whole_br p q s t
      have e4 : (whole p q s).mv r = 1 := by rw [← hw]; exact ps (by grind)
      refine h ?_
      unfold fbO
      rw [if_neg h0, ← b1, ← b2, ← b3, e4, ps h1, ps h2, ps h3, ps v]; simp
    · exfalso
      obtain ⟨h1, h2, h3⟩ := tr_neg e
      have v := tr_vol_neg n.t1 (n.ah p hp) (n.ah q hq) (n.ah s hs) e
      have w := whole_br p q s t
      have e4 : (whole p q s).mv r = -1 := by rw [← hw]; exact ns (by grind)
      refine h ?_
      unfold fbO
      rw [if_neg h0, ← b1, ← b2, ← b3, e4, ns h1, ns h2, ns h3, ns v]; simp
    · exact e
theorem bt_self (u d : Rat) : bt u d d = d := by simp only [bt]; grind
theorem cnt_main {p q s r : V} (hr : r.z = 1) (hp : Ahd p) (hq : Ahd q) (hs : Ahd s) {ws ws' : List W4} (hw : ∀ w, w ∈ ws' ↔ w ∈ ws) :
    cntV r (stgs (ws'.map gw) [p, q, s]) = if fbO p q s r = none ∧ firstW p q s r 0 ws = none then 1 else 0 := by
  have hA : ∀ x, x ∈ aP (ws'.map gw) [p, q, s] → Ahd x := aP_all (P := Ahd) (fun u a o h0 h1 ha ho => by
    show 0 < bt u a.z o.z
    have e : bt u a.z o.z = (1 - u) * a.z + u * o.z := by simp only [bt]; grind
    unfold Ahd at ha ho
    rw [e]
    have p1 := Rat.mul_nonneg (show (0 : Rat) ≤ 1 - u by grind) (Rat.le_of_lt ha)
    have p2 := Rat.mul_nonneg h0 (Rat.le_of_lt ho)
    by_cases hu : u = 0
    · subst hu; grind
    · have := Rat.mul_pos (show 0 < u by grind) ho
      grind) _ _ (fun x hx => by simp at hx; rcases hx with rfl | rfl | rfl <;> assumption)
  by_cases h0 : vol p q s = 0
  · have hf : fbO p q s r ≠ none := fun h => (fb_none h).1 h0
    rw [if_neg fun h => hf h.1]
    have t1 : ∀ k : Rat, Tw k (stgs (ws'.map gw) [p, q, s]) := fun k => tw_stgs ⟨by
      simp only [List.pairwise_cons, List.mem_singleton, forall_eq, List.not_mem_nil, false_implies, implies_true, List.Pairwise.nil, and_true]
      rw [h0]; grind, by simp [Tw]⟩
    have a1 := t1 1
    have a2 := t1 (-1)
    have ah : ∀ x, x ∈ stgs (ws'.map gw) [p, q, s] → Ahd x := fun x hx => hA x (stgs_aP _ _ x hx)
    generalize stgs (ws'.map gw) [p, q, s] = l at *
    cases l with
    | nil => rfl
    | cons c l =>
      refine cnt_flat (ah c (by simp)) l (fun x hx => ah x (by simp [hx])) ?_
      exact (a1.1.and a2.1).imp fun {a b} ⟨k1, k2⟩ => by grind
  have hPl : ∀ x, x ∈ aP (ws'.map gw) [p, q, s] → (whole p q s).dot x = vol p q s := aP_all (P := fun x => (whole p q s).dot x = vol p q s) (fun u a o _ _ ha ho => by
    have e : (whole p q s).dot (btV u a o) = bt u ((whole p q s).dot a) ((whole p q s).dot o) := by simp only [btV, bt, V.dot]; grind
    show (whole p q s).dot (btV u a o) = _
    rw [e, ha, ho, bt_self]) _ _ (fun x hx => by
      have := whole_dots p q s
      simp at hx; rcases hx with rfl | rfl | rfl
      · exact this.1
      · exact this.2.1
      · exact this.2.2)
  obtain ⟨t, ht, sg⟩ := near_ray r hr (whole p q s :: (ws'.map (wf p q s) ++ (aP (ws'.map gw) [p, q, s]).flatMap fun a => (aP (ws'.map gw) [p, q, s]).map fun b => a.crs b))
  have sgw := sg (whole p q s) (by simp)
  have sgf : ∀ w, w ∈ ws' → sgn ((wf p q s w).dot t) = (wf p q s w).mv r := fun w hw => sg _ (by simp; exact .inr (.inl ⟨w, hw, rfl⟩))
  let G : V → Prop := fun x => x ∈ aP (ws'.map gw) [p, q, s]
  have nr : Nr r t G := ⟨hr, ht, hA, fun a b ha hb => sg _ (List.mem_cons_of_mem _ (List.mem_append.mpr (.inr (List.mem_flatMap.mpr ⟨a, ha, List.mem_map.mpr ⟨b, hb, rfl⟩⟩))))⟩
  have gn : Gn t G := fun u v hu hv h => by
    have z := nr.sg u v hu hv
    rw [h] at z
    have z0 : sgn (0 : Rat) = 0 := by rw [sgn_eq]; rfl
    rw [z0] at z
    exact crs_zero h0 (hPl u hu) (hPl v hv) (mv_zero hr z.symm)
  have gp : G p := aP_sub _ _ _ (by simp)
  have gq : G q := aP_sub _ _ _ (by simp)
  have gs : G s := aP_sub _ _ _ (by simp)
  obtain ⟨f1, f2, f3⟩ := fb_tr nr gp gq gs h0 sgw
  let K : (V → Rat) → Prop := fun g => ∀ w, w ∈ ws' → g = gw w → 0 ≤ sgn (vol p q s) * (wf p q s w).mv r
  have wd : ∀ w v, G v → (V.smul (vol p q s) (wf p q s w)).dot v = (vol p q s * vol p q s) * gw w v := fun w v hv => by
    rw [smul_dot, wf_dot w (hPl v hv)]; grind
  have vv : 0 < vol p q s * vol p q s := by
    rcases rat_tri h0 with k | k
    · have := Rat.mul_pos (show 0 < -vol p q s by grind) (show 0 < -vol p q s by grind)
      grind
    · exact Rat.mul_pos k k
  have le1 : ∀ {w v}, G v → gw w v ≤ 0 → (V.smul (vol p q s) (wf p q s w)).dot v ≤ 0 := fun {w v} hv h => by
    rw [wd w v hv]
    have := Rat.mul_nonneg (Rat.le_of_lt vv) (show 0 ≤ -gw w v by grind)
    grind
  have ge1 : ∀ {w v}, G v → 0 ≤ gw w v → 0 ≤ (V.smul (vol p q s) (wf p q s w)).dot v := fun {w v} hv h => by
    rw [wd w v hv]
    exact Rat.mul_nonneg (Rat.le_of_lt vv) h
  have sgm : ∀ w, w ∈ ws' → (sgn (vol p q s) * (wf p q s w).mv r < 0 → (V.smul (vol p q s) (wf p q s w)).dot t < 0) ∧ (0 < sgn (vol p q s) * (wf p q s w).mv r → 0 < (V.smul (vol p q s) (wf p q s w)).dot t) := fun w hw => by
    rw [← sgf w hw, smul_dot]
    generalize (wf p q s w).dot t = x
    generalize vol p q s = d at *
    rw [sgn_eq, sgn_eq]
    have m1 : 0 < d → 0 < x → 0 < d * x := Rat.mul_pos
    have m2 : d < 0 → x < 0 → 0 < d * x := fun a b => by
      have := Rat.mul_pos (show 0 < -d by grind) (show 0 < -x by grind)
      grind
    have m3 : 0 < d → x < 0 → d * x < 0 := fun a b => by
      have := Rat.mul_pos a (show 0 < -x by grind)
      grind
    have m4 : d < 0 → 0 < x → d * x < 0 := fun a b => by
      have := Rat.mul_pos (show 0 < -d by grind) b
      grind
    by_cases a1 : 0 < d <;> by_cases a2 : d < 0 <;> by_cases a3 : 0 < x <;> by_cases a4 : x < 0 <;> simp [a1, a2, a3, a4] <;> grind
  have main := wP_stgs gn K (ws'.map gw) [p, q, s] (fun g hg => by
      obtain ⟨w, _, rfl⟩ := List.mem_map.mp hg
      exact lin_gw w) (fun g hg hK => by
      obtain ⟨w, hwm, rfl⟩ := List.mem_map.mp hg
      have k := hK w hwm rfl
      by_cases k0 : (wf p q s w).mv r = 0
      · refine .inr fun v hv => ?_
        obtain ⟨z1, z2, z3⟩ := mv_zero hr k0
        have e := wf_dot w (hPl v hv)
        have e2 : (wf p q s w).dot v = 0 := by simp only [V.dot]; rw [z1, z2, z3]; grind
        rw [e2] at e
        rcases Rat.mul_eq_zero.mp e.symm with z | z
        · exact absurd z h0
        · exact z
      · refine .inl fun q' a b hq' ha hb k1 k2 k3 => ?_
        have kp : 0 < sgn (vol p q s) * (wf p q s w).mv r := by
          have : sgn (vol p q s) * (wf p q s w).mv r ≠ 0 := fun z => by
            rcases Int.mul_eq_zero.mp z with z | z
            · exact h0 ((sgn_zero_iff _).mp z)
            · exact k0 z
          omega
        exact tr_zero ht (hA _ hq') (hA _ ha) (hA _ hb) ((sgm w hwm).2 kp) (le1 hq' k1) (le1 ha k2) (le1 hb k3)) (fun g hg hK => by
      obtain ⟨w0, hw0, rfl⟩ := List.mem_map.mp hg
      have : ∃ w, w ∈ ws' ∧ gw w0 = gw w ∧ sgn (vol p q s) * (wf p q s w).mv r < 0 := by
        apply Classical.byContradiction
        intro hc
        refine hK fun w hw he => ?_
        have : ¬ sgn (vol p q s) * (wf p q s w).mv r < 0 := fun h => hc ⟨w, hw, he, h⟩
        omega
      obtain ⟨w, hwm, he, hk⟩ := this
      rw [he]
      intro q' a b hq' ha hb k1 k2 k3
      exact tr_zero' ht (hA _ hq') (hA _ ha) (hA _ hb) ((sgm w hwm).1 hk) (ge1 hq' k1) (ge1 ha k2) (ge1 hb k3)) (fun x hx => hx)
  have allK : (∀ g, g ∈ ws'.map gw → K g) ↔ ∀ w, w ∈ ws' → 0 ≤ sgn (vol p q s) * (wf p q s w).mv r := by
    constructor
    · intro h w hw
      exact h (gw w) (List.mem_map.mpr ⟨w, hw, rfl⟩) w hw rfl
    · intro h g _ w hw _
      exact h w hw
  have seen : ∀ c, G c → wP t c [p, q, s] = tr t p q s := fun c hc => by
    rw [wP_from gn gp hc [p, q, s] (fun x hx => by simp at hx; rcases hx with rfl | rfl | rfl <;> assumption), wP_fan]
    simp
  have told : (fbO p q s r = none ∧ firstW p q s r 0 ws = none) ↔ (tr t p q s ≠ 0 ∧ ∀ g, g ∈ ws'.map gw → K g) := by
    rw [allK]
    constructor
    · rintro ⟨h1, h2⟩
      have e := f3 h1
      refine ⟨by rw [f1 h1]; exact fun z => h0 ((sgn_zero_iff _).mp z), fun w hwm => ?_⟩
      have := (firstW_none ws 0).mp h2 w ((hw w).mp hwm)
      rw [e] at this
      rw [Int.mul_comm]; exact this
    · rintro ⟨h1, h2⟩
      have hn : fbO p q s r = none := by
        apply Classical.byContradiction
        intro hc
        exact h1 (f2 hc)
      refine ⟨hn, (firstW_none ws 0).mpr fun w hwm => ?_⟩
      rw [f3 hn, Int.mul_comm]
      exact h2 w ((hw w).mpr hwm)
  have tt : Tw (vol p q s) (stgs (ws'.map gw) [p, q, s]) := tw_stgs ⟨by
      simp only [List.pairwise_cons, List.mem_singleton, forall_eq, List.not_mem_nil, false_implies, implies_true, List.Pairwise.nil, and_true]
      exact Rat.le_of_lt vv, by simp [Tw]⟩
  have gl : ∀ x, x ∈ stgs (ws'.map gw) [p, q, s] → G x := fun x hx => stgs_aP _ _ x hx
  have sgd : sgn (vol p q s) * sgn (vol p q s) = 1 := by
    rw [sgn_eq]
    rcases rat_tri h0 with k | k
    · have : ¬ 0 < vol p q s := by grind
      simp [k, this]
    · simp [k]
  have fin : ∀ c, G c → sgn (vol p q s) * wP t c (stgs (ws'.map gw) [p, q, s]) = if fbO p q s r = none ∧ firstW p q s r 0 ws = none then 1 else 0 := fun c hc => by
    obtain ⟨m1, m2⟩ := main c hc
    by_cases hk : ∀ g, g ∈ ws'.map gw → K g
    · rw [m1 hk, seen c hc]
      by_cases hn : fbO p q s r = none
      · rw [if_pos (told.mpr ⟨by rw [f1 hn]; exact fun z => h0 ((sgn_zero_iff _).mp z), hk⟩), f1 hn, sgd]
      · rw [if_neg fun h => hn h.1, f2 hn]; simp
    · rw [m2 hk, if_neg fun h => hk (told.mp h).2]; simp
  generalize stgs (ws'.map gw) [p, q, s] = l at *
  cases l with
  | nil =>
    have := fin p gp
    show 0 = _
    have e : wP t p ([] : List V) = 0 := rfl
    rw [e] at this
    split
    · rename_i h; rw [if_pos h] at this; simp at this
    · rfl
  | cons c l =>
    have e := fin c (gl c (by simp))
    rw [wP_fan, cnt_tr nr h0 (gl c (by simp)) l (fun x hx => gl x (by simp [hx])) tt.1] at e
    show cntF r c l = _
    split
    · rename_i h; rw [if_pos h] at e; omega
    · rename_i h; rw [if_neg h] at e; omega
end Q.K26
end

section
set_option maxRecDepth 100000
set_option maxHeartbeats 4000000
set_option exponentiation.threshold 70
/-! U26a: the tape and what is picked from it. -/
namespace Q.K26
open PySem L2 Q
def pk1 : St := (.ite (.and (.tru (.cmp .eq (.ixv 0 (.cst (.int 2))) (.cst (.int 0)))) (.tru (.cmp .lt (.ixv 0 (.cst (.int 1))) (.blt .len (.cons (.ixv 0 (.cst (.int 0))) .nil))))) (.seq (.asv 3 (.idx (.ixv 0 (.cst (.int 0))) (.ixv 0 (.cst (.int 1))))) (.seq (.set 0 (.cst (.int 1)) (.bin .add (.ixv 0 (.cst (.int 1))) (.cst (.int 1)))) (.seq (.set 0 (.cst (.int 3)) (.bin .mod (.blt .int (.cons (.bin .add (.bin .add (.bin .mul (.ixv 0 (.cst (.int 3))) (.cst (.int 69621))) (.var 3)) (.cst (.int 11))) .nil)) (.cst (.int 2147483629)))) (.seq (.ite (.tru (.cmp .ge (.var 3) (.bin .pow (.cst (.int 10)) (.cst (.int 18))))) (.seq (.set 0 (.cst (.int 2)) (.var 3)) .nil) .nil) .nil)))) .nil)
def pk2 : St := (.seq (.ite (.tru (.cmp .gt (.ixv 0 (.cst (.int 2))) (.cst (.int 0)))) (.seq (.asv 4 (.bin .mod (.blt .int (.cons (.ixv 0 (.cst (.int 2))) .nil)) (.var 1))) (.seq (.set 0 (.cst (.int 2)) (.bin .fdiv (.ixv 0 (.cst (.int 2))) (.var 1))) (.seq (.ret (.var 4)) .nil))) .nil) (.seq (.set 0 (.cst (.int 4)) (.bin .add (.ixv 0 (.cst (.int 4))) (.cst (.int 1)))) (.seq (.asv 2 (.bin .mod (.blt .int (.cons (.bin .mul (.blt .int (.cons (.bin .add (.ixv 0 (.cst (.int 3))) (.bin .mul (.cst (.int 7919)) (.ixv 0 (.cst (.int 4))))) .nil)) (.cst (.int 48271))) .nil)) (.cst (.int 2147483647)))) (.seq (.asv 2 (.bin .mod (.blt .int (.cons (.bin .mul (.var 2) (.bin .add (.bin .fdiv (.var 2) (.cst (.int 1009))) (.cst (.int 69621)))) .nil)) (.cst (.int 2147483647)))) (.seq (.asv 2 (.bin .mod (.blt .int (.cons (.bin .mul (.var 2) (.bin .add (.bin .fdiv (.var 2) (.cst (.int 2003))) (.cst (.int 40692)))) .nil)) (.cst (.int 2147483399)))) (.seq (.ret (.bin .mod (.blt .int (.cons (.bin .fdiv (.var 2) (.cst (.int 16))) .nil)) (.var 1))) .nil))))))
section
variable {c : Env} {L : Nat}
theorem pick1 {m : Nat} {bx : List (List D)} (many : Int) (h : Hd m bx) : ∃ x3 bx', evS c L pk1 ⟨[some (.box 0), some (.int many), none, none, none], bx⟩ = .ok .nx ⟨[some (.box 0), some (.int many), none, x3, none], bx'⟩ ∧ Hd m bx' := by
  obtain ⟨cells, a, h2, h3, h4, rfl, hc, a0, a1, b0, g0, g1, f0, f1⟩ := h
  by_cases e1 : h2 = 0
  · subst e1
    by_cases e2 : a < cells.length
    · obtain ⟨x, hx, hat⟩ := at_cells a0 e2
      have m1 : mulOk h3 69621 = true := ok_mul (by omega) (by omega)
      have p1 : powOk 10 18 = true := by decide
      have q := fm (a := h3 * 69621 + x + 11) (b := 2147483629) (by omega)
      by_cases e3 : (1000000000000000000 : Int) ≤ x
      · refine ⟨some (.int x), hb (cells.map .int) (a + 1) x ((h3 * 69621 + x + 11).fmod 2147483629) h4, ?_, cells, a + 1, x, _, h4, rfl, hc, by omega, by omega, hc x hx, q.1, by omega, f0, f1⟩
        simp [pk1, e2, hat, m1, p1, e3]
      · refine ⟨some (.int x), hb (cells.map .int) (a + 1) 0 ((h3 * 69621 + x + 11).fmod 2147483629) h4, ?_, cells, a + 1, 0, _, h4, rfl, hc, by omega, by omega, by omega, q.1, by omega, f0, f1⟩
        simp [pk1, e2, hat, m1, p1, e3]
    · refine ⟨none, _, ?_, cells, a, 0, h3, h4, rfl, hc, a0, a1, b0, g0, g1, f0, f1⟩
      simp [pk1, e2]
  · refine ⟨none, _, ?_, cells, a, h2, h3, h4, rfl, hc, a0, a1, b0, g0, g1, f0, f1⟩
    simp [pk1, e1]
theorem pick2 {m : Nat} {bx : List (List D)} {many : Int} (hm : m < 2 ^ 40) (m0 : 0 < many) (m1 : many < 2 ^ 60) (x3 : Option D) (h : Hd m bx) : ∃ l r bx', evS c L pk2 ⟨[some (.box 0), some (.int many), none, x3, none], bx⟩ = .ok (.rt (.int r)) ⟨l, bx'⟩ ∧ 0 ≤ r ∧ r < many ∧ Hd (m + 1) bx' := by
  obtain ⟨cells, a, h2, h3, h4, rfl, hc, a0, a1, b0, g0, g1, f0, f1⟩ := h
  have n0 : many ≠ 0 := by omega
  by_cases e1 : 0 < h2
  · have q := fm (a := h2) m0
    have k1 := ok_div m0 (by omega)
    have k2 : 0 ≤ h2.fdiv many := by rw [Int.fdiv_eq_ediv_of_nonneg _ (by omega)]; exact Int.ediv_nonneg b0 (by omega)
    refine ⟨[some (.box 0), some (.int many), none, x3, some (.int (h2.fmod many))], h2.fmod many, hb (cells.map .int) a (h2.fdiv many) h3 h4, ?_, q.1, q.2, cells, a, _, h3, h4, rfl, hc, a0, a1, k2, g0, g1, f0, by omega⟩
    simp [pk2, e1, n0, k1]
  · have k1 : mulOk 7919 (h4 + 1) = true := ok_mul (by omega) (by omega)
    obtain ⟨n1, hn1⟩ : ∃ n1, n1 = ((h3 + 7919 * (h4 + 1)) * 48271).fmod 2147483647 := ⟨_, rfl⟩
    have q1 := fm (a := (h3 + 7919 * (h4 + 1)) * 48271) (b := 2147483647) (by omega)
    rw [← hn1] at q1
    have k2 : mulOk (h3 + 7919 * (h4 + 1)) 48271 = true := ok_mul (by omega) (by omega)
    have k3 : divOk 1009 = true := ok_div (by omega) (by omega)
    have w1 : 0 ≤ n1.fdiv 1009 ∧ n1.fdiv 1009 ≤ n1 := by rw [Int.fdiv_eq_ediv_of_nonneg _ (by omega)]; omega
    have k4 : mulOk n1 (n1.fdiv 1009 + 69621) = true := ok_mul (by omega) (by omega)
    obtain ⟨n2, hn2⟩ : ∃ n2, n2 = (n1 * (n1.fdiv 1009 + 69621)).fmod 2147483647 := ⟨_, rfl⟩
    have q2 := fm (a := n1 * (n1.fdiv 1009 + 69621)) (b := 2147483647) (by omega)
    rw [← hn2] at q2
    have k5 : divOk 2003 = true := ok_div (by omega) (by omega)
    have w2 : 0 ≤ n2.fdiv 2003 ∧ n2.fdiv 2003 ≤ n2 := by rw [Int.fdiv_eq_ediv_of_nonneg _ (by omega)]; omega
    have k6 : mulOk n2 (n2.fdiv 2003 + 40692) = true := ok_mul (by omega) (by omega)
    obtain ⟨n3, hn3⟩ : ∃ n3, n3 = (n2 * (n2.fdiv 2003 + 40692)).fmod 2147483399 := ⟨_, rfl⟩
    have k7 : divOk 16 = true := ok_div (by omega) (by omega)
    have q4 := fm (a := n3.fdiv 16) m0
    refine ⟨[some (.box 0), some (.int many), some (.int n3), x3, none], (n3.fdiv 16).fmod many, hb (cells.map .int) a h2 h3 (h4 + 1), ?_, q4.1, q4.2, cells, a, h2, h3, _, rfl, hc, a0, a1, b0, g0, g1, by omega, by omega⟩
    simp [pk2, e1, k1, k2, ← hn1, k3, k4, ← hn2, k5, k6, ← hn3, k7, n0]
end
section
variable {L : Nat}
theorem pick_ok {n m : Nat} (hn : 1 ≤ n) {bx : List (List D)} {many : Int} (hm : m < 2 ^ 40) (m0 : 0 < many) (m1 : many < 2 ^ 60) (h : Hd m bx) : ∃ r bx', callN prg.tb prg.gb L n 52 [.box 0, .int many] bx = .ok (.int r) bx' ∧ 0 ≤ r ∧ r < many ∧ Hd (m + 1) bx' := by
  obtain ⟨j, rfl⟩ : ∃ j, n = j + 1 := ⟨n - 1, by omega⟩
  obtain ⟨x3, b1, e1, h1⟩ := pick1 (c := cc L j) (L := L) many h
  obtain ⟨l, r, b2, e2, r0, r1, h2⟩ := pick2 (c := cc L j) (L := L) hm m0 m1 x3 h1
  refine ⟨r, b2, ?_, r0, r1, h2⟩
  rw [callN_eq (f := ⟨2, 5, i52⟩) rfl]
  refine runF_rt (s := ⟨l, b2⟩) rfl ?_
  rw [show (Fn.mk 2 5 i52).body = .seq pk1 pk2 from rfl]
  show evS (cc L j) L (.seq pk1 pk2) ⟨[some (.box 0), some (.int many), none, none, none], bx⟩ = _
  rw [es_seq, e1, Res.bnd_ok, seqK_nx, e2]
theorem pick_r {n m : Nat} (hn : 1 ≤ n) {bx : List (List D)} {many : Int} (hm : m < 2 ^ 40) (m0 : 0 < many) (m1 : many < 2 ^ 60) (h : Hd m bx) : ∃ r bx', (∀ l, callR (cc L n) 52 [.box 0, .int many] ⟨l, bx⟩ = .ok (.int r) ⟨l, bx'⟩) ∧ 0 ≤ r ∧ r < many ∧ Hd (m + 1) bx' := by
  obtain ⟨r, b, h1, h2, h3, h4⟩ := pick_ok (L := L) hn hm m0 m1 h
  exact ⟨r, b, fun l => callR_ok h1, h2, h3, h4⟩
theorem tape_ok {n : Nat} (hn : 1 ≤ n) (ns : List Int) (hl : ns.length ≤ 63) : ∃ bx, callN prg.tb prg.gb L n 51 [.scr ns] [] = .ok (.box 0) bx ∧ Hd 0 bx := by
  obtain ⟨j, rfl⟩ : ∃ j, n = j + 1 := ⟨n - 1, by omega⟩
  have hcut : slD (.scr ns) none (some 63) = some (.own (ns.map .int)) := by
    show some (D.own (cutD (ns.map .int) none (some 63))) = _
    unfold cutD
    have h1 : HT.sIx (ns.map D.int).length 0 none = 0 := rfl
    have h2 : HT.sIx (ns.map D.int).length (ns.map D.int).length (some 63) = ns.length := by
      simp [HT.sIx]; omega
    rw [h1, h2, List.drop_zero, Nat.sub_zero, List.take_of_length_le (by simp)]
  have hlc : evE (cc L j) (.lc (.blt .abs (.cons (.blt .int (.cons (.var 2) .nil)) .nil)) (.var 2) (.its (.slv 0 .nil (.prt (.cst (.int 63))))) .nil [2]) ⟨[some (.scr ns), none, none], []⟩ = .ok (.own ((ns.map fun i => if i < 0 then -i else i).map .int)) ⟨[some (.scr ns), none, none], []⟩ := by
    rw [List.map_map]
    exact lc_mapA ns .int _ (by simp [hcut]) (by show ns.length ≤ 16777216; omega) (by simp [S.frzs, S.frz]) fun i hi => ⟨[some (.scr ns), none, some (.int i)], [some (.scr ns), none, some (.int i)], .int (if i < 0 then -i else i), by simp [asgT, wipeL], by simp, rfl, by simp [wipeL]⟩
  generalize hc : (ns.map fun i => if i < 0 then -i else i) = cells at hlc
  have hlen : cells.length = ns.length := by rw [← hc]; simp
  refine ⟨hb (cells.map .int) 0 0 (31 + (cells.length : Int)) 0, ?_, cells, 0, 0, _, 0, rfl, ?_, by omega, by omega, by omega, by omega, by omega, by omega, by omega⟩
  · rw [callN_eq (f := ⟨1, 3, i51⟩) rfl]
    refine runF_rt (s := ⟨[some (.scr ns), some (.lst (cells.map .int)), none], hb (cells.map .int) 0 0 (31 + (cells.length : Int)) 0⟩) rfl ?_
    simp [i51, startL, hlc]
  · intro x hx
    rw [← hc] at hx
    obtain ⟨i, _, rfl⟩ := List.mem_map.mp hx
    show 0 ≤ (if i < 0 then -i else i)
    split <;> omega
end
end Q.K26
end

section
set_option maxRecDepth 100000
set_option maxHeartbeats 4000000
set_option exponentiation.threshold 70
/-! U26b: the law's own shares. -/
namespace Q.K26
open PySem L2 Q
def shC : E := (.tru (.cmp .gt (.var 1) (.cst (.int 0))))
def shB : St := (.seq (.par 0 1 (.var 1) (.bin .mod (.blt .int (.cons (.var 0) .nil)) (.var 1))) .nil)
theorem sh_loop (c : Env) (L : Nat) (bx : List (List D)) : ∀ (m : Nat) (x y : Nat), y < m → whlL (evT c shC) (evS c L shB) m ⟨[some (.int x), some (.int y)], bx⟩ = .ok .nx ⟨[some (.int (Nat.gcd x y)), some (.int 0)], bx⟩
  | 0, x, y, h => by omega
  | m + 1, x, y, h => by
    by_cases hy : y = 0
    · subst hy
      rw [Nat.gcd_zero_right]
      exact whl_f (by simp [shC])
    · have hm : x % y < m := by have := Nat.mod_lt x (show 0 < y by omega); omega
      have ih := sh_loop c L bx m y (x % y) hm
      rw [show Nat.gcd x y = Nat.gcd y (x % y) by rw [Nat.gcd_comm x y, Nat.gcd_rec y x, Nat.gcd_comm]]
      refine whl_t (s1 := ⟨[some (.int x), some (.int y)], bx⟩) (by simp [shC]; omega) ?_ ih
      have e : (x : Int).fmod (y : Int) = ((x % y : Nat) : Int) := by
        rw [Int.fmod_eq_emod_of_nonneg _ (by omega)]; rfl
      simp [shB, hy, e]
section
variable {L : Nat} (hL : 2 ^ 9000 ≤ L)
include hL
theorem shared_ok {n : Nat} (hn : 1 ≤ n) (a b : Int) (hb : b.natAbs < 2 ^ 9000) : Pu L n 55 [.int a, .int b] (.int (Int.gcd a b)) :=
  Pu.mk (f := ⟨2, 2, i55⟩) (by omega) rfl rfl fun j e bx => by
    have hw := sh_loop (cc L j) L bx L a.natAbs b.natAbs (Nat.lt_of_lt_of_le hb hL)
    have ea : (if a < 0 then -a else a) = (a.natAbs : Int) := by split <;> omega
    have eb : (if b < 0 then -b else b) = (b.natAbs : Int) := by split <;> omega
    refine ⟨[some (.int (Int.gcd a b)), some (.int 0)], ?_⟩
    have hi : i55 = (.seq (.par 0 1 (.blt .abs (.cons (.var 0) .nil)) (.blt .abs (.cons (.var 1) .nil))) (.seq (.whl shC shB) (.seq (.ret (.var 0)) .nil))) := rfl
    simp [hi, startL, ea, eb, hw, Int.gcd]
theorem lover_ok {n : Nat} (hn : 2 ≤ n) (t : Int) (b : Nat) (h0 : b ≠ 0) (hb : b < 2 ^ 9000) : Pu L n 56 [.int t, .int b] (sh (Rat.normalize t b h0)) :=
  Pu.run (f := ⟨2, 3, i56⟩) (by omega) rfl fun m e bx => share_run _ _ _ _ _ _ h0 hb (shared_ok hL (by omega) t b (by simpa using hb) bx)
theorem lover_ok2 {n : Nat} (hn : 2 ≤ n) (t : Int) (b : Nat) (h0 : b ≠ 0) (hb : b < 2 ^ 9000) : Pu L n 56 [.int t, .int (-(b : Int))] (sh (Rat.normalize (-t) b h0)) :=
  Pu.run (f := ⟨2, 3, i56⟩) (by omega) rfl fun m e bx => share_neg _ _ _ _ _ _ h0 hb (shared_ok hL (by omega) t (-(b : Int)) (by rw [Int.natAbs_neg]; simpa using hb) bx)
theorem ltimes_ok {n k m : Nat} (hn : 3 ≤ n) {p q : Rat} (hp : Sz k p) (hq : Sz m q) (h : k + m ≤ 9000) : Pu L n 58 [sh p, sh q] (sh (p * q)) :=
  Pu.mk (f := ⟨2, 2, i58⟩) (by omega) rfl rfl fun j e bx => by
    have hb : p.den * q.den < 2 ^ 9000 := Nat.lt_of_lt_of_le (by rw [Nat.pow_add]; exact Nat.mul_lt_mul'' hp.2 hq.2 : p.den * q.den < 2 ^ (k + m)) (Nat.pow_le_pow_right (by omega) h)
    have h0 : p.den * q.den ≠ 0 := Nat.mul_ne_zero p.den_nz q.den_nz
    have m1 := mulOk_of (i := p.num) (j := q.num) hp.1 hq.1 (by omega)
    have m2 := mulOk_of (i := (p.den : Int)) (j := (q.den : Int)) (k := k) (m := m) (by simpa using hp.2) (by simpa using hq.2) (by omega)
    refine ⟨[some (sh p), some (sh q)], ?_⟩
    have hc := (lover_ok hL (n := j) (by omega) (p.num * q.num) (p.den * q.den) h0 hb).r [some (sh p), some (sh q)] bx
    rw [Rat.mul_def]
    rw [Int.natCast_mul] at hc
    simp [i58, startL, sh, atI, ixN, m1, m2] at hc ⊢
    rw [hc]; rfl
theorem lplus_ok {n k m : Nat} (hn : 3 ≤ n) {p q : Rat} (hp : Sz k p) (hq : Sz m q) (h : k + m ≤ 8000) : Pu L n 57 [sh p, sh q] (sh (p + q)) :=
  Pu.mk (f := ⟨2, 2, i57⟩) (by omega) rfl rfl fun j e bx => by
    have hb : p.den * q.den < 2 ^ 9000 := Nat.lt_of_lt_of_le (by rw [Nat.pow_add]; exact Nat.mul_lt_mul'' hp.2 hq.2 : p.den * q.den < 2 ^ (k + m)) (Nat.pow_le_pow_right (by omega) (by omega))
    have h0 : p.den * q.den ≠ 0 := Nat.mul_ne_zero p.den_nz q.den_nz
    have m1 := mulOk_of (i := p.num) (j := (q.den : Int)) hp.1 (m := m) (by simpa using hq.2) (by omega)
    have m3 := mulOk_of (i := q.num) (j := (p.den : Int)) hq.1 (m := k) (by simpa using hp.2) (by omega)
    have m2 := mulOk_of (i := (p.den : Int)) (j := (q.den : Int)) (k := k) (m := m) (by simpa using hp.2) (by simpa using hq.2) (by omega)
    refine ⟨[some (sh p), some (sh q)], ?_⟩
    have hc := (lover_ok hL (n := j) (by omega) (p.num * q.den + q.num * p.den) (p.den * q.den) h0 hb).r [some (sh p), some (sh q)] bx
    rw [Rat.add_def]
    rw [Int.natCast_mul] at hc
    simp [i57, startL, sh, atI, ixN, m1, m2, m3] at hc ⊢
    rw [hc]; rfl
theorem lminus_ok {n k m : Nat} (hn : 4 ≤ n) {p q : Rat} (hp : Sz k p) (hq : Sz m q) (h : k + m ≤ 8000) : Pu L n 59 [sh p, sh q] (sh (p - q)) :=
  Pu.mk (f := ⟨2, 2, i59⟩) (by omega) rfl rfl fun j e bx => by
    have h1 := lplus_ok hL (n := j) (by omega) hp (sz_neg hq) (by omega)
    rw [← Rat.sub_eq_add_neg] at h1
    refine ⟨[some (sh p), some (sh q)], ?_⟩
    have h2 := h1.r [some (sh p), some (sh q)] bx
    have e1 : sh (-q) = .tup [.int (-q.num), .int q.den] := by unfold sh; rw [Rat.neg_num, Rat.neg_den]
    rw [e1] at h2
    have e3 : ixD (sh q) (.int 0) = some (.int q.num) := rfl
    have e4 : ixD (sh q) (.int 1) = some (.int q.den) := rfl
    have e5 : ctD bx (sh q) = some (sh q) := rfl
    simp [i59, startL, e3, e4, e5]
    rw [h2]; rfl
theorem lpart_ok {n k m : Nat} (hn : 3 ≤ n) {p q : Rat} (hp : Sz k p) (hq : Sz m q) (h : k + m ≤ 9000) (hz : q ≠ 0) : Pu L n 60 [sh p, sh q] (sh (p / q)) :=
  Pu.mk (f := ⟨2, 2, i60⟩) (by omega) rfl rfl fun j e bx => by
    have hq0 : q.num ≠ 0 := fun z => hz (Rat.num_eq_zero.mp z)
    have hb : p.den * q.num.natAbs < 2 ^ 9000 := Nat.lt_of_lt_of_le (by rw [Nat.pow_add]; exact Nat.mul_lt_mul'' hp.2 hq.1 : p.den * q.num.natAbs < 2 ^ (k + m)) (Nat.pow_le_pow_right (by omega) h)
    have h0 : p.den * q.num.natAbs ≠ 0 := Nat.mul_ne_zero p.den_nz (by omega)
    have m1 := mulOk_of (i := p.num) (j := (q.den : Int)) (m := m) hp.1 (by simpa using hq.2) (by omega)
    have m2 := mulOk_of (i := (p.den : Int)) (j := q.num) (k := k) (m := m) (by simpa using hp.2) hq.1 (by omega)
    refine ⟨[some (sh p), some (sh q)], ?_⟩
    rcases Int.lt_or_gt_of_ne hq0 with hn' | hp'
    · have hc := (lover_ok2 hL (n := j) (by omega) (p.num * q.den) (p.den * q.num.natAbs) h0 hb).r [some (sh p), some (sh q)] bx
      rw [div_neg hn' h0]
      rw [show -((p.den * q.num.natAbs : Nat) : Int) = (p.den : Int) * q.num by rw [Int.natCast_mul, ← Int.mul_neg]; congr 1; omega] at hc
      simp [i60, startL, sh, atI, ixN, m1, m2] at hc ⊢
      rw [hc]; rfl
    · have hc := (lover_ok hL (n := j) (by omega) (p.num * q.den) (p.den * q.num.natAbs) h0 hb).r [some (sh p), some (sh q)] bx
      rw [div_pos hp' h0]
      rw [show ((p.den * q.num.natAbs : Nat) : Int) = (p.den : Int) * q.num by rw [Int.natCast_mul]; congr 1; omega] at hc
      simp [i60, startL, sh, atI, ixN, m1, m2] at hc ⊢
      rw [hc]; rfl
theorem lsign_ok {n : Nat} (hn : 1 ≤ n) (q : Rat) : Pu L n 61 [sh q] (.int (sgn q)) :=
  Pu.mk (f := ⟨1, 1, i61⟩) (by omega) rfl rfl fun j e bx => by
    refine ⟨[some (sh q)], ?_⟩
    simp [i61, startL, sh, atI, ixN, sgn]
end
end Q.K26
end

section
set_option maxRecDepth 100000
set_option maxHeartbeats 4000000
set_option exponentiation.threshold 70
/-! U26c: the law's own sums of products, upright points, turns, rays, small moves. -/
namespace Q.K26
open PySem L2 Q
def v3 (v : V) : List D := [sh v.x, sh v.y, sh v.z]
theorem vd_eq (v : V) : v.d = .tup (v3 v) := rfl
def dtB : St := (.seq (.asv 2 (.call 57 (.cons (.var 2) (.cons (.call 58 (.cons (.var 3) (.cons (.var 4) .nil))) .nil)))) .nil)
theorem i62_eq : i62 = .seq (.asv 2 (.tup (.cons (.cst (.int 0)) (.cons (.cst (.int 1)) .nil)))) (.seq (.for (.tup (.cons (.var 3) (.cons (.var 4) .nil))) (.zip (.var 0) (.var 1)) dtB) (.seq (.ret (.var 2)) .nil)) := rfl
section
variable {L : Nat} (hL : 2 ^ 9000 ≤ L)
include hL
theorem ldot_any {n k m : Nat} (hn : 4 ≤ n) {a b : V} (ha : a.Z k) (hb : b.Z m) (h : k + m ≤ 1000) {A : D} (hA : A = .tup (v3 a) ∨ A = .lst (v3 a)) : Pu L n 62 [A, b.d] (sh (a.dot b)) :=
  Pu.mk (f := ⟨2, 5, i62⟩) (by omega) rfl (by rcases hA with rfl | rfl <;> rfl) fun j e bx => by
    have t1 := ltimes_ok hL (n := j) (by omega) ha.1 hb.1 (by omega)
    have t2 := ltimes_ok hL (n := j) (by omega) ha.2.1 hb.2.1 (by omega)
    have t3 := ltimes_ok hL (n := j) (by omega) ha.2.2 hb.2.2 (by omega)
    have s1 := sz_add sz_zero (sz_mul ha.1 hb.1)
    have s2 := sz_add s1 (sz_mul ha.2.1 hb.2.1)
    have p1 := lplus_ok hL (n := j) (by omega) sz_zero (sz_mul ha.1 hb.1) (by omega)
    have p2 := lplus_ok hL (n := j) (by omega) s1 (sz_mul ha.2.1 hb.2.1) (by omega)
    have p3 := lplus_ok hL (n := j) (by omega) s2 (sz_mul ha.2.2 hb.2.2) (by omega)
    have z0 : (D.tup [.int 0, .int 1]) = sh 0 := rfl
    refine ⟨[some A, some b.d, some (sh (a.dot b)), some (sh a.z), some (sh b.z)], ?_⟩
    have hs : startL ⟨2, 5, i62⟩ [A, b.d] = [some A, some b.d, none, none, none] := by rcases hA with rfl | rfl <;> rfl
    have hz : zipD (v3 a) (v3 b) = [.tup [sh a.x, sh b.x], .tup [sh a.y, sh b.y], .tup [sh a.z, sh b.z]] := rfl
    have ib : b.d.items = some (v3 b) := rfl
    have e0 : a.dot b = 0 + a.x * b.x + a.y * b.y + a.z * b.z := by unfold V.dot; rw [Rat.zero_add]
    rw [hs]
    show evS (cc L j) L i62 _ = _
    rw [i62_eq]
    refine seq_of (l1 := [some A, some b.d, some (sh 0), none, none]) (b1 := bx) (by simp [z0]) ?_
    refine seq_of (l1 := [some A, some b.d, some (sh (a.dot b)), some (sh a.z), some (sh b.z)]) (b1 := bx) ?_ (by simp)
    have hI : evI (cc L j) (.zip (.var 0) (.var 1)) ⟨[some A, some b.d, some (sh 0), none, none], bx⟩ = .ok [.tup [sh a.x, sh b.x], .tup [sh a.y, sh b.y], .tup [sh a.z, sh b.z]] ⟨[some A, some b.d, some (sh 0), none, none], bx⟩ := by
      rw [← hz]
      rcases hA with rfl | rfl <;> simp [ib]
    rw [es_for, hI, Res.bnd_ok, e0]
    have ea : ∀ (x y z : D) (r w : Option D), asgT.asgTs (.cons (.var 3) (.cons (.var 4) .nil)) [x, y] ⟨[some A, some b.d, some z, r, w], bx⟩ = some ⟨[some A, some b.d, some z, some x, some y], bx⟩ := fun x y z r w => rfl
    simp [forL, forT, asgT, ea, dtB, t1.r, t2.r, t3.r, p1.r, p2.r, p3.r]
theorem ldot_ok {n k m : Nat} (hn : 4 ≤ n) {a b : V} (ha : a.Z k) (hb : b.Z m) (h : k + m ≤ 1000) : Pu L n 62 [a.d, b.d] (sh (a.dot b)) := ldot_any hL hn ha hb h (.inl rfl)
theorem lcrs_ok {n k m : Nat} (hn : 5 ≤ n) {a b : V} (ha : a.Z k) (hb : b.Z m) (h : k + m ≤ 1000) : Pu L n 63 [a.d, b.d] (a.crs b).d :=
  Pu.mk (f := ⟨2, 10, i63⟩) (by omega) rfl rfl fun j e bx => by
    have t1 := ltimes_ok hL (n := j) (by omega) ha.2.1 hb.2.2 (by omega)
    have t2 := ltimes_ok hL (n := j) (by omega) ha.2.2 hb.2.1 (by omega)
    have t3 := ltimes_ok hL (n := j) (by omega) ha.2.2 hb.1 (by omega)
    have t4 := ltimes_ok hL (n := j) (by omega) ha.1 hb.2.2 (by omega)
    have t5 := ltimes_ok hL (n := j) (by omega) ha.1 hb.2.1 (by omega)
    have t6 := ltimes_ok hL (n := j) (by omega) ha.2.1 hb.1 (by omega)
    have m1 := lminus_ok hL (n := j) (by omega) (sz_mul ha.2.1 hb.2.2) (sz_mul ha.2.2 hb.2.1) (by omega)
    have m2 := lminus_ok hL (n := j) (by omega) (sz_mul ha.2.2 hb.1) (sz_mul ha.1 hb.2.2) (by omega)
    have m3 := lminus_ok hL (n := j) (by omega) (sz_mul ha.1 hb.2.1) (sz_mul ha.2.1 hb.1) (by omega)
    have ea : ∀ (l : List (Option D)) (v : V), asgT (.tup (.cons (.var 4) (.cons (.var 5) (.cons (.var 6) .nil)))) v.d ⟨[some a.d, some b.d, none, none, none, none, none, none, none, none], bx⟩ = some ⟨[some a.d, some b.d, none, none, some (sh v.x), some (sh v.y), some (sh v.z), none, none, none], bx⟩ := fun l v => rfl
    have eb : ∀ (v : V) (x y z : D), asgT (.tup (.cons (.var 7) (.cons (.var 8) (.cons (.var 9) .nil)))) v.d ⟨[some a.d, some b.d, none, none, some x, some y, some z, none, none, none], bx⟩ = some ⟨[some a.d, some b.d, none, none, some x, some y, some z, some (sh v.x), some (sh v.y), some (sh v.z)], bx⟩ := fun v x y z => rfl
    refine ⟨[some a.d, some b.d, some (sh (a.crs b).x), some (sh (a.crs b).y), some (sh a.x), some (sh a.y), some (sh a.z), some (sh b.x), some (sh b.y), some (sh b.z)], ?_⟩
    have hs : startL ⟨2, 10, i63⟩ [a.d, b.d] = [some a.d, some b.d, none, none, none, none, none, none, none, none] := rfl
    rw [hs]
    refine seq_of (l1 := [some a.d, some b.d, none, none, some (sh a.x), some (sh a.y), some (sh a.z), none, none, none]) (b1 := bx) (by simp [ea []]) ?_
    refine seq_of (l1 := [some a.d, some b.d, none, none, some (sh a.x), some (sh a.y), some (sh a.z), some (sh b.x), some (sh b.y), some (sh b.z)]) (b1 := bx) (by simp [eb]) ?_
    simp [t1.r, t2.r, t3.r, t4.r, t5.r, t6.r, m1.r, m2.r, m3.r, V.crs]
    rfl
theorem lturn_ok {n k : Nat} (hn : 6 ≤ n) {a b c : V} (ha : a.Z k) (hb : b.Z k) (hc : c.Z k) (h : k ≤ 150) : Pu L n 64 [a.d, b.d, c.d] (sh (vol a b c)) :=
  Pu.mk (f := ⟨3, 3, i64⟩) (by omega) rfl rfl fun j e bx => by
    have c1 := lcrs_ok hL (n := j) (by omega) hb hc (by omega)
    have c2 := ldot_ok hL (n := j) (by omega) (k := k) ha (V.z_crs hb hc) (by omega)
    refine ⟨[some a.d, some b.d, some c.d], ?_⟩
    simp [i64, startL, c1.r, c2.r, vol]
theorem lray_ok {n : Nat} (hn : 3 ≤ n) {w h i j : Int} (w1 : 1 ≤ w) (w2 : w ≤ 5) (h1 : 1 ≤ h) (h2 : h ≤ 5) (i1 : 0 ≤ i) (i2 : i < w) (j1 : 0 ≤ j) (j2 : j < h) : Pu L n 65 [.int w, .int h, .int i, .int j] (rayV w h i j).d :=
  Pu.mk (f := ⟨4, 4, i65⟩) (by omega) rfl rfl fun m e bx => by
    have c1 := lover_ok hL (n := m) (by omega) (2 * i + 1 - w) 2 (by omega) (Nat.lt_of_lt_of_le (show 2 < 2 ^ 2 by decide) (Nat.pow_le_pow_right (by omega) (by omega)))
    have c2 := lover_ok hL (n := m) (by omega) (2 * j + 1 - h) 2 (by omega) (Nat.lt_of_lt_of_le (show 2 < 2 ^ 2 by decide) (Nat.pow_le_pow_right (by omega) (by omega)))
    have m1 : mulOk 2 i = true := ok_mul (by omega) (by omega)
    have m2 : mulOk 2 j = true := ok_mul (by omega) (by omega)
    refine ⟨[some (.int w), some (.int h), some (.int i), some (.int j)], ?_⟩
    have e2 : (((2 : Nat) : Int)) = 2 := rfl
    rw [e2] at c1 c2
    simp [i65, startL, m1, m2, c1.r, c2.r]
    rfl
theorem lsmall_ok {n k m : Nat} (hn : 5 ≤ n) {a b : V} (ha : a.Z k) (hb : b.Z m) (h : k + m ≤ 1000) : Pu L n 66 [a.d, b.d] (.int (a.mv b)) :=
  Pu.mk (f := ⟨2, 3, i66⟩) (by omega) rfl rfl fun j e bx => by
    have c1 := ldot_ok hL (n := j) (by omega) ha hb h
    have s1 := lsign_ok hL (n := j) (by omega) (a.dot b)
    have s2 := lsign_ok hL (n := j) (by omega) a.x
    have s3 := lsign_ok hL (n := j) (by omega) a.y
    have hs : startL ⟨2, 3, i66⟩ [a.d, b.d] = [some a.d, some b.d, none] := rfl
    have hI : evI (cc L j) (.its (.tup (.cons (.call 62 (.cons (.var 0) (.cons (.var 1) .nil))) (.cons (.ixv 0 (.cst (.int 0))) (.cons (.ixv 0 (.cst (.int 1))) .nil))))) ⟨[some a.d, some b.d, none], bx⟩ = .ok [sh (a.dot b), sh a.x, sh a.y] ⟨[some a.d, some b.d, none], bx⟩ := by
      have i0 : ixD a.d (.int 0) = some (sh a.x) := rfl
      have i1 : ixD a.d (.int 1) = some (sh a.y) := rfl
      simp [c1.r, i0, i1]
    have z : ∀ q : Rat, (q.num = 0) ↔ sgn q = 0 := fun q => by rw [sgn_zero_iff]; exact Rat.num_eq_zero
    have ixq : ∀ q : Rat, ixD (sh q) (.int 0) = some (.int q.num) := fun q => rfl
    have ctq : ∀ q : Rat, ctD bx (sh q) = some (sh q) := fun q => rfl
    unfold V.mv mvS
    by_cases h1 : sgn (a.dot b) = 0
    · have n1 := (z _).mpr h1
      by_cases h2 : sgn a.x = 0
      · have n2 := (z _).mpr h2
        by_cases h3 : sgn a.y = 0
        · have n3 := (z _).mpr h3
          refine ⟨[some a.d, some b.d, some (sh a.y)], ?_⟩
          rw [hs]
          refine seq_of (l1 := [some a.d, some b.d, some (sh a.y)]) (b1 := bx) ?_ (by simp [h1, h2, h3])
          rw [es_for, hI, Res.bnd_ok]
          simp [forL, forT, asgT, n1, n2, n3, ixq, ctq]
        · have n3 : a.y.num ≠ 0 := fun q => h3 ((z _).mp q)
          refine ⟨[some a.d, some b.d, some (sh a.y)], ?_⟩
          rw [hs]
          show evS (cc L j) L (.seq (.for _ _ _) _) _ = _
          rw [es_seq, es_for, hI, Res.bnd_ok]
          simp [forL, forT, asgT, n1, n2, n3, ixq, ctq, s3.r, h1, h2]
      · have n2 : a.x.num ≠ 0 := fun q => h2 ((z _).mp q)
        refine ⟨[some a.d, some b.d, some (sh a.x)], ?_⟩
        rw [hs]
        show evS (cc L j) L (.seq (.for _ _ _) _) _ = _
        rw [es_seq, es_for, hI, Res.bnd_ok]
        simp [forL, forT, asgT, n1, n2, ixq, ctq, s2.r, h1, h2]
    · have n1 : (a.dot b).num ≠ 0 := fun q => h1 ((z _).mp q)
      refine ⟨[some a.d, some b.d, some (sh (a.dot b))], ?_⟩
      rw [hs]
      show evS (cc L j) L (.seq (.for _ _ _) _) _ = _
      rw [es_seq, es_for, hI, Res.bnd_ok]
      simp [forL, forT, asgT, n1, ixq, ctq, s1.r, h1]
end
end Q.K26
end

section
set_option maxRecDepth 100000
set_option maxHeartbeats 4000000
set_option exponentiation.threshold 70
/-! U26d: the law's own edges, owning, weights. -/
namespace Q.K26
open PySem L2 Q
def lownB (p q s r : V) : Bool := decide (vol p q s ≠ 0) && ([q.crs s, s.crs p, p.crs q].all fun f => decide (f.mv r = sgn (vol p q s)))
theorem mv_smneg {f r : V} : (V.smul (-1) f).mv r = -(f.mv r) := by
  have e : ∀ x : Rat, sgn (-1 * x) = -sgn x := fun x => by
    rw [sgn_eq, sgn_eq]
    by_cases h1 : 0 < x
    · have : ¬ 0 < -1 * x := by grind
      have h2 : -1 * x < 0 := by grind
      simp [h1, this, h2]
    · by_cases h2 : x < 0
      · have : 0 < -1 * x := by grind
        simp [h1, h2, this]
      · have : x = 0 := by grind
        subst this
        have e0 : (-1 : Rat) * 0 = 0 := by grind
        simp [e0]
  have d : (V.smul (-1) f).dot r = -1 * f.dot r := smul_dot _ _ _
  unfold V.mv mvS
  rw [d]
  show (if sgn (-1 * f.dot r) ≠ 0 then sgn (-1 * f.dot r) else if sgn (-1 * f.x) ≠ 0 then sgn (-1 * f.x) else sgn (-1 * f.y)) = _
  rw [e, e, e]
  by_cases h1 : sgn (f.dot r) = 0 <;> by_cases h2 : sgn f.x = 0 <;> simp [h1, h2]
theorem crs_anti (a b : V) : b.crs a = V.smul (-1) (a.crs b) := by
  simp only [V.crs, V.smul]
  congr 1 <;> grind
theorem lown_eq {p q s r : V} (hr : r.z = 1) (hp : Ahd p) (hq : Ahd q) (hs : Ahd s) : lownB p q s r = own3 r p q s := by
  have av := area_vol hp hq hs
  have zp : 0 < p.z * q.z * s.z := Rat.mul_pos (Rat.mul_pos hp hq) hs
  unfold lownB own3 ownB edL
  by_cases h : 0 < areaR (sat p) (sat q) (sat s)
  · have hv : 0 < vol p q s := by rw [av]; exact Rat.mul_pos zp h
    have n0 : areaR (sat p) (sat q) (sat s) ≠ 0 := by grind
    have n1 : vol p q s ≠ 0 := by grind
    have sv : sgn (vol p q s) = 1 := by rw [sgn_eq]; simp [hv]
    rw [if_pos h]
    have e : ∀ a b : V, Ahd a → Ahd b → eB r.x r.y (sat a, sat b) = decide ((a.crs b).mv r = 1) := fun a b ha hb => by
      unfold eB
      rw [edgeS_mv hr ha hb]
      have := mv_three ((a.crs b).dot r) (a.crs b).x (a.crs b).y
      unfold V.mv
      rcases this with k | k | k <;> rw [k] <;> rfl
    simp only [List.all_cons, List.all_nil, decide_eq_true n0, decide_eq_true n1, sv, e q s hq hs, e s p hs hp, e p q hp hq]
  · rw [if_neg h]
    by_cases h0 : areaR (sat p) (sat q) (sat s) = 0
    · have hv : vol p q s = 0 := by rw [av, h0]; grind
      simp [h0, hv]
    · have hv : vol p q s < 0 := by
        have := Rat.mul_pos zp (show 0 < -areaR (sat p) (sat q) (sat s) by grind)
        grind
      have n1 : vol p q s ≠ 0 := by grind
      have nn : ¬ 0 < vol p q s := by grind
      have sv : sgn (vol p q s) = -1 := by rw [sgn_eq]; simp [hv, nn]
      have e : ∀ a b : V, Ahd a → Ahd b → eB r.x r.y (sat b, sat a) = decide ((a.crs b).mv r = -1) := fun a b ha hb => by
        unfold eB
        rw [edgeS_mv hr hb ha, crs_anti a b, mv_smneg]
        have := mv_three ((a.crs b).dot r) (a.crs b).x (a.crs b).y
        unfold V.mv
        rcases this with k | k | k <;> rw [k] <;> rfl
      simp only [List.all_cons, List.all_nil, decide_eq_true h0, decide_eq_true n1, sv, e q s hq hs, e s p hs hp, e p q hp hq]
def tv (t : Int) : Rat := (t : Rat)
def sde (t : Int) (p q s : V) : List V := [V.smul (tv t) (q.crs s), V.smul (tv t) (s.crs p), V.smul (tv t) (p.crs q)]
def vl3 (p q s : V) : D := .lst [p.d, q.d, s.d]
theorem tv_sz {t : Int} (h : t.natAbs ≤ 1) : Sz 1 (tv t) := sz_int (by omega) (by omega)
theorem sgn_abs (q : Rat) : (sgn q).natAbs ≤ 1 := by
  rw [sgn_eq]
  by_cases h : 0 < q
  · simp [h]
  · by_cases h2 : q < 0 <;> simp [h, h2]
def edB : St := (.seq (.ex (.mut .append 2 (.cons (.blt .tuple (.cons (.lc (.call 58 (.cons (.tup (.cons (.var 1) (.cons (.cst (.int 1)) .nil))) (.cons (.var 8) .nil))) (.var 8) (.its (.call 63 (.cons (.var 6) (.cons (.var 7) .nil)))) .nil [8]) .nil)) .nil))) .nil)
section
variable {L : Nat} (hL : 2 ^ 9000 ≤ L)
include hL
theorem edStep {j k : Nat} (hj : 5 ≤ j) {A : D} {t : Int} (ht : t.natAbs ≤ 1) {u v : V} (hu : u.Z k) (hv : v.Z k) (hk : k ≤ 100) (xs : List D) (hx : xs.length ≤ 10) (p q s x6 x7 : Option D) (bx : List (List D)) :
    forT (cc L j) L (.tup (.cons (.var 6) (.cons (.var 7) .nil))) edB (.tup [u.d, v.d]) ⟨[some A, some (.int t), some (.own xs), p, q, s, x6, x7, none], bx⟩ = .ok .nx ⟨[some A, some (.int t), some (.own (xs ++ [(V.smul (tv t) (u.crs v)).d])), p, q, s, some u.d, some v.d, none], bx⟩ := by
  have ea : asgT (.tup (.cons (.var 6) (.cons (.var 7) .nil))) (.tup [u.d, v.d]) ⟨[some A, some (.int t), some (.own xs), p, q, s, x6, x7, none], bx⟩ = some ⟨[some A, some (.int t), some (.own xs), p, q, s, some u.d, some v.d, none], bx⟩ := rfl
  have c1 := lcrs_ok hL (n := j) (by omega) hu hv (by omega)
  have hz : (u.crs v).Z 401 := (V.z_crs hu hv).mono (by omega)
  have hlc : evE (cc L j) (.lc (.call 58 (.cons (.tup (.cons (.var 1) (.cons (.cst (.int 1)) .nil))) (.cons (.var 8) .nil))) (.var 8) (.its (.call 63 (.cons (.var 6) (.cons (.var 7) .nil)))) .nil [8]) ⟨[some A, some (.int t), some (.own xs), p, q, s, some u.d, some v.d, none], bx⟩ = .ok (.own ([(u.crs v).x, (u.crs v).y, (u.crs v).z].map fun x => sh (tv t * x))) ⟨[some A, some (.int t), some (.own xs), p, q, s, some u.d, some v.d, none], bx⟩ :=
    lc_mapA [(u.crs v).x, (u.crs v).y, (u.crs v).z] sh (fun x => sh (tv t * x)) (by simp [c1.r]) (by show 3 ≤ 16777216; omega) (by simp [S.frzs, S.frz]) fun x hx' => by
      have zx : Sz 401 x := by
        simp at hx'
        rcases hx' with rfl | rfl | rfl
        · exact hz.1
        · exact hz.2.1
        · exact hz.2.2
      have t1 := ltimes_ok hL (n := j) (by omega) (tv_sz ht) zx (by omega)
      refine ⟨[some A, some (.int t), some (.own xs), p, q, s, some u.d, some v.d, some (sh x)], [some A, some (.int t), some (.own xs), p, q, s, some u.d, some v.d, some (sh x)], sh (tv t * x), by simp [asgT, wipeL], ?_, rfl, by simp [wipeL]⟩
      have e1 : D.tup [.int t, .int 1] = sh (tv t) := sh_int t
      simp [e1, t1.r]
  have e2 : D.tup ([(u.crs v).x, (u.crs v).y, (u.crs v).z].map fun x => sh (tv t * x)) = (V.smul (tv t) (u.crs v)).d := rfl
  have hm : mutD ⟨[some A, some (.int t), some (.own xs), p, q, s, some u.d, some v.d, none], bx⟩ 2 .append [(V.smul (tv t) (u.crs v)).d] = some (.non, ⟨[some A, some (.int t), some (.own (xs ++ [(V.smul (tv t) (u.crs v)).d])), p, q, s, some u.d, some v.d, none], bx⟩) := by
    have hle : xs.length + 1 ≤ LINE := by show _ ≤ 16777216; omega
    have hle2 : xs.length < LINE := by show _ < 16777216; omega
    simp [mutD, hle, hle2]
    try omega
  have hw : ownL ⟨[some A, some (.int t), some (.own xs), p, q, s, some u.d, some v.d, none], bx⟩ 2 = true := rfl
  unfold forT
  rw [ea, Res.opt_some, Res.bnd_ok]
  unfold edB
  rw [es_seq, es_ex, ev_mut, if_pos hw, ea_cons, ev_blt, ea_cons, hlc, Res.bnd_ok, ea_nil, Res.bnd_ok, Res.bnd_ok, frz_own', blt_tupL, e2, Res.opt_some, Res.bnd_ok, ea_nil, Res.bnd_ok, Res.bnd_ok]
  have hf : (V.smul (tv t) (u.crs v)).d.frz = (V.smul (tv t) (u.crs v)).d := rfl
  rw [hf, hm, Res.opt_some, Res.bnd_ok, Res.bnd_ok, Res.bnd_ok, seqK_nx, es_nil]
theorem ledges_ok {n k : Nat} (hn : 7 ≤ n) {p q s : V} (hp : p.Z k) (hq : q.Z k) (hs : s.Z k) (hk : k ≤ 100) : Pu L n 67 [vl3 p q s] (if vol p q s = 0 then .non else .lst ((sde (sgn (vol p q s)) p q s).map V.d)) :=
  Pu.mk (f := ⟨1, 9, i67⟩) (by omega) rfl rfl fun j e bx => by
    have c1 := lturn_ok hL (n := j) (by omega) hp hq hs (by omega)
    have c2 := lsign_ok hL (n := j) (by omega) (vol p q s)
    have ea : asgT (.tup (.cons (.var 3) (.cons (.var 4) (.cons (.var 5) .nil)))) (vl3 p q s) ⟨[some (vl3 p q s), none, none, none, none, none, none, none, none], bx⟩ = some ⟨[some (vl3 p q s), none, none, some p.d, some q.d, some s.d, none, none, none], bx⟩ := rfl
    have hs0 : startL ⟨1, 9, i67⟩ [vl3 p q s] = [some (vl3 p q s), none, none, none, none, none, none, none, none] := rfl
    have gp : ∀ l, gv (some (some (vl3 p q s))) l bx 0 = .ok (vl3 p q s) ⟨l, bx⟩ := fun l => rfl
    have hi : i67 = .seq (.asg (.tup (.cons (.var 3) (.cons (.var 4) (.cons (.var 5) .nil)))) (.var 0)) (.seq (.asv 1 (.call 61 (.cons (.call 64 (.cons (.var 3) (.cons (.var 4) (.cons (.var 5) .nil)))) .nil))) (.seq (.ite (.tru (.cmp .eq (.var 1) (.cst (.int 0)))) (.seq (.ret (.cst .non)) .nil) .nil) (.seq (.asv 2 (.lst .nil)) (.seq (.for (.tup (.cons (.var 6) (.cons (.var 7) .nil))) (.its (.tup (.cons (.tup (.cons (.var 4) (.cons (.var 5) .nil))) (.cons (.tup (.cons (.var 5) (.cons (.var 3) .nil))) (.cons (.tup (.cons (.var 3) (.cons (.var 4) .nil))) .nil))))) edB) (.seq (.ret (.var 2)) .nil))))) := rfl
    have z : sgn (vol p q s) = 0 ↔ vol p q s = 0 := sgn_zero_iff _
    have q1 : evS (cc L j) L (.asg (.tup (.cons (.var 3) (.cons (.var 4) (.cons (.var 5) .nil)))) (.var 0)) ⟨[some (vl3 p q s), none, none, none, none, none, none, none, none], bx⟩ = .ok .nx ⟨[some (vl3 p q s), none, none, some p.d, some q.d, some s.d, none, none, none], bx⟩ := by
      simp [gp, ea]
    have q2 : evS (cc L j) L (.asv 1 (.call 61 (.cons (.call 64 (.cons (.var 3) (.cons (.var 4) (.cons (.var 5) .nil)))) .nil))) ⟨[some (vl3 p q s), none, none, some p.d, some q.d, some s.d, none, none, none], bx⟩ = .ok .nx ⟨[some (vl3 p q s), some (.int (sgn (vol p q s))), none, some p.d, some q.d, some s.d, none, none, none], bx⟩ := by
      simp [c1.r, c2.r]
    by_cases h : vol p q s = 0
    · rw [if_pos h]
      have h' := z.mpr h
      refine ⟨[some (vl3 p q s), some (.int 0), none, some p.d, some q.d, some s.d, none, none, none], ?_⟩
      rw [hs0]; show evS (cc L j) L i67 _ = _; rw [hi]
      refine seq_of q1 (seq_of q2 ?_)
      simp [h']
    · rw [if_neg h]
      have h' : sgn (vol p q s) ≠ 0 := fun x => h (z.mp x)
      have ha := sgn_abs (vol p q s)
      generalize sgn (vol p q s) = t at *
      refine ⟨[some (vl3 p q s), some (.int t), some (.lst ((sde t p q s).map V.d)), some p.d, some q.d, some s.d, some p.d, some q.d, none], ?_⟩
      rw [hs0]; show evS (cc L j) L i67 _ = _; rw [hi]
      refine seq_of q1 (seq_of q2 ?_)
      refine seq_of (l1 := [some (vl3 p q s), some (.int t), none, some p.d, some q.d, some s.d, none, none, none]) (b1 := bx) (by simp [h']) ?_
      refine seq_of (l1 := [some (vl3 p q s), some (.int t), some (.own []), some p.d, some q.d, some s.d, none, none, none]) (b1 := bx) (by simp) ?_
      refine seq_of (l1 := [some (vl3 p q s), some (.int t), some (.own ((sde t p q s).map V.d)), some p.d, some q.d, some s.d, some p.d, some q.d, none]) (b1 := bx) ?_ (by simp)
      have hI : evI (cc L j) (.its (.tup (.cons (.tup (.cons (.var 4) (.cons (.var 5) .nil))) (.cons (.tup (.cons (.var 5) (.cons (.var 3) .nil))) (.cons (.tup (.cons (.var 3) (.cons (.var 4) .nil))) .nil))))) ⟨[some (vl3 p q s), some (.int t), some (.own []), some p.d, some q.d, some s.d, none, none, none], bx⟩ = .ok [.tup [q.d, s.d], .tup [s.d, p.d], .tup [p.d, q.d]] ⟨[some (vl3 p q s), some (.int t), some (.own []), some p.d, some q.d, some s.d, none, none, none], bx⟩ := by simp
      have s1 := edStep hL (j := j) (by omega) (A := vl3 p q s) ha hq hs hk [] (by simp) (some p.d) (some q.d) (some s.d) none none bx
      have s2 := edStep hL (j := j) (by omega) (A := vl3 p q s) ha hs hp hk [(V.smul (tv t) (q.crs s)).d] (by simp) (some p.d) (some q.d) (some s.d) (some q.d) (some s.d) bx
      have s3 := edStep hL (j := j) (by omega) (A := vl3 p q s) ha hp hq hk [(V.smul (tv t) (q.crs s)).d, (V.smul (tv t) (s.crs p)).d] (by simp) (some p.d) (some q.d) (some s.d) (some s.d) (some p.d) bx
      rw [es_for, hI, Res.bnd_ok]
      simp only [forL]
      rw [s1]
      simp only [List.nil_append, Res.bnd_ok, forL]
      rw [s2]
      simp only [List.cons_append, List.nil_append, Res.bnd_ok, forL]
      rw [s3]
      rfl
omit hL in
theorem mv_sde {t : Int} (h : t = 1 ∨ t = -1) (f r : V) : ((V.smul (tv t) f).mv r = 1) ↔ f.mv r = t := by
  rcases h with rfl | rfl
  · have e : V.smul (tv 1) f = f := by
      have : tv 1 = 1 := rfl
      rw [this]
      simp only [V.smul, Rat.one_mul]
    rw [e]
  · have e : tv (-1) = -1 := rfl
    rw [e, mv_smneg]; omega
theorem lowns_ok {n k : Nat} (hn : 8 ≤ n) {p q s r : V} (hp : p.Z k) (hq : q.Z k) (hs : s.Z k) (hk : k ≤ 60) (hr : r.Z 10) : Pu L n 68 [vl3 p q s, r.d] (.bl (lownB p q s r)) :=
  Pu.mk (f := ⟨2, 4, i68⟩) (by omega) rfl rfl fun j e bx => by
    have c1 := ledges_ok hL (n := j) (by omega) hp hq hs (by omega)
    have hs0 : startL ⟨2, 4, i68⟩ [vl3 p q s, r.d] = [some (vl3 p q s), some r.d, none, none] := rfl
    have gp : ∀ l, gv (some (some (vl3 p q s))) l bx 0 = .ok (vl3 p q s) ⟨l, bx⟩ := fun l => rfl
    unfold lownB
    by_cases h : vol p q s = 0
    · rw [if_pos h] at c1
      refine ⟨[some (vl3 p q s), some r.d, some .non, none], ?_⟩
      rw [hs0]
      have fv : (vl3 p q s).frz = vl3 p q s := rfl
      have n1 : opC .notN .non .non = some false := rfl
      simp [i68, gp, fv, c1.r, h, n1]
    · rw [if_neg h] at c1
      have ht : sgn (vol p q s) = 1 ∨ sgn (vol p q s) = -1 := by
        rw [sgn_eq]
        by_cases h1 : 0 < vol p q s
        · simp [h1]
        · have : vol p q s < 0 := by grind
          simp [h1, this]
      have ha := sgn_abs (vol p q s)
      generalize sgn (vol p q s) = t at *
      have hz : ∀ f, f ∈ [q.crs s, s.crs p, p.crs q] → f.Z 241 := fun f hf => by
        simp at hf
        rcases hf with rfl | rfl | rfl
        · exact (V.z_crs hq hs).mono (by omega)
        · exact (V.z_crs hs hp).mono (by omega)
        · exact (V.z_crs hp hq).mono (by omega)
      have hlc : ∀ A : List (Option D), evE (cc L j) (.lc (.cmp .eq (.call 66 (.cons (.var 3) (.cons (.var 1) .nil))) (.cst (.int 1))) (.var 3) (.its (.var 2)) .nil [3]) ⟨[some (vl3 p q s), some r.d, some (.lst ((sde t p q s).map V.d)), none], bx⟩ = .ok (.own ([q.crs s, s.crs p, p.crs q].map fun f => .bl (decide (f.mv r = t)))) ⟨[some (vl3 p q s), some r.d, some (.lst ((sde t p q s).map V.d)), none], bx⟩ := fun A =>
        lc_mapA [q.crs s, s.crs p, p.crs q] (fun f => (V.smul (tv t) f).d) (fun f => .bl (decide (f.mv r = t))) (by simp; rfl) (by show 3 ≤ 16777216; omega) (by simp [S.frzs, S.frz]) fun f hf => by
          have c3 := lsmall_ok hL (n := j) (by omega) (V.z_smul (tv_sz ha) (hz f hf)) hr (by omega)
          refine ⟨[some (vl3 p q s), some r.d, some (.lst ((sde t p q s).map V.d)), some (V.smul (tv t) f).d], [some (vl3 p q s), some r.d, some (.lst ((sde t p q s).map V.d)), some (V.smul (tv t) f).d], .bl (decide (f.mv r = t)), by simp [asgT, wipeL], ?_, rfl, by simp [wipeL]⟩
          have eqI : ∀ i j : Int, opC .eq (.int i) (.int j) = some (i == j) := fun i j => rfl
          have em : ((V.smul (tv t) f).mv r == 1) = decide (f.mv r = t) := by
            rw [Bool.eq_iff_iff]; simp [mv_sde ht]
          simp [c3.r, eqI, -opC_eq, em]
      have hall : bltD .all [.lst ([q.crs s, s.crs p, p.crs q].map fun f => D.bl (decide (f.mv r = t)))] = some (.bl ([q.crs s, s.crs p, p.crs q].all fun f => decide (f.mv r = t))) := by
        rw [blt_all, allB_map (fun f : V => decide (f.mv r = t)), Option.map_some, List.all_map]; rfl
      refine ⟨[some (vl3 p q s), some r.d, some (.lst ((sde t p q s).map V.d)), none], ?_⟩
      rw [hs0]
      have fv : (vl3 p q s).frz = vl3 p q s := rfl
      refine seq_of (l1 := [some (vl3 p q s), some r.d, some (.lst ((sde t p q s).map V.d)), none]) (b1 := bx) (by simp [gp, fv, c1.r]) ?_
      have hb : evE (cc L j) (.blt .all (.cons (.lc (.cmp .eq (.call 66 (.cons (.var 3) (.cons (.var 1) .nil))) (.cst (.int 1))) (.var 3) (.its (.var 2)) .nil [3]) .nil)) ⟨[some (vl3 p q s), some r.d, some (.lst ((sde t p q s).map V.d)), none], bx⟩ = .ok (.bl ([q.crs s, s.crs p, p.crs q].all fun f => decide (f.mv r = t))) ⟨[some (vl3 p q s), some r.d, some (.lst ((sde t p q s).map V.d)), none], bx⟩ := by
        rw [ev_blt, ea_cons, hlc [], Res.bnd_ok, ea_nil, Res.bnd_ok, Res.bnd_ok, frz_own', hall, Res.opt_some]
      show evS (cc L j) L (.seq (.ret (.and (.cmp .notN (.var 2) (.cst .non)) _)) .nil) _ = _
      have n1 : ∀ xs : List D, opC .notN (.lst xs) .non = some true := fun _ => rfl
      simp [hb, h, n1]
end
end Q.K26
end

section
set_option maxRecDepth 100000
set_option maxHeartbeats 4000000
set_option exponentiation.threshold 70
/-! U26e: pieces judged and covering; what is drawn. -/
namespace Q.K26
open PySem L2 Q
/-- a good piece -/
structure Gp (k : Nat) (i : Int) (a b c : Cn) : Prop where
  i0 : 0 ≤ i
  i6 : i ≤ 7
  ha : Hq k a
  hb : Hq k b
  hc : Hq k c
  l1 : a.l.length = b.l.length
  l2 : b.l.length = c.l.length
theorem Hq.cz {k : Nat} {c : Cn} (h : Hq k c) (hk : k ≤ 150) : Cz c := ⟨h.z.1.mono hk, fun q hq => (h.z.2 q hq).mono hk, h.n4⟩
theorem Gp.ok {k : Nat} {i : Int} {a b c : Cn} (g : Gp k i a b c) (hk : k ≤ 150) : (⟨.int i, [a, b, c]⟩ : Pk).Ok := ⟨.inl ⟨i, rfl, by have := g.i0; have := g.i6; omega⟩, .inr rfl, fun x hx => by
  simp at hx
  rcases hx with rfl | rfl | rfl
  · exact ⟨g.ha.cz hk, g.ha.n1, g.ha.z0⟩
  · exact ⟨g.hb.cz hk, g.hb.n1, g.hb.z0⟩
  · exact ⟨g.hc.cz hk, g.hc.n1, g.hc.z0⟩⟩
theorem Gp.is {k : Nat} {i : Int} {a b c : Cn} (g : Gp k i a b c) : isPk ⟨.int i, [a, b, c]⟩ = true := by
  show (isWiD 0 7 (.int i) && (decide (a.l.length = b.l.length) && decide (b.l.length = c.l.length))) = true
  simp [isWiD, g.i0, g.i6, g.l1, g.l2]
theorem er_permD (l : List D) {k : Nat} (h : k < l.length) : (l[k] :: l.eraseIdx k).Perm l := by
  have e : l = l.take k ++ l[k] :: l.drop (k + 1) := by rw [← List.drop_eq_getElem_cons h, List.take_append_drop]
  rw [List.eraseIdx_eq_take_drop_succ]
  conv => rhs; rw [e]
  exact List.perm_middle.symm
theorem ixN_in {n : Nat} {r : Int} (h0 : 0 ≤ r) (h1 : r < n) : ixN n r = some r.toNat := by
  unfold ixN
  simp [h0, h1]
def mxC : E := (.tru (.cmp .gt (.lenv 2) (.cst (.int 0))))
def mxB : St := (.seq (.ex (.mut .append 3 (.cons (.mut .pop 2 (.cons (.call 52 (.cons (.var 0) (.cons (.lenv 2) .nil))) .nil)) .nil))) .nil)
section
variable {L : Nat} (hL : 2 ^ 9000 ≤ L)
include hL
theorem checkPiece_ok {n k : Nat} (hn : 6 ≤ n) (hk : k ≤ 150) {i : Int} {a b c : Cn} (g : Gp k i a b c) : Pu L n 43 [(⟨.int i, [a, b, c]⟩ : Pk).d] .non := fun bx => by
  obtain ⟨m, rfl⟩ : ∃ m, n = m + 1 := ⟨n - 1, by omega⟩
  rw [callN_eq (f := ⟨1, 1, i43⟩) rfl]
  have c1 := isPiece_ok hL (n := m) (by omega) (g.ok hk)
  rw [g.is] at c1
  have gp : ∀ l, gv (some (some (⟨.int i, [a, b, c]⟩ : Pk).d)) l bx 0 = .ok (⟨.int i, [a, b, c]⟩ : Pk).d ⟨l, bx⟩ := fun l => rfl
  have fp : (⟨.int i, [a, b, c]⟩ : Pk).d.frz = (⟨.int i, [a, b, c]⟩ : Pk).d := rfl
  refine runF_nx (s := ⟨[some (⟨.int i, [a, b, c]⟩ : Pk).d], bx⟩) rfl ?_
  have hs : startL ⟨1, 1, i43⟩ [(⟨.int i, [a, b, c]⟩ : Pk).d] = [some (⟨.int i, [a, b, c]⟩ : Pk).d] := rfl
  rw [hs]
  simp [i43, gp, fp, c1.r]
theorem covers_ok {n : Nat} (hn : 8 ≤ n) {i0 : Int} {a b c : Cn} (g : Gp 10 i0 a b c) {w h i j : Int} (w1 : 1 ≤ w) (w2 : w ≤ 5) (h1 : 1 ≤ h) (h2 : h ≤ 5) (i1 : 0 ≤ i) (i2 : i < w) (j1 : 0 ≤ j) (j2 : j < h) :
    Pu L n 50 [(⟨.int i0, [a, b, c]⟩ : Pk).d, .int w, .int h, .tup [.int i, .int j]] (.bl (own3 (rayV w h i j) a.p b.p c.p)) :=
  Pu.mk (f := ⟨4, 4, i50⟩) (by omega) rfl rfl fun m e bx => by
    have c1 := checkPiece_ok hL (n := m) (by omega) (by omega) g
    have c2 := checkSample_ok (L := L) (n := m) (by omega) w1 w2 h1 h2 i1 i2 j1 j2
    have c4 := rayV_ok hL (n := m) (by omega) (w := w) (h := h) (i := i) (j := j) (by omega) (by omega)
    have zr := rayV_z w1 w2 h1 h2 i1 i2 j1 j2
    have c5 := owns_ok hL (n := m) (by omega) (m := .int i0) g.ha g.hb g.hc (by omega) (by omega) (p := ⟨(rayV w h i j).x, (rayV w h i j).y⟩) ⟨zr.1, zr.2.1⟩
    have gp : ∀ l, gv (some (some (⟨.int i0, [a, b, c]⟩ : Pk).d)) l bx 0 = .ok (⟨.int i0, [a, b, c]⟩ : Pk).d ⟨l, bx⟩ := fun l => rfl
    have fp : (⟨.int i0, [a, b, c]⟩ : Pk).d.frz = (⟨.int i0, [a, b, c]⟩ : Pk).d := rfl
    have sl : slD (rayV w h i j).d none (some 2) = some (⟨(rayV w h i j).x, (rayV w h i j).y⟩ : P2).d := rfl
    refine ⟨[some (⟨.int i0, [a, b, c]⟩ : Pk).d, some (.int w), some (.int h), some (.tup [.int i, .int j])], ?_⟩
    unfold own3
    simp [i50, startL, gp, fp, c1.r, c2.r, c4.r, sl, c5.r]
omit hL
theorem any_r {n m : Nat} (hn : 2 ≤ n) {bx : List (List D)} (hm : m < 2 ^ 40) {xs : List D} (x0 : 0 < xs.length) (x1 : xs.length < 100) (h : Hd m bx) : ∃ d bx', d ∈ xs ∧ (∀ l, callR (cc L n) 53 [.box 0, .lst xs] ⟨l, bx⟩ = .ok d ⟨l, bx'⟩) ∧ Hd (m + 1) bx' := by
  obtain ⟨j, rfl⟩ : ∃ j, n = j + 1 := ⟨n - 1, by omega⟩
  obtain ⟨r, b, c1, r0, r1, h1⟩ := pick_r (L := L) (n := j) (by omega) (many := (xs.length : Int)) hm (by omega) (by omega) h
  have hr : r.toNat < xs.length := by omega
  suffices hC : callN prg.tb prg.gb L (j + 1) 53 [.box 0, .lst xs] bx = .ok xs[r.toNat] b from ⟨xs[r.toNat], b, List.getElem_mem hr, fun l => callR_ok hC, h1⟩
  rw [callN_eq (f := ⟨2, 2, i53⟩) rfl]
  refine runF_rt (s := ⟨[some (.box 0), some (.lst xs)], b⟩) rfl ?_
  have ia : atI xs r = some xs[r.toNat] := by
    unfold atI
    rw [ixN_in r0 r1]; simp [hr]
  simp [i53, startL, c1, ia]
theorem mx_loop {j : Nat} (hj : 1 ≤ j) (A : D) : ∀ (k : Nat) (left found : List D) (m : Nat) (bx : List (List D)) (f : Nat), left.length = k → k < f → m + k < 2 ^ 40 → left.length + found.length < 1000 → (∀ d, d ∈ left → d.frz = d) → Hd m bx →
    ∃ ys bx', ys.Perm (found ++ left) ∧ whlL (evT (cc L j) mxC) (evS (cc L j) L mxB) f ⟨[some (.box 0), some A, some (.own left), some (.own found)], bx⟩ = .ok .nx ⟨[some (.box 0), some A, some (.own []), some (.own ys)], bx'⟩ ∧ Hd (m + k) bx'
  | 0, left, found, m, bx, f, hl, hf, hm, hs, hz, h => by
    have : left = [] := List.eq_nil_of_length_eq_zero hl
    subst this
    obtain ⟨f', rfl⟩ : ∃ f', f = f' + 1 := ⟨f - 1, by omega⟩
    exact ⟨found, bx, by simp, whl_f (by simp [mxC]), h⟩
  | k + 1, left, found, m, bx, f, hl, hf, hm, hs, hz, h => by
    obtain ⟨f', rfl⟩ : ∃ f', f = f' + 1 := ⟨f - 1, by omega⟩
    obtain ⟨r, b, c1, r0, r1, h1⟩ := pick_r (L := L) (n := j) (by omega) (many := (left.length : Int)) (by omega) (by omega) (by omega) h
    have hr : r.toNat < left.length := by omega
    have hle : (left.eraseIdx r.toNat).length = k := by rw [List.length_eraseIdx, if_pos hr]; omega
    obtain ⟨ys, b', p1, p2, p3⟩ := mx_loop hj A k (left.eraseIdx r.toNat) (found ++ [left[r.toNat]]) (m + 1) b f' hle (by omega) (by omega) (by simp [hle]; omega) (fun d hd => hz d (List.mem_of_mem_eraseIdx hd)) h1
    refine ⟨ys, b', p1.trans ?_, ?_, by rw [show m + (k + 1) = m + 1 + k by omega]; exact p3⟩
    · rw [List.append_assoc]
      exact List.Perm.append_left _ (er_permD left hr)
    · refine whl_t (s1 := ⟨[some (.box 0), some A, some (.own left), some (.own found)], bx⟩) (by simp [mxC]; omega) ?_ p2
      have q1 : ownL ⟨[some (.box 0), some A, some (.own left), some (.own found)], bx⟩ 2 = true := rfl
      have q2 : ownL ⟨[some (.box 0), some A, some (.own left), some (.own found)], bx⟩ 3 = true := rfl
      have q3 : mutD ⟨[some (.box 0), some A, some (.own left), some (.own found)], b⟩ 2 .pop [.int r] = some (left[r.toNat], ⟨[some (.box 0), some A, some (.own (left.eraseIdx r.toNat)), some (.own found)], b⟩) := by
        have e1 : -(2 ^ 63) ≤ r ∧ r < 2 ^ 63 := ⟨by omega, by omega⟩
        simp [mutD, ixN_in r0 r1, hr]
        omega
      have q4 : mutD ⟨[some (.box 0), some A, some (.own (left.eraseIdx r.toNat)), some (.own found)], b⟩ 3 .append [left[r.toNat]] = some (.non, ⟨[some (.box 0), some A, some (.own (left.eraseIdx r.toNat)), some (.own (found ++ [left[r.toNat]]))], b⟩) := by
        have e1 : found.length < 16777216 := by omega
        simp [mutD, e1]
      have fz := hz _ (List.getElem_mem hr)
      simp [mxB, q1, q2, c1, q3, fz, q4]
theorem mixed_r {n m : Nat} (hn : 2 ≤ n) {bx : List (List D)} (hL : 2 ^ 9000 ≤ L) {xs : List D} (hm : m + xs.length < 2 ^ 40) (x1 : xs.length < 100) (hz : ∀ d, d ∈ xs → d.frz = d) (h : Hd m bx) : ∃ ys bx', ys.Perm xs ∧ (∀ l, callR (cc L n) 54 [.box 0, .lst xs] ⟨l, bx⟩ = .ok (.lst ys) ⟨l, bx'⟩) ∧ Hd (m + xs.length) bx' := by
  obtain ⟨j, rfl⟩ : ∃ j, n = j + 1 := ⟨n - 1, by omega⟩
  have hLb : xs.length < L := Nat.lt_of_lt_of_le (Nat.lt_of_lt_of_le (show xs.length < 2 ^ 10 by omega) (Nat.pow_le_pow_right (by omega) (show 10 ≤ 9000 by omega))) hL
  obtain ⟨ys, b, p1, p2, p3⟩ := mx_loop (L := L) (j := j) (by omega) (.lst xs) xs.length xs [] m bx L rfl hLb hm (by simp; omega) hz h
  suffices hC : callN prg.tb prg.gb L (j + 1) 54 [.box 0, .lst xs] bx = .ok (.lst ys) b from ⟨ys, b, by simpa using p1, fun l => callR_ok hC, p3⟩
  rw [callN_eq (f := ⟨2, 4, i54⟩) rfl]
  refine runF_rt (s := ⟨[some (.box 0), some (.lst xs), some (.own []), some (.lst ys)], b⟩) rfl ?_
  have hs : startL ⟨2, 4, i54⟩ [.box 0, .lst xs] = [some (.box 0), some (.lst xs), none, none] := rfl
  rw [hs]
  refine seq_of (l1 := [some (.box 0), some (.lst xs), some (.own xs), some (.own [])]) (b1 := bx) (by simp) ?_
  refine seq_of (l1 := [some (.box 0), some (.lst xs), some (.own []), some (.own ys)]) (b1 := b) ?_ (by simp)
  rw [es_whl]
  exact p2
end
end Q.K26
end

section
set_option maxRecDepth 100000
set_option maxHeartbeats 4000000
set_option exponentiation.threshold 70
/-! U26f: numbers, sizes, forms, pieces that are drawn. -/
namespace Q.K26
open PySem L2 Q
theorem Hm.up {D j k : Nat} {q : Rat} (h : Hm D j q) (hk : j ≤ k) : Hm D k q := by
  obtain ⟨n, h1, h2⟩ := h
  exact ⟨n, Nat.lt_of_lt_of_le h1 (Nat.pow_le_pow_right (by omega) hk), h2⟩
theorem Hm.s2 {k : Nat} {q : Rat} (h : Hm 2 k q) (hk : 2 ≤ k) : Sz k q :=
  h.sz (by omega) (Nat.lt_of_lt_of_le (show 2 < 2 ^ 2 by decide) (Nat.pow_le_pow_right (by omega) hk))
theorem hm_zero {k : Nat} : Hm 2 k 0 := ⟨0, by exact Nat.two_pow_pos k, by grind⟩
theorem hm_int {k : Nat} {i : Int} (h : (i * 2).natAbs < 2 ^ k) : Hm 2 k (i : Rat) := ⟨i * 2, h, by rw [Rat.intCast_mul]; rfl⟩
/-- a piece as it is drawn -/
structure Pc (t : Tri) : Prop where
  k0 : t.k = 0
  pt : ∀ v, v ∈ [t.p, t.q, t.s] → Hm 2 8 v.x ∧ Hm 2 8 v.y ∧ Hm 2 8 v.z ∧ 1 ≤ v.z
  v1 : 1 ≤ t.vs.length
  v4 : t.vs.length ≤ 4
  v : ∀ x, x ∈ t.vs → Hm 2 8 x.1 ∧ Hm 2 8 x.2.1 ∧ Hm 2 8 x.2.2
structure Ck (k : Nat) (c : Cn) : Prop where
  x : Hm 2 8 c.p.x
  y : Hm 2 8 c.p.y
  z : Hm 2 8 c.p.z
  z1 : 1 ≤ c.p.z
  l : ∀ q, q ∈ c.l → Hm 2 8 q
  n : c.l.length = k
theorem pc_of {k : Nat} (k1 : 1 ≤ k) (k4 : k ≤ 4) {a b c : Cn} (ha : Ck k a) (hb : Ck k b) (hc : Ck k c) : ∃ t : Tri, Pc t ∧ t.d = .tup [.int 0, a.d, b.d, c.d] ∧ t.p = a.p ∧ t.q = b.p ∧ t.s = c.p := by
  obtain ⟨p, l1⟩ := a
  obtain ⟨q, l2⟩ := b
  obtain ⟨s, l3⟩ := c
  obtain ⟨vs, e1, e2, e3, hv⟩ := vals3 (L := 2 ^ 9000) (Nat.le_refl _) (k := k) l1 l2 l3 ha.n hb.n hc.n
  subst e1 e2 e3
  refine ⟨⟨0, p, q, s, vs⟩, ⟨rfl, fun v hv' => ?_, by show 1 ≤ vs.length; omega, by show vs.length ≤ 4; omega, fun x hx => ⟨ha.l _ (List.mem_map.mpr ⟨x, hx, rfl⟩), hb.l _ (List.mem_map.mpr ⟨x, hx, rfl⟩), hc.l _ (List.mem_map.mpr ⟨x, hx, rfl⟩)⟩⟩, rfl, rfl, rfl, rfl⟩
  simp at hv'
  rcases hv' with rfl | rfl | rfl
  · exact ⟨ha.x, ha.y, ha.z, ha.z1⟩
  · exact ⟨hb.x, hb.y, hb.z, hb.z1⟩
  · exact ⟨hc.x, hc.y, hc.z, hc.z1⟩
theorem hv_z {v : V} (h : Hm 2 8 v.x ∧ Hm 2 8 v.y ∧ Hm 2 8 v.z ∧ 1 ≤ v.z) : v.Z 10 := ⟨(h.1.s2 (by omega)).mono (by omega), (h.2.1.s2 (by omega)).mono (by omega), (h.2.2.1.s2 (by omega)).mono (by omega)⟩
theorem Pc.zp {t : Tri} (h : Pc t) : t.p.Z 10 ∧ t.q.Z 10 ∧ t.s.Z 10 := ⟨hv_z (h.pt _ (by simp)), hv_z (h.pt _ (by simp)), hv_z (h.pt _ (by simp))⟩
theorem Pc.ok {t : Tri} (h : Pc t) : t.Ok := ⟨by rw [h.k0]; omega, by rw [h.k0]; omega, h.zp.1, h.zp.2.1, h.zp.2.2, h.v1, h.v4, fun x hx => by
  obtain ⟨a, b, c⟩ := h.v x hx
  exact ⟨(a.s2 (by omega)).mono (by omega), (b.s2 (by omega)).mono (by omega), (c.s2 (by omega)).mono (by omega)⟩⟩
theorem Pc.ahd {t : Tri} (h : Pc t) : Ahd t.p ∧ Ahd t.q ∧ Ahd t.s := by
  have a := (h.pt t.p (by simp)).2.2.2
  have b := (h.pt t.q (by simp)).2.2.2
  have c := (h.pt t.s (by simp)).2.2.2
  unfold Ahd
  exact ⟨by grind, by grind, by grind⟩
theorem Pc.gp {t : Tri} (h : Pc t) : Gp 10 t.k ⟨t.p, t.vs.map (·.1)⟩ ⟨t.q, t.vs.map (·.2.1)⟩ ⟨t.s, t.vs.map (·.2.2)⟩ := by
  have g : ∀ (v : V) (l : List Rat), (Hm 2 8 v.x ∧ Hm 2 8 v.y ∧ Hm 2 8 v.z ∧ 1 ≤ v.z) → (∀ q, q ∈ l → Hm 2 8 q) → 1 ≤ l.length → l.length ≤ 4 → Hq 10 ⟨v, l⟩ := fun v l hv hl h1 h4 =>
    ⟨⟨2, by omega, by omega, hv.1.up (by omega), hv.2.1.up (by omega), hv.2.2.1.up (by omega), fun q hq => (hl q hq).up (by omega)⟩, by show 0 < v.z; have := hv.2.2.2; grind, h1, h4⟩
  refine ⟨by rw [h.k0]; omega, by rw [h.k0]; omega, g _ _ (h.pt _ (by simp)) (fun q hq => ?_) (by simpa using h.v1) (by simpa using h.v4), g _ _ (h.pt _ (by simp)) (fun q hq => ?_) (by simpa using h.v1) (by simpa using h.v4), g _ _ (h.pt _ (by simp)) (fun q hq => ?_) (by simpa using h.v1) (by simpa using h.v4), by simp, by simp⟩
  all_goals obtain ⟨x, hx, rfl⟩ := List.mem_map.mp hq
  · exact (h.v x hx).1
  · exact (h.v x hx).2.1
  · exact (h.v x hx).2.2
section
variable {L : Nat} (hL : 2 ^ 9000 ≤ L)
include hL
theorem pcovers_ok {n : Nat} (hn : 8 ≤ n) {t : Tri} (g : Pc t) {w h i j : Int} (w1 : 1 ≤ w) (w2 : w ≤ 5) (h1 : 1 ≤ h) (h2 : h ≤ 5) (i1 : 0 ≤ i) (i2 : i < w) (j1 : 0 ≤ j) (j2 : j < h) :
    Pu L n 50 [t.d, .int w, .int h, .tup [.int i, .int j]] (.bl (own3 (rayV w h i j) t.p t.q t.s)) := covers_ok hL hn g.gp w1 w2 h1 h2 i1 i2 j1 j2
theorem lpoints_ok {n : Nat} (hn : 1 ≤ n) (t : Tri) : Pu L n 72 [t.d] (.own [t.p.d, t.q.d, t.s.d]) :=
  Pu.mk (f := ⟨1, 2, i72⟩) (by omega) rfl rfl fun j e bx => by
    let ys : List (D × V) := [(t.c1, t.p), (t.c2, t.q), (t.c3, t.s)]
    have hcut : slD t.d (some 1) none = some (.tup [t.c1, t.c2, t.c3]) := rfl
    have ct : ctD bx t.d = some t.d := rfl
    refine ⟨[some t.d, none], ?_⟩
    have hlc : evE (cc L j) (.lc (.ixv 1 (.cst (.int 0))) (.var 1) (.its (.slv 0 (.prt (.cst (.int 1))) .nil)) .nil [1]) ⟨[some t.d, none], bx⟩ = .ok (.own (ys.map fun y => y.2.d)) ⟨[some t.d, none], bx⟩ :=
      lc_mapA ys (fun y => y.1) (fun y => y.2.d) (by simp [hcut, ct, ys]) (by show 3 ≤ 16777216; omega) (by simp [S.frzs, S.frz]) fun y hy => by
        refine ⟨[some t.d, some y.1], [some t.d, some y.1], y.2.d, by simp [asgT, wipeL], ?_, rfl, by simp [wipeL]⟩
        simp [ys] at hy
        rcases hy with rfl | rfl | rfl <;> simp [Tri.c1, Tri.c2, Tri.c3]
    simp [i72, startL, hlc, ys]
theorem number_r {n m : Nat} (hn : 3 ≤ n) (hm : m < 2 ^ 38) {bx : List (List D)} (h : Hd m bx) {z : Int} (z1 : 1 ≤ z) (z4 : z ≤ 4) : ∃ q bx', Hm 2 4 q ∧ (∀ l, callR (cc L n) 70 [.box 0, .int z] ⟨l, bx⟩ = .ok (sh q) ⟨l, bx'⟩) ∧ Hd (m + 2) bx' := by
  obtain ⟨j, rfl⟩ : ∃ j, n = j + 1 := ⟨n - 1, by omega⟩
  obtain ⟨r, b1, d1, u1, v1, e1⟩ := pick_r (L := L) (n := j) (by omega) (many := 2 * z + 1) (by omega) (by omega) (by omega) h
  obtain ⟨d, b2, hd, d2, e2⟩ := any_r (L := L) (n := j) (by omega) (xs := [.int 1, .int 1, .int 1, .int 2]) (by omega) (by simp) (by simp) e1
  obtain ⟨b, hb, rfl⟩ : ∃ b : Nat, (b = 1 ∨ b = 2) ∧ d = .int b := by
    simp at hd
    rcases hd with rfl | rfl
    · exact ⟨1, .inl rfl, rfl⟩
    · exact ⟨2, .inr rfl, rfl⟩
  have b0 : b ≠ 0 := by omega
  have big : b < 2 ^ 9000 := Nat.lt_of_lt_of_le (show b < 2 ^ 2 by omega) (Nat.pow_le_pow_right (by omega) (by omega))
  have c1 := lover_ok hL (n := j) (by omega) (r - z) b b0 big
  have mk : mulOk 2 z = true := ok_mul (by omega) (by omega)
  suffices hC : callN prg.tb prg.gb L (j + 1) 70 [.box 0, .int z] bx = .ok (sh (Rat.normalize (r - z) b b0)) b2 from ⟨_, b2, (norm_hm hb (by omega) b0).1, fun l => callR_ok hC, e2.mono (by omega)⟩
  rw [callN_eq (f := ⟨2, 2, i70⟩) rfl]
  refine runF_rt (s := ⟨[some (.box 0), some (.int z)], b2⟩) rfl ?_
  simp [i70, startL, mk, d1, d2, c1.r]
theorem size_r {n m : Nat} (hn : 2 ≤ n) (hm : m < 2 ^ 38) {bx : List (List D)} (h : Hd m bx) : ∃ w k bx', 1 ≤ w ∧ w ≤ 5 ∧ 1 ≤ k ∧ k ≤ 5 ∧ (∀ l, callR (cc L n) 73 [.box 0] ⟨l, bx⟩ = .ok (.tup [.int w, .int k]) ⟨l, bx'⟩) ∧ Hd (m + 2) bx' := by
  obtain ⟨j, rfl⟩ : ∃ j, n = j + 1 := ⟨n - 1, by omega⟩
  obtain ⟨r, b1, d1, u1, v1, e1⟩ := pick_r (L := L) (n := j) (by omega) (many := 4) (by omega) (by omega) (by omega) h
  obtain ⟨r2, b2, d2, u2, v2, e2⟩ := pick_r (L := L) (n := j) (by omega) (many := 4) (by omega) (by omega) (by omega) e1
  suffices hC : callN prg.tb prg.gb L (j + 1) 73 [.box 0] bx = .ok (.tup [.int (2 + r), .int (2 + r2)]) b2 from ⟨2 + r, 2 + r2, b2, by omega, by omega, by omega, by omega, fun l => callR_ok hC, e2⟩
  rw [callN_eq (f := ⟨1, 1, i73⟩) rfl]
  refine runF_rt (s := ⟨[some (.box 0)], b2⟩) rfl ?_
  simp [i73, startL, d1, d2]
end
end Q.K26
end

section
set_option maxRecDepth 100000
set_option maxHeartbeats 4000000
set_option exponentiation.threshold 70
/-! U26g: forms and pieces that are drawn. -/
namespace Q.K26
open PySem L2 Q
/-- a form as it is drawn -/
structure Fm (f r : V) : Prop where
  x : Hm 2 4 f.x
  y : Hm 2 4 f.y
  z : f.Z 40
  e : Hm 2 4 f.z ∨ f.dot r = 0
theorem sh_neg (q : Rat) : D.tup [.int (0 - q.num), .int q.den] = sh (-q) := by
  unfold sh; rw [Rat.neg_num, Rat.neg_den, Int.zero_sub]
def pcB : St := (.seq (.asv 5 (.bin .add (.cst (.int 1)) (.call 52 (.cons (.var 0) (.cons (.cst (.int 3)) .nil))))) (.seq (.asv 6 (.tup (.cons (.call 70 (.cons (.var 0) (.cons (.cst (.int 4)) .nil))) (.cons (.call 70 (.cons (.var 0) (.cons (.cst (.int 4)) .nil))) (.cons (.tup (.cons (.var 5) (.cons (.cst (.int 1)) .nil))) .nil))))) (.seq (.ex (.mut .append 4 (.cons (.tup (.cons (.var 6) (.cons (.blt .tuple (.cons (.lc (.call 70 (.cons (.var 0) (.cons (.cst (.int 3)) .nil))) (.var 7) (.rng1 (.var 3)) .nil [7]) .nil)) .nil))) .nil))) .nil)))
section
variable {L : Nat} (hL : 2 ^ 9000 ≤ L)
include hL
theorem pc_step {j m : Nat} (hj : 3 ≤ j) (hm : m < 2 ^ 37) {bx : List (List D)} (h : Hd m bx) {k : Int} (k1 : 1 ≤ k) (k4 : k ≤ 4) (n i : Int) (cs : List Cn) (hcs : cs.length < 10) (x2 x5 x6 : Option D) :
    ∃ c y5 y6 bx', Ck k.toNat c ∧ forT (cc L j) L (.var 2) pcB (.int i) ⟨[some (.box 0), some (.int n), x2, some (.int k), some (.own (cs.map Cn.d)), x5, x6, none], bx⟩ = .ok .nx ⟨[some (.box 0), some (.int n), some (.int i), some (.int k), some (.own ((cs ++ [c]).map Cn.d)), y5, y6, none], bx'⟩ ∧ Hd (m + 15) bx' := by
  obtain ⟨r, b1, d1, u1, v1, e1⟩ := pick_r (L := L) (n := j) (by omega) (many := 3) (by omega) (by omega) (by omega) h
  obtain ⟨x, b2, hx, d2, e2⟩ := number_r hL (n := j) (by omega) (by omega) e1 (z := 4) (by omega) (by omega)
  obtain ⟨y, b3, hy, d3, e3⟩ := number_r hL (n := j) (by omega) (by omega) e2 (z := 4) (by omega) (by omega)
  let p : V := ⟨x, y, ((1 + r : Int) : Rat)⟩
  have hrl : (rangeD 0 k.toNat).length = k.toNat := range_len' _ _
  have hrg : rngOk 0 k = true := decide_eq_true (by refine ⟨by omega, by omega, by omega, by omega, ?_⟩; show (k - 0).toNat ≤ 16777216; omega)
  obtain ⟨b', ys, f1, g, rfl, hl, hg, hb⟩ := lc_st (c := cc L j) (elt := .call 70 (.cons (.var 0) (.cons (.cst (.int 3)) .nil))) (tg := .var 7) (it := .rng1 (.var 3)) (own := [7]) (ds := rangeD 0 k.toNat) (l := [some (.box 0), some (.int n), some (.int i), some (.int k), some (.own (cs.map Cn.d)), some (.int (1 + r)), some p.d, none]) (l1 := [some (.box 0), some (.int n), some (.int i), some (.int k), some (.own (cs.map Cn.d)), some (.int (1 + r)), some p.d, none]) (bx := b3) (bx1 := b3)
    (fun i b acc => ∃ g : List Rat, acc = g.map sh ∧ g.length = i ∧ (∀ q, q ∈ g → Hm 2 4 q) ∧ Hd (m + 5 + 2 * i) b) (by simp [hrg]) (by rw [hrl]; show k.toNat ≤ 16777216; omega) (by simp [S.frzs, S.frz]) ⟨[], rfl, rfl, fun q h => by simp at h, e3⟩ fun i' d b acc hd ⟨g, ha, hg1, hg2, hg3⟩ => by
      have hi : i' < k.toNat := by
        have := (List.getElem?_eq_some_iff.mp hd).1
        rwa [hrl] at this
      obtain ⟨q, c2, hq, w1, p6⟩ := number_r hL (n := j) (by omega) (by omega) hg3 (z := 3) (by omega) (by omega)
      refine ⟨[some (.box 0), some (.int n), some (.int i), some (.int k), some (.own (cs.map Cn.d)), some (.int (1 + r)), some p.d, some d], [some (.box 0), some (.int n), some (.int i), some (.int k), some (.own (cs.map Cn.d)), some (.int (1 + r)), some p.d, some d], c2, sh q, by simp [asgT, wipeL], by simp [w1], by simp [wipeL], g ++ [q], by simp [ha], by simp [hg1], fun q' hq' => ?_, p6.mono (by omega)⟩
      rcases List.mem_append.mp hq' with hq' | hq'
      · exact hg2 q' hq'
      · simp at hq'; subst hq'; exact hq
  rw [hrl] at hl hb
  have z1 : (1 : Rat) ≤ ((1 + r : Int) : Rat) := by
    have : ((1 : Int) : Rat) ≤ ((1 + r : Int) : Rat) := Rat.intCast_le_intCast.mpr (by omega)
    exact this
  refine ⟨⟨p, g⟩, some (.int (1 + r)), some p.d, b', ⟨hx.up (by omega), hy.up (by omega), hm_int (by omega), z1, fun q hq => (hg q hq).up (by omega), hl⟩, ?_, hb.mono (by omega)⟩
  unfold forT
  have ea : asgT (.var 2) (.int i) ⟨[some (.box 0), some (.int n), x2, some (.int k), some (.own (cs.map Cn.d)), x5, x6, none], bx⟩ = some ⟨[some (.box 0), some (.int n), some (.int i), some (.int k), some (.own (cs.map Cn.d)), x5, x6, none], bx⟩ := rfl
  rw [ea, Res.opt_some, Res.bnd_ok]
  have s1 : evS (cc L j) L pcB ⟨[some (.box 0), some (.int n), some (.int i), some (.int k), some (.own (cs.map Cn.d)), x5, x6, none], bx⟩ = .ok .nx ⟨[some (.box 0), some (.int n), some (.int i), some (.int k), some (.own ((cs ++ [(⟨p, g⟩ : Cn)]).map Cn.d)), some (.int (1 + r)), some p.d, none], b'⟩ := by
    refine seq_of (l1 := [some (.box 0), some (.int n), some (.int i), some (.int k), some (.own (cs.map Cn.d)), some (.int (1 + r)), x6, none]) (b1 := b1) (by simp [d1]) (seq_of (l1 := [some (.box 0), some (.int n), some (.int i), some (.int k), some (.own (cs.map Cn.d)), some (.int (1 + r)), some p.d, none]) (b1 := b3) ?_ (seq_of (l1 := [some (.box 0), some (.int n), some (.int i), some (.int k), some (.own ((cs ++ [(⟨p, g⟩ : Cn)]).map Cn.d)), some (.int (1 + r)), some p.d, none]) (b1 := b') ?_ (by simp)))
    · have e : D.tup [sh x, sh y, .tup [.int (1 + r), .int 1]] = p.d := rfl
      simp [d2, d3, e]
    · have q1 : ownL ⟨[some (.box 0), some (.int n), some (.int i), some (.int k), some (.own (cs.map Cn.d)), some (.int (1 + r)), some p.d, none], b3⟩ 4 = true := rfl
      have hm' : mutD ⟨[some (.box 0), some (.int n), some (.int i), some (.int k), some (.own (cs.map Cn.d)), some (.int (1 + r)), some p.d, none], b'⟩ 4 .append [D.tup [p.d, .tup (g.map sh)]] = some (.non, ⟨[some (.box 0), some (.int n), some (.int i), some (.int k), some (.own ((cs ++ [(⟨p, g⟩ : Cn)]).map Cn.d)), some (.int (1 + r)), some p.d, none], b'⟩) := by
        have e1 : cs.length < 16777216 := by omega
        have e2 : D.tup [p.d, .tup (g.map sh)] = (⟨p, g⟩ : Cn).d := rfl
        rw [e2]
        simp [mutD, e1]
      simp [q1, f1, hm']
  rw [s1]
theorem piece_r {n m : Nat} (hn : 4 ≤ n) (hm : m < 2 ^ 36) {bx : List (List D)} (h : Hd m bx) : ∃ t bx', Pc t ∧ (∀ l, callR (cc L n) 71 [.box 0, .int 0] ⟨l, bx⟩ = .ok t.d ⟨l, bx'⟩) ∧ Hd (m + 46) bx' := by
  obtain ⟨j, rfl⟩ : ∃ j, n = j + 1 := ⟨n - 1, by omega⟩
  obtain ⟨r, b1, d1, u1, v1, e1⟩ := pick_r (L := L) (n := j) (by omega) (many := 2) (by omega) (by omega) (by omega) h
  obtain ⟨c1, a5, a6, b2, k1, s1, e2⟩ := pc_step hL (j := j) (by omega) (by omega) e1 (k := 1 + r) (by omega) (by omega) 0 0 [] (by simp) none none none
  obtain ⟨c2, a7, a8, b3, k2, s2, e3⟩ := pc_step hL (j := j) (by omega) (by omega) e2 (k := 1 + r) (by omega) (by omega) 0 1 [c1] (by simp) (some (.int 0)) a5 a6
  obtain ⟨c3, a9, a0, b4, k3, s3, e4⟩ := pc_step hL (j := j) (by omega) (by omega) e3 (k := 1 + r) (by omega) (by omega) 0 2 [c1, c2] (by simp) (some (.int 1)) a7 a8
  obtain ⟨t, ht, td, -, -, -⟩ := pc_of (by omega) (by omega) k1 k2 k3
  suffices hC : callN prg.tb prg.gb L (j + 1) 71 [.box 0, .int 0] bx = .ok t.d b4 from ⟨t, b4, ht, fun l => callR_ok hC, e4.mono (by omega)⟩
  rw [callN_eq (f := ⟨2, 8, i71⟩) rfl]
  refine runF_rt (s := ⟨[some (.box 0), some (.int 0), some (.int 2), some (.int (1 + r)), some (.own ([c1, c2, c3].map Cn.d)), a9, a0, none], b4⟩) rfl ?_
  have hs : startL ⟨2, 8, i71⟩ [.box 0, .int 0] = [some (.box 0), some (.int 0), none, none, none, none, none, none] := rfl
  rw [hs]
  refine seq_of (l1 := [some (.box 0), some (.int 0), none, some (.int (1 + r)), some (.own []), none, none, none]) (b1 := b1) (by simp [d1]) (seq_of (l1 := [some (.box 0), some (.int 0), some (.int 2), some (.int (1 + r)), some (.own ([c1, c2, c3].map Cn.d)), a9, a0, none]) (b1 := b4) ?_ ?_)
  · have hI : evI (cc L j) (.rng1 (.cst (.int 3))) ⟨[some (.box 0), some (.int 0), none, some (.int (1 + r)), some (.own []), none, none, none], b1⟩ = .ok [.int 0, .int 1, .int 2] ⟨[some (.box 0), some (.int 0), none, some (.int (1 + r)), some (.own []), none, none, none], b1⟩ := by
      have r3 : rngOk 0 3 = true := rfl
      have rr : rangeD 0 3 = [.int 0, .int 1, .int 2] := rfl
      simp [r3, rr]
    rw [es_for, hI, Res.bnd_ok]
    show forL (forT (cc L j) L (.var 2) pcB) _ _ = _
    simp only [List.map, List.nil_append, List.cons_append] at s1 s2 s3 ⊢
    simp only [forL]
    rw [s1]
    simp only [Res.bnd_ok, forL]
    rw [s2]
    simp only [Res.bnd_ok, forL]
    rw [s3]
    rfl
  · rw [td]
    have i0 : atI ([c1, c2, c3].map Cn.d) 0 = some c1.d := by show atI (_ :: _) 0 = _; rw [at0]
    have i1 : atI ([c1, c2, c3].map Cn.d) 1 = some c2.d := by show atI (_ :: _ :: _) 1 = _; rw [at1]
    have i2 : atI ([c1, c2, c3].map Cn.d) 2 = some c3.d := by show atI (_ :: _ :: _ :: _) 2 = _; rw [at2]
    simp
theorem form_r {n m : Nat} (hn : 4 ≤ n) (hm : m < 2 ^ 36) {bx : List (List D)} (hh : Hd m bx) {w h i j : Int} (w1 : 1 ≤ w) (w2 : w ≤ 5) (h1 : 1 ≤ h) (h2 : h ≤ 5) (i1 : 0 ≤ i) (i2 : i < w) (j1 : 0 ≤ j) (j2 : j < h) :
    ∃ f bx', Fm f (rayV w h i j) ∧ (∀ l, callR (cc L n) 75 [.box 0, (rayV w h i j).d] ⟨l, bx⟩ = .ok f.d ⟨l, bx'⟩) ∧ Hd (m + 10) bx' := by
  obtain ⟨k, rfl⟩ : ∃ k, n = k + 1 := ⟨n - 1, by omega⟩
  have zr := rayV_z w1 w2 h1 h2 i1 i2 j1 j2
  have rz : (rayV w h i j).z = 1 := rfl
  generalize rayV w h i j = r at *
  obtain ⟨x, b1, hx, d1, e1⟩ := number_r hL (n := k) (by omega) (by omega) hh (z := 4) (by omega) (by omega)
  obtain ⟨y0, b2, hy0, d2, e2⟩ := number_r hL (n := k) (by omega) (by omega) e1 (z := 4) (by omega) (by omega)
  obtain ⟨d, b3, hd, d3, e3⟩ := any_r (L := L) (n := k) (by omega) (xs := [sh 0, sh y0]) (by omega) (by simp) (by simp) e2
  obtain ⟨y, hy, rfl⟩ : ∃ y, Hm 2 4 y ∧ d = sh y := by
    simp at hd
    rcases hd with rfl | rfl
    · exact ⟨0, hm_zero, rfl⟩
    · exact ⟨y0, hy0, rfl⟩
  obtain ⟨c, b4, d4, u4, v4, e4⟩ := pick_r (L := L) (n := k) (by omega) (many := 2) (by omega) (by omega) (by omega) e3
  have z0 : (D.tup [.int 0, .int 1]) = sh 0 := rfl
  have hs : startL ⟨2, 5, i75⟩ [.box 0, r.d] = [some (.box 0), some r.d, none, none, none] := rfl
  have q1 : evS (cc L k) L (.par 2 4 (.call 70 (.cons (.var 0) (.cons (.cst (.int 4)) .nil))) (.call 53 (.cons (.var 0) (.cons (.lst (.cons (.tup (.cons (.cst (.int 0)) (.cons (.cst (.int 1)) .nil))) (.cons (.call 70 (.cons (.var 0) (.cons (.cst (.int 4)) .nil))) .nil))) .nil)))) ⟨[some (.box 0), some r.d, none, none, none], bx⟩ = .ok .nx ⟨[some (.box 0), some r.d, some (sh x), none, some (sh y)], b3⟩ := by
    simp [d1, d2, z0, d3]
  by_cases hc : c = 0
  · subst hc
    obtain ⟨z, b5, hz, d5, e5⟩ := number_r hL (n := k) (by omega) (by omega) e4 (z := 4) (by omega) (by omega)
    suffices hC : callN prg.tb prg.gb L (k + 1) 75 [.box 0, r.d] bx = .ok (⟨x, y, z⟩ : V).d b5 from ⟨⟨x, y, z⟩, b5, ⟨hx, hy, ⟨(hx.s2 (by omega)).mono (by omega), (hy.s2 (by omega)).mono (by omega), (hz.s2 (by omega)).mono (by omega)⟩, .inl hz⟩, fun l => callR_ok hC, e5.mono (by omega)⟩
    rw [callN_eq (f := ⟨2, 5, i75⟩) rfl]
    refine runF_rt (s := ⟨[some (.box 0), some r.d, some (sh x), none, some (sh y)], b5⟩) rfl ?_
    rw [hs]
    refine seq_of q1 ?_
    simp [d4, d5]
    rfl
  · obtain ⟨d', b5, hd', d5, e5⟩ := any_r (L := L) (n := k) (by omega) (xs := [sh 0, sh x]) (by omega) (by simp) (by simp) e4
    obtain ⟨x', hx', rfl⟩ : ∃ x', Hm 2 4 x' ∧ d' = sh x' := by
      simp at hd'
      rcases hd' with rfl | rfl
      · exact ⟨0, hm_zero, rfl⟩
      · exact ⟨x, hx, rfl⟩
    have sx : Sz 4 x' := hx'.s2 (by omega)
    have sy : Sz 4 y := hy.s2 (by omega)
    have t1 := ltimes_ok hL (n := k) (by omega) sx zr.1 (by omega)
    have t2 := ltimes_ok hL (n := k) (by omega) sy zr.2.1 (by omega)
    have p1 := lplus_ok hL (n := k) (by omega) (sz_mul sx zr.1) (sz_mul sy zr.2.1) (by omega)
    have sp := sz_add (sz_mul sx zr.1) (sz_mul sy zr.2.1)
    let f : V := ⟨x', y, -(x' * r.x + y * r.y)⟩
    suffices hC : callN prg.tb prg.gb L (k + 1) 75 [.box 0, r.d] bx = .ok f.d b5 from ⟨f, b5, ⟨hx', hy, ⟨sx.mono (by omega), sy.mono (by omega), (sz_neg sp).mono (by omega)⟩, .inr (by show x' * r.x + y * r.y + -(x' * r.x + y * r.y) * r.z = 0; rw [rz]; grind)⟩, fun l => callR_ok hC, e5.mono (by omega)⟩
    rw [callN_eq (f := ⟨2, 5, i75⟩) rfl]
    refine runF_rt (s := ⟨[some (.box 0), some r.d, some (sh x'), some (sh (x' * r.x + y * r.y)), some (sh y)], b5⟩) rfl ?_
    rw [hs]
    refine seq_of q1 ?_
    refine seq_of (l1 := [some (.box 0), some r.d, some (sh x), none, some (sh y)]) (b1 := b4) (by simp [d4, hc]) ?_
    refine seq_of (l1 := [some (.box 0), some r.d, some (sh x'), none, some (sh y)]) (b1 := b5) (by simp [z0, d5]) ?_
    have ix0 : ixD r.d (.int 0) = some (sh r.x) := rfl
    have ix1 : ixD r.d (.int 1) = some (sh r.y) := rfl
    refine seq_of (l1 := [some (.box 0), some r.d, some (sh x'), some (sh (x' * r.x + y * r.y)), some (sh y)]) (b1 := b5) (by simp [ix0, ix1, t1.r, t2.r, p1.r]) ?_
    have e : D.tup [sh x', sh y, .tup [.int (0 - (x' * r.x + y * r.y).num), .int (x' * r.x + y * r.y).den]] = f.d := by
      rw [sh_neg]; rfl
    have j0 : ∀ q : Rat, ixD (sh q) (.int 0) = some (.int q.num) := fun q => rfl
    have j1 : ∀ q : Rat, ixD (sh q) (.int 1) = some (.int q.den) := fun q => rfl
    have ctq : ∀ (b : List (List D)) (q : Rat), ctD b (sh q) = some (sh q) := fun b q => rfl
    rw [← e]
    simp [j0, j1, ctq]
end
end Q.K26
end

section
set_option maxRecDepth 100000
set_option maxHeartbeats 4000000
set_option exponentiation.threshold 70
/-! U26h: the place moved by a thousandth of a thousandth, and its square. -/
namespace Q.K26
open PySem L2 Q
def eps : Rat := 1 / 1000000
theorem eps_d : D.tup [.int 1, .int 1000000] = sh eps := by
  have e1 : eps.num = 1 := by decide +kernel
  have e2 : eps.den = 1000000 := by decide +kernel
  unfold sh; rw [e1, e2]; rfl
theorem eps_sz : Sz 20 eps := by
  have e1 : eps.num = 1 := by decide +kernel
  have e2 : eps.den = 1000000 := by decide +kernel
  unfold Sz; rw [e1, e2]; decide
theorem mv_rule {d a b : Rat} {A B N : Int} (ha : a * 2 = A) (hb : b * 2 = B) (hA : A.natAbs < 16) (hB : B.natAbs < 16) (hd : d = 0 ∨ d * 4 = N) : sgn (d + a * eps + b * (eps * eps)) = mvS d a b := by
  have iz : ∀ {i : Int}, (i : Rat) = 0 ↔ i = 0 := fun {i} => Rat.intCast_eq_zero_iff
  have bA1 : (A : Rat) ≤ 15 := Rat.intCast_le_intCast.mpr (show A ≤ 15 by omega)
  have bA2 : (-15 : Rat) ≤ A := Rat.intCast_le_intCast.mpr (show -15 ≤ A by omega)
  have bB1 : (B : Rat) ≤ 15 := Rat.intCast_le_intCast.mpr (show B ≤ 15 by omega)
  have bB2 : (-15 : Rat) ≤ B := Rat.intCast_le_intCast.mpr (show -15 ≤ B by omega)
  have i1 : ∀ {i : Int}, 0 < (i : Rat) → (1 : Rat) ≤ i := fun {i} h => by
    have h' := Rat.intCast_pos.mp h
    have : ((1 : Int) : Rat) ≤ i := Rat.intCast_le_intCast.mpr (by omega)
    exact this
  have i2 : ∀ {i : Int}, (i : Rat) < 0 → (i : Rat) ≤ -1 := fun {i} h => by
    have h' : (i : Rat) < ((0 : Int) : Rat) := h
    exact Rat.intCast_le_intCast.mpr (show i ≤ -1 by have := Rat.intCast_lt_intCast.mp h'; omega)
  have key : (0 < d → 1 ≤ d * 4) ∧ (d < 0 → d * 4 ≤ -1) := by
    rcases hd with h | h
    · constructor <;> intro g <;> grind
    · constructor
      · intro g; rw [h]; exact i1 (by grind)
      · intro g; rw [h]; exact i2 (by grind)
  have keya : (0 < a → 1 ≤ a * 2) ∧ (a < 0 → a * 2 ≤ -1) := by
    constructor
    · intro g; rw [ha]; exact i1 (by grind)
    · intro g; rw [ha]; exact i2 (by grind)
  have e : eps = 1 / 1000000 := rfl
  rw [e]
  obtain ⟨t, ht⟩ : ∃ t, t = d + a * (1 / 1000000) + b * (1 / 1000000 * (1 / 1000000)) := ⟨_, rfl⟩
  rw [← ht]
  unfold mvS
  simp only [sgn_eq]
  by_cases d1 : 0 < d
  · have := key.1 d1
    have s : 0 < t := by grind
    simp [d1, s]
  · by_cases d2 : d < 0
    · have := key.2 d2
      have s : t < 0 := by grind
      have s' : ¬ 0 < t := by grind
      simp [d1, d2, s, s']
    · have d0 : d = 0 := by grind
      by_cases a1 : 0 < a
      · have := keya.1 a1
        have s : 0 < t := by grind
        simp [d0, a1, s]
      · by_cases a2 : a < 0
        · have := keya.2 a2
          have s : t < 0 := by grind
          have s' : ¬ 0 < t := by grind
          simp [d0, a1, a2, s, s']
        · have a0 : a = 0 := by grind
          by_cases b1 : 0 < b
          · have s : 0 < t := by grind
            simp [d0, a0, b1, s]
          · by_cases b2 : b < 0
            · have s : t < 0 := by grind
              have s' : ¬ 0 < t := by grind
              simp [d0, a0, b1, b2, s, s']
            · have b0 : b = 0 := by grind
              have s : ¬ t < 0 := by grind
              have s' : ¬ 0 < t := by grind
              simp [d0, a0, b0, s, s']
/-- a ray of halves -/
def Hr (r : V) : Prop := (∃ a : Int, r.x * 2 = a) ∧ (∃ b : Int, r.y * 2 = b) ∧ r.z = 1
theorem half2 (t : Int) : half t * 2 = (t : Rat) := by
  have e : half t = (t : Rat) / ((2 : Int) : Rat) := by unfold half; rw [Rat.normalize_eq_mkRat, Rat.mkRat_eq_div]; rfl
  rw [e]
  have : ((2 : Int) : Rat) = 2 := rfl
  rw [this]; grind
theorem rayV_hr (w h i j : Int) : Hr (rayV w h i j) := ⟨⟨_, half2 _⟩, ⟨_, half2 _⟩, rfl⟩
theorem moved_eq {f r : V} (hf : Fm f r) (hr : Hr r) : sgn (f.dot ⟨r.x + eps, r.y + eps * eps, r.z⟩) = f.mv r := by
  obtain ⟨⟨p, hp⟩, ⟨q, hq⟩, hz⟩ := hr
  obtain ⟨A, a1, a2⟩ := hf.x
  obtain ⟨B, b1, b2⟩ := hf.y
  have e2 : ((2 : Nat) : Rat) = 2 := rfl
  rw [e2] at a2 b2
  have e : f.dot ⟨r.x + eps, r.y + eps * eps, r.z⟩ = f.dot r + f.x * eps + f.y * (eps * eps) := by simp only [V.dot]; grind
  rw [e]
  have hd : f.dot r = 0 ∨ ∃ N : Int, f.dot r * 4 = N := by
    rcases hf.e with h | h
    · obtain ⟨C, c1, c2⟩ := h
      rw [e2] at c2
      refine .inr ⟨A * p + B * q + 2 * C, ?_⟩
      rw [Rat.intCast_add, Rat.intCast_add, Rat.intCast_mul, Rat.intCast_mul, Rat.intCast_mul, ← a2, ← b2, ← c2, ← hp, ← hq]
      have : ((2 : Int) : Rat) = 2 := rfl
      simp only [V.dot, hz, this]; grind
    · exact .inl h
  have : f.dot r = 0 ∨ f.dot r * 4 = ((f.dot r * 4).num : Int) := by
    rcases hd with h | ⟨N, h⟩
    · exact .inl h
    · exact .inr (by rw [h]; rfl)
  exact mv_rule a2 b2 (by omega) (by omega) this
section
variable {L : Nat} (hL : 2 ^ 9000 ≤ L)
include hL
theorem lmoved_ok {n : Nat} (hn : 5 ≤ n) {f r : V} (hf : Fm f r) (hr : Hr r) (zr : r.Z 10) : Pu L n 74 [f.d, r.d] (.int (f.mv r)) :=
  Pu.mk (f := ⟨2, 4, i74⟩) (by omega) rfl rfl fun j e bx => by
    have t1 := ltimes_ok hL (n := j) (by omega) eps_sz eps_sz (by omega)
    have p1 := lplus_ok hL (n := j) (by omega) zr.1 eps_sz (by omega)
    have p2 := lplus_ok hL (n := j) (by omega) zr.2.1 (sz_mul eps_sz eps_sz) (by omega)
    have zt : V.Z 60 ⟨r.x + eps, r.y + eps * eps, r.z⟩ := ⟨(sz_add zr.1 eps_sz).mono (by omega), (sz_add zr.2.1 (sz_mul eps_sz eps_sz)).mono (by omega), zr.2.2.mono (by omega)⟩
    have c1 := ldot_ok hL (n := j) (by omega) hf.z zt (by omega)
    have c2 := lsign_ok hL (n := j) (by omega) (f.dot ⟨r.x + eps, r.y + eps * eps, r.z⟩)
    rw [moved_eq hf hr] at c2
    have ix0 : ixD r.d (.int 0) = some (sh r.x) := rfl
    have ix1 : ixD r.d (.int 1) = some (sh r.y) := rfl
    have ix2 : ixD r.d (.int 2) = some (sh r.z) := rfl
    have hs : startL ⟨2, 4, i74⟩ [f.d, r.d] = [some f.d, some r.d, none, none] := rfl
    have pk : powOk 10 6 = true := by decide
    have et : D.tup [sh (r.x + eps), sh (r.y + eps * eps), sh r.z] = (⟨r.x + eps, r.y + eps * eps, r.z⟩ : V).d := rfl
    refine ⟨[some f.d, some r.d, some (sh eps), some (⟨r.x + eps, r.y + eps * eps, r.z⟩ : V).d], ?_⟩
    rw [hs]
    refine seq_of (l1 := [some f.d, some r.d, some (sh eps), none]) (b1 := bx) (by rw [← eps_d]; simp [pk]) ?_
    refine seq_of (l1 := [some f.d, some r.d, some (sh eps), some (⟨r.x + eps, r.y + eps * eps, r.z⟩ : V).d]) (b1 := bx) (by simp [ix0, ix1, ix2, t1.r, p1.r, p2.r, et]) ?_
    simp [c1.r, c2.r]
end
end Q.K26
end

section
set_option maxRecDepth 100000
set_option maxHeartbeats 4000000
set_option exponentiation.threshold 70
/-! U26i: forms are right. -/
namespace Q.K26
open PySem L2 Q
def ngV (f : V) : V := ⟨-f.x, -f.y, -f.z⟩
theorem ng_smul (f : V) : ngV f = V.smul (-1) f := by
  simp only [ngV, V.smul]; congr 1 <;> grind
theorem eqVx (f g : V) : opC .eq f.d g.d = some (decide (f.x = g.x) && (decide (f.y = g.y) && decide (f.z = g.z))) := by
  have s1 : shN 60 f.d = true := rfl
  have s2 : shN 60 g.d = true := rfl
  rw [opC_eq, s1, s2]
  show some (eqD (sh f.x) (sh g.x) && (eqD (sh f.y) (sh g.y) && (eqD (sh f.z) (sh g.z) && true))) = _
  rw [eqD_sh, eqD_sh, eqD_sh, Bool.and_true]
theorem mv_zero_iff {f r : V} (hr : r.z = 1) : (f.mv r == 0) = (decide (f.x = 0) && (decide (f.y = 0) && decide (f.z = 0))) := by
  rw [Bool.eq_iff_iff]
  simp
  constructor
  · intro h; exact mv_zero hr h
  · rintro ⟨a, b, c⟩
    unfold V.mv mvS
    simp only [sgn_eq, V.dot, a, b, c]
    simp
    grind
section
variable {L : Nat} (hL : 2 ^ 9000 ≤ L)
include hL
theorem forms_r {n m : Nat} (hn : 8 ≤ n) (hm : m < 2 ^ 34) {bx : List (List D)} (hh : Hd m bx) : ∃ bx', (∀ l, callR (cc L n) 76 [.box 0] ⟨l, bx⟩ = .ok (.bl true) ⟨l, bx'⟩) ∧ Hd (m + 20) bx' := by
  obtain ⟨k, rfl⟩ : ∃ k, n = k + 1 := ⟨n - 1, by omega⟩
  obtain ⟨w, h, b1, w1, w2, h1, h2, d1, e1⟩ := size_r hL (n := k) (by omega) (by omega) hh
  obtain ⟨i, b2, d2, i1, i2, e2⟩ := pick_r (L := L) (n := k) (by omega) (many := w) (by omega) (by omega) (by omega) e1
  obtain ⟨j, b3, d3, j1, j2, e3⟩ := pick_r (L := L) (n := k) (by omega) (many := h) (by omega) (by omega) (by omega) e2
  have c1 := rayOf_ok hL (n := k) (by omega) w1 w2 h1 h2 i1 i2 j1 j2
  obtain ⟨f, b4, hf, d4, e4⟩ := form_r hL (n := k) (by omega) (by omega) e3 w1 w2 h1 h2 i1 i2 j1 j2
  have zr := rayV_z w1 w2 h1 h2 i1 i2 j1 j2
  have hr := rayV_hr w h i j
  have zb : (ngV f).Z 40 := ⟨sz_neg hf.z.1, sz_neg hf.z.2.1, sz_neg hf.z.2.2⟩
  have c2 := smallSign_ok hL (n := k) (by omega) hf.z (by omega) w1 w2 h1 h2 i1 i2 j1 j2
  have c3 := smallSign_ok hL (n := k) (by omega) zb (by omega) w1 w2 h1 h2 i1 i2 j1 j2
  rw [ng_smul, mv_smneg, ← ng_smul] at c3
  have c4 := lsmall_ok hL (n := k) (by omega) hf.z zr (by omega)
  have c5 := lmoved_ok hL (n := k) (by omega) hf hr zr
  have hz := mv_zero_iff (f := f) hr.2.2
  generalize rayV w h i j = r at *
  suffices hC : callN prg.tb prg.gb L (k + 1) 76 [.box 0] bx = .ok (.bl true) b4 from ⟨b4, fun l => callR_ok hC, e4.mono (by omega)⟩
  rw [callN_eq (f := ⟨1, 9, i76⟩) rfl]
  refine runF_rt (s := ⟨[some (.box 0), some (.tup [.int i, .int j]), some r.d, some f.d, some (.int (f.mv r)), some (ngV f).d, some (.int w), some (.int h), none], b4⟩) rfl ?_
  have hs : startL ⟨1, 9, i76⟩ [.box 0] = [some (.box 0), none, none, none, none, none, none, none, none] := rfl
  have ea : asgT (.tup (.cons (.var 6) (.cons (.var 7) .nil))) (.tup [.int w, .int h]) ⟨[some (.box 0), none, none, none, none, none, none, none, none], b1⟩ = some ⟨[some (.box 0), none, none, none, none, none, some (.int w), some (.int h), none], b1⟩ := rfl
  have hlc : evE (cc L k) (.lc (.tup (.cons (.bin .sub (.cst (.int 0)) (.ixv 8 (.cst (.int 0)))) (.cons (.ixv 8 (.cst (.int 1))) .nil))) (.var 8) (.its (.var 3)) .nil [8]) ⟨[some (.box 0), some (.tup [.int i, .int j]), some r.d, some f.d, some (.int (f.mv r)), none, some (.int w), some (.int h), none], b4⟩ = .ok (.own ([f.x, f.y, f.z].map fun x => sh (-x))) ⟨[some (.box 0), some (.tup [.int i, .int j]), some r.d, some f.d, some (.int (f.mv r)), none, some (.int w), some (.int h), none], b4⟩ :=
    lc_mapA [f.x, f.y, f.z] sh (fun x => sh (-x)) (by simp) (by show 3 ≤ 16777216; omega) (by simp [S.frzs, S.frz]) fun x hx => by
      refine ⟨[some (.box 0), some (.tup [.int i, .int j]), some r.d, some f.d, some (.int (f.mv r)), none, some (.int w), some (.int h), some (sh x)], [some (.box 0), some (.tup [.int i, .int j]), some r.d, some f.d, some (.int (f.mv r)), none, some (.int w), some (.int h), some (sh x)], sh (-x), by simp [asgT, wipeL], ?_, rfl, by simp [wipeL]⟩
      have j0 : ixD (sh x) (.int 0) = some (.int x.num) := rfl
      have j1 : ixD (sh x) (.int 1) = some (.int x.den) := rfl
      have ct : ctD b4 (sh x) = some (sh x) := rfl
      rw [← sh_neg]
      simp [j0, j1, ct]
  have e5 : D.tup ([f.x, f.y, f.z].map fun x => sh (-x)) = (ngV f).d := rfl
  have neI : ∀ x : Int, opC .ne (.int x) (.int x) = some false := fun x => by simp
  rw [hs]
  refine seq_of (l1 := [some (.box 0), none, none, none, none, none, some (.int w), some (.int h), none]) (b1 := b1) (by simp [d1, ea]) ?_
  refine seq_of (l1 := [some (.box 0), some (.tup [.int i, .int j]), none, none, none, none, some (.int w), some (.int h), none]) (b1 := b3) (by simp [d2, d3]) ?_
  refine seq_of (l1 := [some (.box 0), some (.tup [.int i, .int j]), some r.d, none, none, none, some (.int w), some (.int h), none]) (b1 := b3) (by simp [c1.r]) ?_
  refine seq_of (l1 := [some (.box 0), some (.tup [.int i, .int j]), some r.d, some f.d, none, none, some (.int w), some (.int h), none]) (b1 := b4) (by simp [d4]) ?_
  refine seq_of (l1 := [some (.box 0), some (.tup [.int i, .int j]), some r.d, some f.d, some (.int (f.mv r)), none, some (.int w), some (.int h), none]) (b1 := b4) (by simp [c2.r]) ?_
  refine seq_of (l1 := [some (.box 0), some (.tup [.int i, .int j]), some r.d, some f.d, some (.int (f.mv r)), some (ngV f).d, some (.int w), some (.int h), none]) (b1 := b4) ?_ ?_
  · rw [es_asv, ev_blt, ea_cons, hlc]
    simp only [Res.bnd_ok, ea_nil, frz_own', blt_tupL, Res.opt_some, e5]
    simp
  refine seq_of (l1 := [some (.box 0), some (.tup [.int i, .int j]), some r.d, some f.d, some (.int (f.mv r)), some (ngV f).d, some (.int w), some (.int h), none]) (b1 := b4) (by simp [c4.r, c5.r, neI, -opC_ne]) ?_
  refine seq_of (l1 := [some (.box 0), some (.tup [.int i, .int j]), some r.d, some f.d, some (.int (f.mv r)), some (ngV f).d, some (.int w), some (.int h), none]) (b1 := b4) (by simp [c3.r, Int.zero_sub, neI, -opC_ne]) ?_
  have z0 : D.tup [.tup [.int 0, .int 1], .tup [.int 0, .int 1], .tup [.int 0, .int 1]] = (⟨0, 0, 0⟩ : V).d := rfl
  have q1 := eqVx f ⟨0, 0, 0⟩
  have q2 : opC .eq (.int (f.mv r)) (.int 0) = some (f.mv r == 0) := by simp
  have q3 : ∀ x : Bool, opC .eq (.bl x) (.bl x) = some true := fun x => by simp
  simp [z0, q1, q2, ← hz, q3, -opC_eq]
end
end Q.K26
end

section
set_option maxRecDepth 100000
set_option maxHeartbeats 4000000
set_option exponentiation.threshold 70
/-! U26j: what is owned is hit; just one of two pieces on both sides of an edge. -/
namespace Q.K26
open PySem L2 Q
theorem sgn_one {x : Rat} : sgn x = 1 ↔ 0 < x := by
  rw [sgn_eq]
  by_cases h : 0 < x
  · simp [h]
  · by_cases h2 : x < 0 <;> simp [h, h2]
theorem sgn_mone {x : Rat} : sgn x = -1 ↔ x < 0 := by
  rw [sgn_eq]
  by_cases h : 0 < x
  · have : ¬ x < 0 := by grind
    simp [h, this]
  · by_cases h2 : x < 0 <;> simp [h, h2]
theorem sgn_ne {x : Rat} (h : x ≠ 0) : sgn x = 1 ∨ sgn x = -1 := by
  rw [sgn_one, sgn_mone]; grind
def w0 : W4 := ⟨0, 0, 1, 1⟩
theorem own_three {p q s r : V} : lownB p q s r = true ↔ vol p q s ≠ 0 ∧ (q.crs s).mv r = sgn (vol p q s) ∧ (s.crs p).mv r = sgn (vol p q s) ∧ (p.crs q).mv r = sgn (vol p q s) := by
  unfold lownB; simp
theorem own_whole' {p q s r : V} (hr : r.z = 1) (h : lownB p q s r = true) : (whole p q s).mv r = sgn (vol p q s) := by
  obtain ⟨h0, h1, h2, h3⟩ := own_three.mp h
  obtain ⟨t, tz, ht⟩ := near_ray r hr [q.crs s, s.crs p, p.crs q, whole p q s]
  have a := ht _ (show q.crs s ∈ _ by simp)
  have b := ht _ (show s.crs p ∈ _ by simp)
  have c := ht _ (show p.crs q ∈ _ by simp)
  have d := ht _ (show whole p q s ∈ _ by simp)
  rw [← d, whole_dot]
  rw [h1] at a; rw [h2] at b; rw [h3] at c
  rcases sgn_ne h0 with e | e
  · rw [e] at a b c ⊢
    rw [sgn_one] at a b c ⊢
    grind
  · rw [e] at a b c ⊢
    rw [sgn_mone] at a b c ⊢
    grind
theorem hit_iff {p q s r : V} (hr : r.z = 1) : fbO p q s r = none ↔ lownB p q s r = true := by
  constructor
  · intro h
    obtain ⟨h0, h1, h2, h3, h4⟩ := fb_none h
    exact own_three.mpr ⟨h0, by rw [h1, h4], by rw [h2, h4], by rw [h3, h4]⟩
  · intro h
    have hw := own_whole' hr h
    obtain ⟨h0, h1, h2, h3⟩ := own_three.mp h
    unfold fbO
    simp [h0, h1, h2, h3, hw]
theorem w0_keeps {p q s r : V} (hr : r.z = 1) (hp : 1 ≤ p.z) (hq : 1 ≤ q.z) (hs : 1 ≤ s.z) (h : lownB p q s r = true) : 0 ≤ (wf p q s w0).mv r * (whole p q s).mv r := by
  have hw := own_whole' hr h
  obtain ⟨h0, h1, h2, h3⟩ := own_three.mp h
  obtain ⟨t, tz, ht⟩ := near_ray r hr [q.crs s, s.crs p, p.crs q, wf p q s w0]
  have a := ht _ (show q.crs s ∈ _ by simp)
  have b := ht _ (show s.crs p ∈ _ by simp)
  have c := ht _ (show p.crs q ∈ _ by simp)
  have d := ht _ (show wf p q s w0 ∈ _ by simp)
  have e : (wf p q s w0).dot t = (q.crs s).dot t * (p.z - 1) + (s.crs p).dot t * (q.z - 1) + (p.crs q).dot t * (s.z - 1) := by
    have cz := cramer_z p q s t
    rw [tz] at cz
    have wd := whole_dot p q s t
    have v0 : w0.v = ⟨0, 0, 1⟩ := rfl
    have ee : ((w0.e : Int) : Rat) = 1 := rfl
    have : (wf p q s w0).dot t = vol p q s * t.z - (whole p q s).dot t := by
      unfold wf
      rw [v0, ee]
      simp only [V.sub, V.smul, V.dot]; grind
    rw [this, wd, tz, cz]; grind
  rw [h1] at a; rw [h2] at b; rw [h3] at c
  rw [hw, ← d]
  rcases sgn_ne h0 with k | k
  · rw [k] at a b c ⊢
    rw [sgn_one] at a b c
    have x1 := Rat.mul_nonneg (show 0 ≤ (q.crs s).dot t by grind) (show 0 ≤ p.z - 1 by grind)
    have x2 := Rat.mul_nonneg (show 0 ≤ (s.crs p).dot t by grind) (show 0 ≤ q.z - 1 by grind)
    have x3 := Rat.mul_nonneg (show 0 ≤ (p.crs q).dot t by grind) (show 0 ≤ s.z - 1 by grind)
    have y : ¬ (wf p q s w0).dot t < 0 := by rw [e]; grind
    rw [sgn_eq]
    by_cases z : 0 < (wf p q s w0).dot t <;> simp [y, z]
  · rw [k] at a b c ⊢
    rw [sgn_mone] at a b c
    have x1 := Rat.mul_nonneg (show 0 ≤ -(q.crs s).dot t by grind) (show 0 ≤ p.z - 1 by grind)
    have x2 := Rat.mul_nonneg (show 0 ≤ -(s.crs p).dot t by grind) (show 0 ≤ q.z - 1 by grind)
    have x3 := Rat.mul_nonneg (show 0 ≤ -(p.crs q).dot t by grind) (show 0 ≤ s.z - 1 by grind)
    have y : ¬ 0 < (wf p q s w0).dot t := by rw [e]; grind
    rw [sgn_eq]
    by_cases z : (wf p q s w0).dot t < 0 <;> simp [y, z]
theorem met_one {p q s r : V} (hr : r.z = 1) (hp : 1 ≤ p.z) (hq : 1 ≤ q.z) (hs : 1 ≤ s.z) (h : lownB p q s r = true) : metD p q s r [w0] = hitD p q s r := by
  unfold metD
  rw [(hit_iff hr).mpr h]
  have : firstW p q s r 0 [w0] = none := (firstW_none _ _).mpr fun w hw => by
    simp at hw; subst hw; exact w0_keeps hr hp hq hs h
  rw [this]
theorem met_two {p q s r : V} (hr : r.z = 1) (hp : 1 ≤ p.z) (hq : 1 ≤ q.z) (hs : 1 ≤ s.z) (h : lownB p q s r = true) (w : W4) : metD p q s r [w0, w] = if 0 ≤ (wf p q s w).mv r * sgn (vol p q s) then hitD p q s r else .tup [.str "wall", .int 1] := by
  unfold metD
  rw [(hit_iff hr).mpr h]
  have k := w0_keeps hr hp hq hs h
  have hw := own_whole' hr h
  by_cases c : 0 ≤ (wf p q s w).mv r * sgn (vol p q s)
  · rw [if_pos c]
    have : firstW p q s r 0 [w0, w] = none := (firstW_none _ _).mpr fun w' hw' => by
      simp at hw'
      rcases hw' with rfl | rfl
      · exact k
      · rw [hw]; exact c
    rw [this]
  · rw [if_neg c]
    have : firstW p q s r 0 [w0, w] = some 1 := by
      unfold firstW
      rw [if_neg (by omega)]
      unfold firstW
      rw [hw, if_pos (by omega)]
    rw [this]
    rfl
theorem met_first (p q s r : V) (hr : r.z = 1) (hp : 1 ≤ p.z) (hq : 1 ≤ q.z) (hs : 1 ≤ s.z) : ∃ (x : Str) (rest : List D), metD p q s r [w0] = .tup (.str x :: rest) ∧ opC .eq (.str x) (.str "hit") = some (lownB p q s r) := by
  rcases met_cases p q s r [w0] with ⟨tg, rest, e1, e2, -⟩ | ⟨e1, e2, e3⟩
  · refine ⟨_, rest, e1, ?_⟩
    cases h : lownB p q s r with
    | false => exact e2
    | true =>
      rw [met_one hr hp hq hs h] at e1
      unfold hitD at e1
      injection e1 with e1
      injection e1 with e1 e4
      injection e1 with e1
      subst e1
      rw [seq4] at e2
      simp at e2
  · refine ⟨"hit", _, e3, ?_⟩
    rw [(hit_iff hr).mp e1]
    exact seq4
/-! ### corners in any order -/
theorem mv_crs_anti (a b r : V) : (b.crs a).mv r = -((a.crs b).mv r) := by rw [crs_anti a b, mv_smneg]
theorem sgn_neg' (x : Rat) : sgn (-x) = -sgn x := by
  rw [sgn_eq, sgn_eq]
  by_cases h1 : 0 < x
  · have a : ¬ 0 < -x := by grind
    have b : -x < 0 := by grind
    simp [h1, a, b]
  · by_cases h2 : x < 0
    · have a : 0 < -x := by grind
      simp [h1, h2, a]
    · have a : ¬ 0 < -x := by grind
      have b : ¬ -x < 0 := by grind
      simp [h1, h2, a, b]
theorem own_rot (a b c r : V) : lownB b c a r = lownB a b c r := by
  rw [Bool.eq_iff_iff, own_three, own_three, vol_rot]
  constructor
  · rintro ⟨h, x, y, z⟩; exact ⟨h, z, x, y⟩
  · rintro ⟨h, x, y, z⟩; exact ⟨h, y, z, x⟩
theorem vol_sw (a b c : V) : vol b a c = -vol a b c := by simp only [vol, V.dot, V.crs]; grind
theorem own_sw (a b c r : V) : lownB b a c r = lownB a b c r := by
  rw [Bool.eq_iff_iff, own_three, own_three, vol_sw, sgn_neg', mv_crs_anti c a, mv_crs_anti b c, mv_crs_anti a b]
  constructor
  · rintro ⟨h, x, y, z⟩; exact ⟨by grind, by omega, by omega, by omega⟩
  · rintro ⟨h, x, y, z⟩; exact ⟨by grind, by omega, by omega, by omega⟩
theorem perm_two {a b x y : V} (h : [a, b].Perm [x, y]) : (a = x ∧ b = y) ∨ (a = y ∧ b = x) := by
  have ha : a ∈ [x, y] := h.mem_iff.mp (by simp)
  simp at ha
  rcases ha with rfl | rfl
  · left
    have := h.cons_inv
    simp at this
    exact ⟨rfl, this⟩
  · right
    have := (h.trans (List.Perm.swap x a []).symm)
    have := this.cons_inv
    simp at this
    exact ⟨rfl, this⟩
theorem own_perm {a b c x y z r : V} (h : [x, y, z].Perm [a, b, c]) : lownB x y z r = lownB a b c r := by
  have hx : x ∈ [a, b, c] := h.mem_iff.mp (by simp)
  simp at hx
  rcases hx with rfl | rfl | rfl
  · rcases perm_two h.cons_inv with ⟨rfl, rfl⟩ | ⟨rfl, rfl⟩
    · rfl
    · exact (own_rot z x y r).trans (own_sw x z y r)
  · have h' := (h.trans (List.Perm.swap x a [c])).cons_inv
    rcases perm_two h' with ⟨rfl, rfl⟩ | ⟨rfl, rfl⟩
    · exact own_sw y x z r
    · exact own_rot z x y r
  · have h1 : [a, b, x].Perm [x, a, b] := (List.perm_append_comm (l₁ := [a, b]) (l₂ := [x]))
    have h' := (h.trans h1).cons_inv
    rcases perm_two h' with ⟨rfl, rfl⟩ | ⟨rfl, rfl⟩
    · exact (own_rot z x y r).trans (own_rot y z x r)
    · exact (own_sw y x z r).trans (own_rot z y x r)
/-! ### an edge through a sample -/
def eA (r : V) (u v n : Rat) : V := ⟨(r.x + u) * n, (r.y + v) * n, n⟩
def eB' (r : V) (u v f : Rat) : V := ⟨(r.x - u) * f, (r.y - v) * f, f⟩
def eC (r : V) (u v : Rat) : V := ⟨r.x - v, r.y + u, 1⟩
def eD (r : V) (u v : Rat) : V := ⟨r.x + v, r.y - u, 1⟩
theorem sq_pos {u v : Rat} (h : ¬ (u = 0 ∧ v = 0)) : 0 < u * u + v * v := by
  have a : ∀ x : Rat, 0 ≤ x * x := fun x => by
    rcases (by grind : 0 ≤ x ∨ 0 ≤ -x) with k | k
    · exact Rat.mul_nonneg k k
    · have := Rat.mul_nonneg k k; grind
  have b : ∀ x : Rat, x ≠ 0 → 0 < x * x := fun x hx => by
    rcases (by grind : 0 < x ∨ 0 < -x) with k | k
    · exact Rat.mul_pos k k
    · have := Rat.mul_pos k k; grind
  have := a u; have := a v
  by_cases hu : u = 0
  · have := b v (fun z => h ⟨hu, z⟩); grind
  · have := b u hu; grind
theorem edge_one {r : V} (hr : r.z = 1) {u v n f : Rat} (h : ¬ (u = 0 ∧ v = 0)) (hn : 0 < n) (hf : 0 < f) :
    lownB (eA r u v n) (eB' r u v f) (eC r u v) r = !lownB (eA r u v n) (eB' r u v f) (eD r u v) r := by
  have sq := sq_pos h
  have nf := Rat.mul_pos hn hf
  have k1 := Rat.mul_pos hn sq
  have k2 := Rat.mul_pos hf sq
  have k3 := Rat.mul_pos nf sq
  have v1 : vol (eA r u v n) (eB' r u v f) (eC r u v) = -2 * (n * f * (u * u + v * v)) := by
    simp only [vol, eA, eB', eC, V.dot, V.crs]; grind
  have v2 : vol (eA r u v n) (eB' r u v f) (eD r u v) = 2 * (n * f * (u * u + v * v)) := by
    simp only [vol, eA, eB', eD, V.dot, V.crs]; grind
  have s1 : sgn (vol (eA r u v n) (eB' r u v f) (eC r u v)) = -1 := by rw [sgn_mone, v1]; grind
  have s2 : sgn (vol (eA r u v n) (eB' r u v f) (eD r u v)) = 1 := by rw [sgn_one, v2]; grind
  have a1 : ((eB' r u v f).crs (eC r u v)).mv r = -1 := mv_of_neg (by
    have : ((eB' r u v f).crs (eC r u v)).dot r = -(f * (u * u + v * v)) := by simp only [eB', eC, V.dot, V.crs, hr]; grind
    rw [this]; grind)
  have a2 : ((eC r u v).crs (eA r u v n)).mv r = -1 := mv_of_neg (by
    have : ((eC r u v).crs (eA r u v n)).dot r = -(n * (u * u + v * v)) := by simp only [eA, eC, V.dot, V.crs, hr]; grind
    rw [this]; grind)
  have b1 : ((eB' r u v f).crs (eD r u v)).mv r = 1 := mv_of_pos (by
    have : ((eB' r u v f).crs (eD r u v)).dot r = f * (u * u + v * v) := by simp only [eB', eD, V.dot, V.crs, hr]; grind
    rw [this]; grind)
  have b2 : ((eD r u v).crs (eA r u v n)).mv r = 1 := mv_of_pos (by
    have : ((eD r u v).crs (eA r u v n)).dot r = n * (u * u + v * v) := by simp only [eA, eD, V.dot, V.crs, hr]; grind
    rw [this]; grind)
  have c : ((eA r u v n).crs (eB' r u v f)).mv r = 1 ∨ ((eA r u v n).crs (eB' r u v f)).mv r = -1 := by
    have three := mv_three (((eA r u v n).crs (eB' r u v f)).dot r) ((eA r u v n).crs (eB' r u v f)).x ((eA r u v n).crs (eB' r u v f)).y
    rcases three with k | k | k
    · exact .inl k
    · exfalso
      have z := mv_zero (f := (eA r u v n).crs (eB' r u v f)) hr k
      have zx : 2 * (n * f * v) = 0 := by rw [← z.1]; simp only [eA, eB', V.crs]; grind
      have zy : 2 * (n * f * u) = 0 := by
        have : ((eA r u v n).crs (eB' r u v f)).y = -(2 * (n * f * u)) := by simp only [eA, eB', V.crs]; grind
        rw [z.2.1] at this; grind
      have n0 : n * f ≠ 0 := by grind
      have hv : v = 0 := by
        have : n * f * v = 0 := by grind
        rcases Rat.mul_eq_zero.mp this with q | q
        · exact absurd q n0
        · exact q
      have hu : u = 0 := by
        have : n * f * u = 0 := by grind
        rcases Rat.mul_eq_zero.mp this with q | q
        · exact absurd q n0
        · exact q
      exact h ⟨hu, hv⟩
    · exact .inr k
  have n1 : vol (eA r u v n) (eB' r u v f) (eC r u v) ≠ 0 := by rw [v1]; grind
  have n2 : vol (eA r u v n) (eB' r u v f) (eD r u v) ≠ 0 := by rw [v2]; grind
  unfold lownB
  simp only [s1, s2, List.all_cons, List.all_nil, a1, a2, b1, b2]
  rcases c with c | c <;> rw [c] <;> simp [n1, n2]
end Q.K26
end

section
set_option maxRecDepth 100000
set_option maxHeartbeats 4000000
set_option exponentiation.threshold 70
/-! U26k: ends and sides of an edge. -/
namespace Q.K26
open PySem L2 Q
theorem hm_muln {k : Nat} {q : Rat} {N : Int} (h : Hm 2 k q) (hN : N.natAbs < 2 ^ 2) : Hm 2 (k + 2) (q * (N : Rat)) := by
  obtain ⟨a, a1, a2⟩ := h
  refine ⟨a * N, natAbs_bd a1 hN, ?_⟩
  rw [Rat.intCast_mul, ← a2]; grind
theorem hm_half {t : Int} (h : t.natAbs < 2 ^ 4) : Hm 2 4 (half t) := ⟨t, h, by have := half2 t; exact this⟩
abbrev St21 : Type := Option D
def EL (i j w h : Int) (r : V) (u v n f : Rat) (x2 x3 x4 x5 x6 x13 x14 x15 x16 x17 x18 : Option D) : List (Option D) :=
  [some (.box 0), some (.tup [.int i, .int j]), x2, x3, x4, x5, x6, some (.int w), some (.int h), some r.d, some (.tup [sh u, sh v]), some (sh n), some (sh f), x13, x14, x15, x16, x17, x18, none, none]
def enB : St := (.seq (.asv 14 (.lc (.call 57 (.cons (.ixv 9 (.var 19)) (.cons (.call 58 (.cons (.tup (.cons (.var 4) (.cons (.cst (.int 1)) .nil))) (.cons (.ixv 10 (.var 19)) .nil))) .nil))) (.var 19) (.its (.tup (.cons (.cst (.int 0)) (.cons (.cst (.int 1)) .nil)))) .nil [19])) (.seq (.ex (.mut .append 2 (.cons (.tup (.cons (.call 58 (.cons (.ixv 14 (.cst (.int 0))) (.cons (.var 13) .nil))) (.cons (.call 58 (.cons (.ixv 14 (.cst (.int 1))) (.cons (.var 13) .nil))) (.cons (.var 13) .nil)))) .nil))) .nil))
def sdB : St := (.seq (.asv 14 (.lst (.cons (.call 57 (.cons (.ixv 9 (.cst (.int 0))) (.cons (.call 58 (.cons (.tup (.cons (.bin .sub (.cst (.int 0)) (.var 4)) (.cons (.cst (.int 1)) .nil))) (.cons (.ixv 10 (.cst (.int 1))) .nil))) .nil))) .nil))) (.seq (.ex (.mut .append 14 (.cons (.call 57 (.cons (.ixv 9 (.cst (.int 1))) (.cons (.call 58 (.cons (.tup (.cons (.var 4) (.cons (.cst (.int 1)) .nil))) (.cons (.ixv 10 (.cst (.int 0))) .nil))) .nil))) .nil))) (.seq (.ex (.mut .append 3 (.cons (.tup (.cons (.ixv 14 (.cst (.int 0))) (.cons (.ixv 14 (.cst (.int 1))) (.cons (.tup (.cons (.cst (.int 1)) (.cons (.cst (.int 1)) .nil))) .nil)))) .nil))) .nil)))
theorem two1 (s : Int) : D.tup [.int s, .int 1] = sh (tv s) := sh_int s
section
variable {L : Nat} (hL : 2 ^ 9000 ≤ L) {i j w h : Int} {r : V} {u v n f : Rat}
include hL
theorem en_step {k : Nat} (hk : 4 ≤ k) (zr : r.Z 10) (zu : Sz 10 u) (zv : Sz 10 v) {s : Int} (hs : s.natAbs ≤ 1) {d : Rat} (zd : Sz 10 d) (xs : List D) (hx : xs.length < 10) (x3 x4 x5 x6 x13 x14 x15 x16 x17 x18 : Option D) (bx : List (List D)) :
    ∃ y4 y13 y14, forT (cc L k) L (.tup (.cons (.var 4) (.cons (.var 13) .nil))) enB (.tup [.int s, sh d]) ⟨EL i j w h r u v n f (some (.own xs)) x3 x4 x5 x6 x13 x14 x15 x16 x17 x18, bx⟩ = .ok .nx ⟨EL i j w h r u v n f (some (.own (xs ++ [(⟨(r.x + tv s * u) * d, (r.y + tv s * v) * d, d⟩ : V).d]))) x3 y4 x5 x6 y13 y14 x15 x16 x17 x18, bx⟩ := by
  have ss := tv_sz hs
  have ea : asgT (.tup (.cons (.var 4) (.cons (.var 13) .nil))) (.tup [.int s, sh d]) ⟨EL i j w h r u v n f (some (.own xs)) x3 x4 x5 x6 x13 x14 x15 x16 x17 x18, bx⟩ = some ⟨EL i j w h r u v n f (some (.own xs)) x3 (some (.int s)) x5 x6 (some (sh d)) x14 x15 x16 x17 x18, bx⟩ := rfl
  let ys : List (Int × Rat × Rat) := [(0, r.x, u), (1, r.y, v)]
  have hlc : evE (cc L k) (.lc (.call 57 (.cons (.ixv 9 (.var 19)) (.cons (.call 58 (.cons (.tup (.cons (.var 4) (.cons (.cst (.int 1)) .nil))) (.cons (.ixv 10 (.var 19)) .nil))) .nil))) (.var 19) (.its (.tup (.cons (.cst (.int 0)) (.cons (.cst (.int 1)) .nil)))) .nil [19]) ⟨EL i j w h r u v n f (some (.own xs)) x3 (some (.int s)) x5 x6 (some (sh d)) x14 x15 x16 x17 x18, bx⟩ = .ok (.own (ys.map fun y => sh (y.2.1 + tv s * y.2.2))) ⟨EL i j w h r u v n f (some (.own xs)) x3 (some (.int s)) x5 x6 (some (sh d)) x14 x15 x16 x17 x18, bx⟩ :=
    lc_mapA ys (fun y => .int y.1) (fun y => sh (y.2.1 + tv s * y.2.2)) (by simp [ys]) (by show 2 ≤ 16777216; omega) (by simp [S.frzs, S.frz, EL]) fun y hy => by
      refine ⟨[some (.box 0), some (.tup [.int i, .int j]), some (.own xs), x3, some (.int s), x5, x6, some (.int w), some (.int h), some r.d, some (.tup [sh u, sh v]), some (sh n), some (sh f), some (sh d), x14, x15, x16, x17, x18, some (.int y.1), none], [some (.box 0), some (.tup [.int i, .int j]), some (.own xs), x3, some (.int s), x5, x6, some (.int w), some (.int h), some r.d, some (.tup [sh u, sh v]), some (sh n), some (sh f), some (sh d), x14, x15, x16, x17, x18, some (.int y.1), none], sh (y.2.1 + tv s * y.2.2), by simp [asgT, wipeL, EL], ?_, rfl, by simp [wipeL, EL]⟩
      have i0 : ixD r.d (.int 0) = some (sh r.x) := rfl
      have i1 : ixD r.d (.int 1) = some (sh r.y) := rfl
      simp [ys] at hy
      rcases hy with rfl | rfl
      · have t1 := ltimes_ok hL (n := k) (by omega) ss zu (by omega)
        have p1 := lplus_ok hL (n := k) (by omega) zr.1 (sz_mul ss zu) (by omega)
        simp [i0, two1, t1.r, p1.r]
      · have t1 := ltimes_ok hL (n := k) (by omega) ss zv (by omega)
        have p1 := lplus_ok hL (n := k) (by omega) zr.2.1 (sz_mul ss zv) (by omega)
        simp [i1, two1, t1.r, p1.r]
  have t1 := ltimes_ok hL (n := k) (by omega) (sz_add zr.1 (sz_mul ss zu)) zd (by omega)
  have t2 := ltimes_ok hL (n := k) (by omega) (sz_add zr.2.1 (sz_mul ss zv)) zd (by omega)
  refine ⟨some (.int s), some (sh d), some (.own (ys.map fun y => sh (y.2.1 + tv s * y.2.2))), ?_⟩
  unfold forT
  rw [ea, Res.opt_some, Res.bnd_ok]
  have s1 : evS (cc L k) L enB ⟨EL i j w h r u v n f (some (.own xs)) x3 (some (.int s)) x5 x6 (some (sh d)) x14 x15 x16 x17 x18, bx⟩ = .ok .nx ⟨EL i j w h r u v n f (some (.own (xs ++ [(⟨(r.x + tv s * u) * d, (r.y + tv s * v) * d, d⟩ : V).d]))) x3 (some (.int s)) x5 x6 (some (sh d)) (some (.own (ys.map fun y => sh (y.2.1 + tv s * y.2.2)))) x15 x16 x17 x18, bx⟩ := by
    refine seq_of (l1 := EL i j w h r u v n f (some (.own xs)) x3 (some (.int s)) x5 x6 (some (sh d)) (some (.own (ys.map fun y => sh (y.2.1 + tv s * y.2.2)))) x15 x16 x17 x18) (b1 := bx) (by rw [es_asv, hlc]; simp [EL]) (seq_of (l1 := EL i j w h r u v n f (some (.own (xs ++ [(⟨(r.x + tv s * u) * d, (r.y + tv s * v) * d, d⟩ : V).d]))) x3 (some (.int s)) x5 x6 (some (sh d)) (some (.own (ys.map fun y => sh (y.2.1 + tv s * y.2.2)))) x15 x16 x17 x18) (b1 := bx) ?_ (by simp))
    have q1 : ownL ⟨EL i j w h r u v n f (some (.own xs)) x3 (some (.int s)) x5 x6 (some (sh d)) (some (.own (ys.map fun y => sh (y.2.1 + tv s * y.2.2)))) x15 x16 x17 x18, bx⟩ 2 = true := rfl
    have hm : mutD ⟨EL i j w h r u v n f (some (.own xs)) x3 (some (.int s)) x5 x6 (some (sh d)) (some (.own (ys.map fun y => sh (y.2.1 + tv s * y.2.2)))) x15 x16 x17 x18, bx⟩ 2 .append [(⟨(r.x + tv s * u) * d, (r.y + tv s * v) * d, d⟩ : V).d] = some (.non, ⟨EL i j w h r u v n f (some (.own (xs ++ [(⟨(r.x + tv s * u) * d, (r.y + tv s * v) * d, d⟩ : V).d]))) x3 (some (.int s)) x5 x6 (some (sh d)) (some (.own (ys.map fun y => sh (y.2.1 + tv s * y.2.2)))) x15 x16 x17 x18, bx⟩) := by
      have e1 : xs.length < 16777216 := by omega
      simp [mutD, e1, EL]
    have ev : evE (cc L k) (.tup (.cons (.call 58 (.cons (.ixv 14 (.cst (.int 0))) (.cons (.var 13) .nil))) (.cons (.call 58 (.cons (.ixv 14 (.cst (.int 1))) (.cons (.var 13) .nil))) (.cons (.var 13) .nil)))) ⟨EL i j w h r u v n f (some (.own xs)) x3 (some (.int s)) x5 x6 (some (sh d)) (some (.own (ys.map fun y => sh (y.2.1 + tv s * y.2.2)))) x15 x16 x17 x18, bx⟩ = .ok (⟨(r.x + tv s * u) * d, (r.y + tv s * v) * d, d⟩ : V).d ⟨EL i j w h r u v n f (some (.own xs)) x3 (some (.int s)) x5 x6 (some (sh d)) (some (.own (ys.map fun y => sh (y.2.1 + tv s * y.2.2)))) x15 x16 x17 x18, bx⟩ := by
      simp [EL, ys, t1.r, t2.r]
      rfl
    rw [es_ex, ev_mut, if_pos q1, ea_cons, ev]
    have fz : (⟨(r.x + tv s * u) * d, (r.y + tv s * v) * d, d⟩ : V).d.frz = (⟨(r.x + tv s * u) * d, (r.y + tv s * v) * d, d⟩ : V).d := rfl
    simp only [Res.bnd_ok, ea_nil, fz, hm, Res.opt_some]
  rw [s1]
theorem sd_step {k : Nat} (hk : 4 ≤ k) (zr : r.Z 10) (zu : Sz 10 u) (zv : Sz 10 v) {s : Int} (hs : s.natAbs ≤ 1) (xs : List D) (hx : xs.length < 10) (x2 x4 x5 x6 x13 x14 x15 x16 x17 x18 : Option D) (bx : List (List D)) :
    ∃ y4 y14, forT (cc L k) L (.var 4) sdB (.int s) ⟨EL i j w h r u v n f x2 (some (.own xs)) x4 x5 x6 x13 x14 x15 x16 x17 x18, bx⟩ = .ok .nx ⟨EL i j w h r u v n f x2 (some (.own (xs ++ [(⟨r.x + tv (-s) * v, r.y + tv s * u, 1⟩ : V).d]))) y4 x5 x6 x13 y14 x15 x16 x17 x18, bx⟩ := by
  have ss := tv_sz hs
  have sn : Sz 1 (tv (-s)) := tv_sz (by omega)
  have t1 := ltimes_ok hL (n := k) (by omega) sn zv (by omega)
  have p1 := lplus_ok hL (n := k) (by omega) zr.1 (sz_mul sn zv) (by omega)
  have t2 := ltimes_ok hL (n := k) (by omega) ss zu (by omega)
  have p2 := lplus_ok hL (n := k) (by omega) zr.2.1 (sz_mul ss zu) (by omega)
  have ea : asgT (.var 4) (.int s) ⟨EL i j w h r u v n f x2 (some (.own xs)) x4 x5 x6 x13 x14 x15 x16 x17 x18, bx⟩ = some ⟨EL i j w h r u v n f x2 (some (.own xs)) (some (.int s)) x5 x6 x13 x14 x15 x16 x17 x18, bx⟩ := rfl
  have i0 : ixD r.d (.int 0) = some (sh r.x) := rfl
  have i1 : ixD r.d (.int 1) = some (sh r.y) := rfl
  refine ⟨some (.int s), some (.own [sh (r.x + tv (-s) * v), sh (r.y + tv s * u)]), ?_⟩
  unfold forT
  rw [ea, Res.opt_some, Res.bnd_ok]
  have s1 : evS (cc L k) L sdB ⟨EL i j w h r u v n f x2 (some (.own xs)) (some (.int s)) x5 x6 x13 x14 x15 x16 x17 x18, bx⟩ = .ok .nx ⟨EL i j w h r u v n f x2 (some (.own (xs ++ [(⟨r.x + tv (-s) * v, r.y + tv s * u, 1⟩ : V).d]))) (some (.int s)) x5 x6 x13 (some (.own [sh (r.x + tv (-s) * v), sh (r.y + tv s * u)])) x15 x16 x17 x18, bx⟩ := by
    refine seq_of (l1 := EL i j w h r u v n f x2 (some (.own xs)) (some (.int s)) x5 x6 x13 (some (.own [sh (r.x + tv (-s) * v)])) x15 x16 x17 x18) (b1 := bx) (by simp [EL, i0, two1, t1.r, p1.r]) ?_
    refine seq_of (l1 := EL i j w h r u v n f x2 (some (.own xs)) (some (.int s)) x5 x6 x13 (some (.own [sh (r.x + tv (-s) * v), sh (r.y + tv s * u)])) x15 x16 x17 x18) (b1 := bx) ?_ ?_
    · have q1 : ownL ⟨EL i j w h r u v n f x2 (some (.own xs)) (some (.int s)) x5 x6 x13 (some (.own [sh (r.x + tv (-s) * v)])) x15 x16 x17 x18, bx⟩ 14 = true := rfl
      have ev : evE (cc L k) (.call 57 (.cons (.ixv 9 (.cst (.int 1))) (.cons (.call 58 (.cons (.tup (.cons (.var 4) (.cons (.cst (.int 1)) .nil))) (.cons (.ixv 10 (.cst (.int 0))) .nil))) .nil))) ⟨EL i j w h r u v n f x2 (some (.own xs)) (some (.int s)) x5 x6 x13 (some (.own [sh (r.x + tv (-s) * v)])) x15 x16 x17 x18, bx⟩ = .ok (sh (r.y + tv s * u)) ⟨EL i j w h r u v n f x2 (some (.own xs)) (some (.int s)) x5 x6 x13 (some (.own [sh (r.x + tv (-s) * v)])) x15 x16 x17 x18, bx⟩ := by
        simp [EL, i1, two1, t2.r, p2.r]
      have hm : mutD ⟨EL i j w h r u v n f x2 (some (.own xs)) (some (.int s)) x5 x6 x13 (some (.own [sh (r.x + tv (-s) * v)])) x15 x16 x17 x18, bx⟩ 14 .append [sh (r.y + tv s * u)] = some (.non, ⟨EL i j w h r u v n f x2 (some (.own xs)) (some (.int s)) x5 x6 x13 (some (.own [sh (r.x + tv (-s) * v), sh (r.y + tv s * u)])) x15 x16 x17 x18, bx⟩) := by
        simp [mutD, EL]
      have fz : (sh (r.y + tv s * u)).frz = sh (r.y + tv s * u) := rfl
      rw [es_ex, ev_mut, if_pos q1, ea_cons, ev]
      simp only [Res.bnd_ok, ea_nil, fz, hm, Res.opt_some]
    · refine seq_of (l1 := EL i j w h r u v n f x2 (some (.own (xs ++ [(⟨r.x + tv (-s) * v, r.y + tv s * u, 1⟩ : V).d]))) (some (.int s)) x5 x6 x13 (some (.own [sh (r.x + tv (-s) * v), sh (r.y + tv s * u)])) x15 x16 x17 x18) (b1 := bx) ?_ (by simp)
      have q1 : ownL ⟨EL i j w h r u v n f x2 (some (.own xs)) (some (.int s)) x5 x6 x13 (some (.own [sh (r.x + tv (-s) * v), sh (r.y + tv s * u)])) x15 x16 x17 x18, bx⟩ 3 = true := rfl
      have ev : evE (cc L k) (.tup (.cons (.ixv 14 (.cst (.int 0))) (.cons (.ixv 14 (.cst (.int 1))) (.cons (.tup (.cons (.cst (.int 1)) (.cons (.cst (.int 1)) .nil))) .nil)))) ⟨EL i j w h r u v n f x2 (some (.own xs)) (some (.int s)) x5 x6 x13 (some (.own [sh (r.x + tv (-s) * v), sh (r.y + tv s * u)])) x15 x16 x17 x18, bx⟩ = .ok (⟨r.x + tv (-s) * v, r.y + tv s * u, 1⟩ : V).d ⟨EL i j w h r u v n f x2 (some (.own xs)) (some (.int s)) x5 x6 x13 (some (.own [sh (r.x + tv (-s) * v), sh (r.y + tv s * u)])) x15 x16 x17 x18, bx⟩ := by
        simp [EL]
        rfl
      have hm : mutD ⟨EL i j w h r u v n f x2 (some (.own xs)) (some (.int s)) x5 x6 x13 (some (.own [sh (r.x + tv (-s) * v), sh (r.y + tv s * u)])) x15 x16 x17 x18, bx⟩ 3 .append [(⟨r.x + tv (-s) * v, r.y + tv s * u, 1⟩ : V).d] = some (.non, ⟨EL i j w h r u v n f x2 (some (.own (xs ++ [(⟨r.x + tv (-s) * v, r.y + tv s * u, 1⟩ : V).d]))) (some (.int s)) x5 x6 x13 (some (.own [sh (r.x + tv (-s) * v), sh (r.y + tv s * u)])) x15 x16 x17 x18, bx⟩) := by
        have e1 : xs.length < 16777216 := by omega
        simp [mutD, e1, EL]
      have fz : (⟨r.x + tv (-s) * v, r.y + tv s * u, 1⟩ : V).d.frz = (⟨r.x + tv (-s) * v, r.y + tv s * u, 1⟩ : V).d := rfl
      rw [es_ex, ev_mut, if_pos q1, ea_cons, ev]
      simp only [Res.bnd_ok, ea_nil, fz, hm, Res.opt_some]
  rw [s1]
end
end Q.K26
end

section
set_option maxRecDepth 100000
set_option maxHeartbeats 4000000
set_option exponentiation.threshold 70
/-! U26l: a side's piece is covered, hit and owned as own signs tell. -/
namespace Q.K26
open PySem L2 Q
def co1 : St := (.asv 15 (.lc (.tup (.cons (.var 20) (.cons (.tup (.cons (.tup (.cons (.cst (.int 1)) (.cons (.cst (.int 1)) .nil))) .nil)) .nil))) (.var 20) (.its (.call 54 (.cons (.var 0) (.cons (.bin .add (.var 2) (.lst (.cons (.var 6) .nil))) .nil)))) .nil [20]))
def co2 : St := (.asv 16 (.tup (.cons (.cst (.int 0)) (.cons (.ixv 15 (.cst (.int 0))) (.cons (.ixv 15 (.cst (.int 1))) (.cons (.ixv 15 (.cst (.int 2))) .nil))))))
def co3 : St := (.asv 17 (.call 50 (.cons (.var 16) (.cons (.var 7) (.cons (.var 8) (.cons (.var 1) .nil))))))
def co4 : St := (.asv 18 (.call 41 (.cons (.tup (.cons (.cst (.int 0)) (.cons (.ixv 15 (.cst (.int 0))) (.cons (.ixv 15 (.cst (.int 1))) (.cons (.ixv 15 (.cst (.int 2))) .nil))))) (.cons (.tup (.cons (.tup (.cons (.cst (.int 0)) (.cons (.cst (.int 0)) (.cons (.cst (.int 1)) (.cons (.cst (.int 1)) .nil))))) .nil)) (.cons (.var 7) (.cons (.var 8) (.cons (.var 1) .nil)))))))
def co5 : St := (.ite (.or (.tru (.cmp .ne (.var 17) (.call 68 (.cons (.call 72 (.cons (.var 16) .nil)) (.cons (.var 9) .nil))))) (.tru (.cmp .ne (.cmp .eq (.ixv 18 (.cst (.int 0))) (.cst (.str "hit"))) (.var 17)))) (.seq (.ret (.cst (.bl false))) .nil) .nil)
def co6 : St := (.ex (.mut .append 5 (.cons (.var 17) .nil)))
def coB : St := .seq co1 (.seq co2 (.seq co3 (.seq co4 (.seq co5 (.seq co6 .nil)))))
theorem coB_eq : coB = (.seq (.asv 15 (.lc (.tup (.cons (.var 20) (.cons (.tup (.cons (.tup (.cons (.cst (.int 1)) (.cons (.cst (.int 1)) .nil))) .nil)) .nil))) (.var 20) (.its (.call 54 (.cons (.var 0) (.cons (.bin .add (.var 2) (.lst (.cons (.var 6) .nil))) .nil)))) .nil [20])) (.seq (.asv 16 (.tup (.cons (.cst (.int 0)) (.cons (.ixv 15 (.cst (.int 0))) (.cons (.ixv 15 (.cst (.int 1))) (.cons (.ixv 15 (.cst (.int 2))) .nil)))))) (.seq (.asv 17 (.call 50 (.cons (.var 16) (.cons (.var 7) (.cons (.var 8) (.cons (.var 1) .nil)))))) (.seq (.asv 18 (.call 41 (.cons (.tup (.cons (.cst (.int 0)) (.cons (.ixv 15 (.cst (.int 0))) (.cons (.ixv 15 (.cst (.int 1))) (.cons (.ixv 15 (.cst (.int 2))) .nil))))) (.cons (.tup (.cons (.tup (.cons (.cst (.int 0)) (.cons (.cst (.int 0)) (.cons (.cst (.int 1)) (.cons (.cst (.int 1)) .nil))))) .nil)) (.cons (.var 7) (.cons (.var 8) (.cons (.var 1) .nil))))))) (.seq (.ite (.or (.tru (.cmp .ne (.var 17) (.call 68 (.cons (.call 72 (.cons (.var 16) .nil)) (.cons (.var 9) .nil))))) (.tru (.cmp .ne (.cmp .eq (.ixv 18 (.cst (.int 0))) (.cst (.str "hit"))) (.var 17)))) (.seq (.ret (.cst (.bl false))) .nil) .nil) (.seq (.ex (.mut .append 5 (.cons (.var 17) .nil))) .nil)))))) := rfl
theorem lc_mapB {α : Type} (xs : List α) (f g : α → D) {c : Env} {elt tg it : E} {own : List Nat} {l l1 : List (Option D)} {bx bx1 : List (List D)} (hi : evI c it ⟨l, bx⟩ = .ok (xs.map f) ⟨l1, bx1⟩) (hl : xs.length ≤ LINE) (hf : S.frzs ⟨l1, bx1⟩ own = ⟨l1, bx1⟩)
    (h : ∀ x, x ∈ xs → ∃ l2 l3 y, asgT tg (f x) ⟨wipeL l1 own, bx1⟩ = some ⟨l2, bx1⟩ ∧ evE c elt ⟨l2, bx1⟩ = .ok y ⟨l3, bx1⟩ ∧ y.frz = g x ∧ wipeL l3 own = wipeL l1 own) : evE c (.lc elt tg it .nil own) ⟨l, bx⟩ = .ok (.own (xs.map g)) ⟨l1, bx1⟩ := by
  obtain ⟨b', ys, e1, rfl, e2⟩ := lc_st (c := c) (elt := elt) (tg := tg) (it := it) (own := own) (ds := xs.map f) (l := l) (l1 := l1) (bx := bx) (bx1 := bx1) (fun i b acc => b = bx1 ∧ acc = (xs.take i).map g) hi (by simpa using hl) hf ⟨rfl, by simp⟩ fun i d b acc hd ⟨hb, ha⟩ => by
    subst hb
    rw [List.getElem?_map] at hd
    cases hx : xs[i]? with
    | none => rw [hx] at hd; simp at hd
    | some x =>
      rw [hx] at hd
      simp at hd
      subst hd
      obtain ⟨l2, l3, y, a1, a2, a3, a4⟩ := h x (List.mem_of_getElem? hx)
      refine ⟨l2, l3, _, y, a1, a2, a4, rfl, ?_⟩
      rw [ha, a3, List.take_add_one, hx]
      simp
  rw [e1, e2, List.length_map, List.take_length]
theorem perm_map_inv (g : V → D) : ∀ {ys zs : List D}, ys.Perm zs → ∀ xs : List V, zs = xs.map g → ∃ vs : List V, vs.Perm xs ∧ ys = vs.map g := by
  intro ys zs h
  induction h with
  | nil => intro xs hx; exact ⟨[], by cases xs with | nil => exact List.Perm.refl _ | cons a b => simp at hx, rfl⟩
  | cons x h ih =>
    intro xs hx
    cases xs with
    | nil => simp at hx
    | cons a b =>
      simp at hx
      obtain ⟨vs, p, e⟩ := ih b hx.2
      exact ⟨a :: vs, p.cons a, by simp [e, hx.1]⟩
  | swap x y l =>
    intro xs hx
    match xs, hx with
    | a :: b :: r, hx =>
      simp at hx
      exact ⟨b :: a :: r, List.Perm.swap a b r, by simp [hx.1, hx.2.1, hx.2.2]⟩
  | trans h1 h2 ih1 ih2 =>
    intro xs hx
    obtain ⟨vs, p, e⟩ := ih2 xs hx
    obtain ⟨ws, p', e'⟩ := ih1 vs e
    exact ⟨ws, p'.trans p, e'⟩
theorem w0_ok : Wok [w0] := ⟨⟨[], rfl⟩, by simp, fun w hw => by
  simp at hw
  subst hw
  exact ⟨by decide, by decide, by decide, by decide, by decide⟩⟩
structure Pt (v : V) : Prop where
  x : Hm 2 8 v.x
  y : Hm 2 8 v.y
  z : Hm 2 8 v.z
  z1 : 1 ≤ v.z
theorem Pt.ck {v : V} (h : Pt v) : Ck 1 ⟨v, [1]⟩ := ⟨h.x, h.y, h.z, h.z1, fun q hq => by
  simp at hq
  subst hq
  exact hm_int (i := 1) (by omega), rfl⟩
section
variable {L : Nat} (hL : 2 ^ 9000 ≤ L) {i j w h : Int} {u v n f : Rat}
include hL
theorem co_step {k m : Nat} (hk : 9 ≤ k) (hm : m < 2 ^ 37) {bx : List (List D)} (hh : Hd m bx) (w1 : 1 ≤ w) (w2 : w ≤ 5) (h1 : 1 ≤ h) (h2 : h ≤ 5) (i1 : 0 ≤ i) (i2 : i < w) (j1 : 0 ≤ j) (j2 : j < h) {A B C : V} (hA : Pt A) (hB : Pt B) (hC : Pt C) {X : D} (hX : X = .own [A.d, B.d] ∨ X = .lst [A.d, B.d]) (cs : List D) (hcs : cs.length < 10) (x3 x4 x6 x13 x14 x15 x16 x17 x18 : Option D) :
    ∃ y15 y16 y17 y18 bx', forT (cc L k) L (.var 6) coB C.d ⟨EL i j w h (rayV w h i j) u v n f (some X) x3 x4 (some (.own cs)) x6 x13 x14 x15 x16 x17 x18, bx⟩ = .ok .nx ⟨EL i j w h (rayV w h i j) u v n f (some (.lst [A.d, B.d])) x3 x4 (some (.own (cs ++ [.bl (lownB A B C (rayV w h i j))]))) (some C.d) x13 x14 y15 y16 y17 y18, bx'⟩ ∧ Hd (m + 3) bx' := by
  have rz : (rayV w h i j).z = 1 := rfl
  have zr := rayV_z w1 w2 h1 h2 i1 i2 j1 j2
  obtain ⟨ys, b1, p1, d1, e1⟩ := mixed_r (n := k) (by omega) hL (xs := [A.d, B.d, C.d]) (by simp; omega) (by simp) (fun d hd => by
    simp at hd
    rcases hd with rfl | rfl | rfl <;> rfl) hh
  obtain ⟨vs, pv, rfl⟩ := perm_map_inv V.d p1 [A, B, C] rfl
  have hl := pv.length_eq
  match vs, hl with
  | [a, b, c], _ =>
  have pt : ∀ v, v ∈ [a, b, c] → Pt v := fun v hv => by
    have := pv.mem_iff.mp hv
    simp at this
    rcases this with rfl | rfl | rfl <;> assumption
  obtain ⟨t, ht, td, tp, tq, ts⟩ := pc_of (k := 1) (by omega) (by omega) (pt a (by simp)).ck (pt b (by simp)).ck (pt c (by simp)).ck
  simp only at tp tq ts
  have ho : lownB t.p t.q t.s (rayV w h i j) = lownB A B C (rayV w h i j) := by rw [tp, tq, ts]; exact own_perm pv
  have c1 := pcovers_ok hL (n := k) (by omega) ht w1 w2 h1 h2 i1 i2 j1 j2
  rw [← lown_eq rz ht.ahd.1 ht.ahd.2.1 ht.ahd.2.2, ho] at c1
  have hw : Wok [w0] := w0_ok
  have c2 := hit_ok hL (n := k) (by omega) ht.ok hw w1 w2 h1 h2 i1 i2 j1 j2
  obtain ⟨xs', rest, m1, m2⟩ := met_first t.p t.q t.s (rayV w h i j) rz (ht.pt t.p (by simp)).2.2.2 (ht.pt t.q (by simp)).2.2.2 (ht.pt t.s (by simp)).2.2.2
  obtain ⟨xx, hxx⟩ : ∃ xx, xx = D.str xs' := ⟨_, rfl⟩
  have fx : xx.frz = xx := by rw [hxx]; rfl
  rw [← hxx] at m1 m2
  rw [m1] at c2
  rw [ho] at m2
  have c3 := lpoints_ok hL (n := k) (by omega) t
  have c4 := lowns_ok hL (n := k) (by omega) ht.zp.1 ht.zp.2.1 ht.zp.2.2 (by omega) zr
  rw [ho] at c4
  generalize lownB A B C (rayV w h i j) = fl at *
  generalize rayV w h i j = r at *
  have wD : D.tup [.tup [.int 0, .int 0, .int 1, .int 1]] = wsD [w0] := rfl
  refine ⟨some (.own ([a, b, c].map fun v => crn v [1])), some t.d, some (.bl fl), some (.tup (xx :: rest)), b1, ?_, e1⟩
  have ea : asgT (.var 6) C.d ⟨EL i j w h r u v n f (some X) x3 x4 (some (.own cs)) x6 x13 x14 x15 x16 x17 x18, bx⟩ = some ⟨EL i j w h r u v n f (some X) x3 x4 (some (.own cs)) (some C.d) x13 x14 x15 x16 x17 x18, bx⟩ := rfl
  unfold forT
  rw [ea, Res.opt_some, Res.bnd_ok]
  have s1 : evS (cc L k) L coB ⟨EL i j w h r u v n f (some X) x3 x4 (some (.own cs)) (some C.d) x13 x14 x15 x16 x17 x18, bx⟩ = .ok .nx ⟨EL i j w h r u v n f (some (.lst [A.d, B.d])) x3 x4 (some (.own (cs ++ [.bl fl]))) (some C.d) x13 x14 (some (.own ([a, b, c].map fun v => crn v [1]))) (some t.d) (some (.bl fl)) (some (.tup (xx :: rest))), b1⟩ := by
    have hI : evI (cc L k) (.its (.call 54 (.cons (.var 0) (.cons (.bin .add (.var 2) (.lst (.cons (.var 6) .nil))) .nil)))) ⟨EL i j w h r u v n f (some X) x3 x4 (some (.own cs)) (some C.d) x13 x14 x15 x16 x17 x18, bx⟩ = .ok ([a, b, c].map V.d) ⟨EL i j w h r u v n f (some (.lst [A.d, B.d])) x3 x4 (some (.own cs)) (some C.d) x13 x14 x15 x16 x17 x18, b1⟩ := by
      rcases hX with rfl | rfl <;> simp [EL, d1]
    have hlc := lc_mapB (c := cc L k) (elt := .tup (.cons (.var 20) (.cons (.tup (.cons (.tup (.cons (.cst (.int 1)) (.cons (.cst (.int 1)) .nil))) .nil)) .nil))) (tg := .var 20) (own := [20]) [a, b, c] V.d (fun v => crn v [1]) hI (by show 3 ≤ 16777216; omega) (by simp [S.frzs, S.frz, EL]) fun x hx => by
      refine ⟨[some (.box 0), some (.tup [.int i, .int j]), some (.lst [A.d, B.d]), x3, x4, some (.own cs), some C.d, some (.int w), some (.int h), some r.d, some (.tup [sh u, sh v]), some (sh n), some (sh f), x13, x14, x15, x16, x17, x18, none, some x.d], [some (.box 0), some (.tup [.int i, .int j]), some (.lst [A.d, B.d]), x3, x4, some (.own cs), some C.d, some (.int w), some (.int h), some r.d, some (.tup [sh u, sh v]), some (sh n), some (sh f), x13, x14, x15, x16, x17, x18, none, some x.d], crn x [1], by simp [asgT, wipeL, EL], ?_, rfl, by simp [wipeL, EL]⟩
      simp
      rfl
    have e3 : D.tup [.int 0, crn a [1], crn b [1], crn c [1]] = t.d := td.symm
    have gt : ∀ (l : List (Option D)) (b : List (List D)) (q : Nat), gv (some (some t.d)) l b q = .ok t.d ⟨l, b⟩ := fun l b q => rfl
    have ft : t.d.frz = t.d := rfl
    have neB : ∀ x : Bool, opC .ne (.bl x) (.bl x) = some false := fun x => by simp
    refine seq_of (l1 := EL i j w h r u v n f (some (.lst [A.d, B.d])) x3 x4 (some (.own cs)) (some C.d) x13 x14 (some (.own ([a, b, c].map fun v => crn v [1]))) x16 x17 x18) (b1 := b1) (by unfold co1; rw [es_asv, hlc]; simp [EL]) ?_
    refine seq_of (l1 := EL i j w h r u v n f (some (.lst [A.d, B.d])) x3 x4 (some (.own cs)) (some C.d) x13 x14 (some (.own ([a, b, c].map fun v => crn v [1]))) (some t.d) x17 x18) (b1 := b1) (by rw [← e3]; simp [co2, EL]) ?_
    refine seq_of (l1 := EL i j w h r u v n f (some (.lst [A.d, B.d])) x3 x4 (some (.own cs)) (some C.d) x13 x14 (some (.own ([a, b, c].map fun v => crn v [1]))) (some t.d) (some (.bl fl)) x18) (b1 := b1) (by simp [co3, EL, gt, ft, c1.r]) ?_
    refine seq_of (l1 := EL i j w h r u v n f (some (.lst [A.d, B.d])) x3 x4 (some (.own cs)) (some C.d) x13 x14 (some (.own ([a, b, c].map fun v => crn v [1]))) (some t.d) (some (.bl fl)) (some (.tup (xx :: rest)))) (b1 := b1) (by rw [← e3] at c2; rw [← wD] at c2; simp [co4, EL, c2.r]) ?_
    refine seq_of (l1 := EL i j w h r u v n f (some (.lst [A.d, B.d])) x3 x4 (some (.own cs)) (some C.d) x13 x14 (some (.own ([a, b, c].map fun v => crn v [1]))) (some t.d) (some (.bl fl)) (some (.tup (xx :: rest)))) (b1 := b1) ?_ ?_
    · have c4' : Pu L k 68 [.lst [t.p.d, t.q.d, t.s.d], r.d] (.bl fl) := c4
      simp [co5, EL, gt, ft, c3.r, c4'.r, fx, m2, neB, -opC_ne, -opC_eq]
    · have q1 : ownL ⟨EL i j w h r u v n f (some (.lst [A.d, B.d])) x3 x4 (some (.own cs)) (some C.d) x13 x14 (some (.own ([a, b, c].map fun v => crn v [1]))) (some t.d) (some (.bl fl)) (some (.tup (xx :: rest))), b1⟩ 5 = true := rfl
      have hm : mutD ⟨EL i j w h r u v n f (some (.lst [A.d, B.d])) x3 x4 (some (.own cs)) (some C.d) x13 x14 (some (.own ([a, b, c].map fun v => crn v [1]))) (some t.d) (some (.bl fl)) (some (.tup (xx :: rest))), b1⟩ 5 .append [.bl fl] = some (.non, ⟨EL i j w h r u v n f (some (.lst [A.d, B.d])) x3 x4 (some (.own (cs ++ [.bl fl]))) (some C.d) x13 x14 (some (.own ([a, b, c].map fun v => crn v [1]))) (some t.d) (some (.bl fl)) (some (.tup (xx :: rest))), b1⟩) := by
        have e1 : cs.length < 16777216 := by omega
        simp [mutD, e1, EL]
      have ev : evE (cc L k) (.var 17) ⟨EL i j w h r u v n f (some (.lst [A.d, B.d])) x3 x4 (some (.own cs)) (some C.d) x13 x14 (some (.own ([a, b, c].map fun v => crn v [1]))) (some t.d) (some (.bl fl)) (some (.tup (xx :: rest))), b1⟩ = .ok (.bl fl) ⟨EL i j w h r u v n f (some (.lst [A.d, B.d])) x3 x4 (some (.own cs)) (some C.d) x13 x14 (some (.own ([a, b, c].map fun v => crn v [1]))) (some t.d) (some (.bl fl)) (some (.tup (xx :: rest))), b1⟩ := by simp [EL]
      unfold co6
      rw [es_seq, es_ex, ev_mut, if_pos q1, ea_cons, ev]
      simp only [Res.bnd_ok, ea_nil, frz_bl, hm, Res.opt_some, seqK_nx, es_nil]
  rw [s1]
end
end Q.K26
end

section
set_option maxRecDepth 100000
set_option maxHeartbeats 4000000
set_option exponentiation.threshold 70
/-! U26m: edges are right. -/
namespace Q.K26
open PySem L2 Q
theorem tv1 : tv 1 = 1 := rfl
theorem tvm : tv (-1) = -1 := rfl
theorem hm_mk {i : Int} (h : i.natAbs < 4) : Hm 2 8 (i : Rat) := hm_int (by omega)
theorem pt_end {r : V} (hx : Hm 2 4 r.x) (hy : Hm 2 4 r.y) {u v : Rat} (hu : Hm 2 4 u) (hv : Hm 2 4 v) {N : Int} (h1 : 1 ≤ N) (h2 : N ≤ 3) : Pt ⟨(r.x + u) * (N : Rat), (r.y + v) * (N : Rat), (N : Rat)⟩ :=
  ⟨(hm_muln (hx.add hu (by omega)) (by omega)).up (by omega), (hm_muln (hy.add hv (by omega)) (by omega)).up (by omega), hm_mk (by omega), by
    have : ((1 : Int) : Rat) ≤ (N : Rat) := Rat.intCast_le_intCast.mpr h1
    exact this⟩
theorem pt_side {r : V} (hx : Hm 2 4 r.x) (hy : Hm 2 4 r.y) {u v : Rat} (hu : Hm 2 4 u) (hv : Hm 2 4 v) : Pt ⟨r.x + v, r.y + u, 1⟩ :=
  ⟨(hx.add hv (by omega)).up (by omega), (hy.add hu (by omega)).up (by omega), hm_int (i := 1) (by omega), by show (1 : Rat) ≤ 1; grind⟩
section
variable {L : Nat} (hL : 2 ^ 9000 ≤ L)
include hL
theorem edge_r {n m : Nat} (hn : 10 ≤ n) (hm : m < 2 ^ 34) {bx : List (List D)} (hh : Hd m bx) : ∃ bx', (∀ l, callR (cc L n) 77 [.box 0] ⟨l, bx⟩ = .ok (.bl true) ⟨l, bx'⟩) ∧ Hd (m + 20) bx' := by
  obtain ⟨k, rfl⟩ : ∃ k, n = k + 1 := ⟨n - 1, by omega⟩
  obtain ⟨w, h, b1, w1, w2, h1, h2, d1, e1⟩ := size_r hL (n := k) (by omega) (by omega) hh
  obtain ⟨i, b2, d2, i1, i2, e2⟩ := pick_r (L := L) (n := k) (by omega) (many := w) (by omega) (by omega) (by omega) e1
  obtain ⟨j, b3, d3, j1, j2, e3⟩ := pick_r (L := L) (n := k) (by omega) (many := h) (by omega) (by omega) (by omega) e2
  have c1 := lray_ok hL (n := k) (by omega) w1 w2 h1 h2 i1 i2 j1 j2
  obtain ⟨u0, b4, hu0, d4, e4⟩ := number_r hL (n := k) (by omega) (by omega) e3 (z := 3) (by omega) (by omega)
  obtain ⟨v0, b5, hv0, d5, e5⟩ := number_r hL (n := k) (by omega) (by omega) e4 (z := 3) (by omega) (by omega)
  obtain ⟨p1, b6, d6, p2, p3, e6⟩ := pick_r (L := L) (n := k) (by omega) (many := 2) (by omega) (by omega) (by omega) e5
  obtain ⟨p4, b7, d7, p5, p6, e7⟩ := pick_r (L := L) (n := k) (by omega) (many := 3) (by omega) (by omega) (by omega) e6
  have zr := rayV_z w1 w2 h1 h2 i1 i2 j1 j2
  have rz : (rayV w h i j).z = 1 := rfl
  have hx : Hm 2 4 (rayV w h i j).x := hm_half (by omega)
  have hy : Hm 2 4 (rayV w h i j).y := hm_half (by omega)
  have hs : startL ⟨1, 21, i77⟩ [.box 0] = [some (.box 0), none, none, none, none, none, none, none, none, none, none, none, none, none, none, none, none, none, none, none, none] := rfl
  have ea : asgT (.tup (.cons (.var 7) (.cons (.var 8) .nil))) (.tup [.int w, .int h]) ⟨[some (.box 0), none, none, none, none, none, none, none, none, none, none, none, none, none, none, none, none, none, none, none, none], b1⟩ = some ⟨[some (.box 0), none, none, none, none, none, none, some (.int w), some (.int h), none, none, none, none, none, none, none, none, none, none, none, none], b1⟩ := rfl
  have eb : ∀ (x y : D) (b : List (List D)), asgT (.tup (.cons (.var 9) (.cons (.var 10) .nil))) (.tup [x, y]) ⟨[some (.box 0), some (.tup [.int i, .int j]), none, none, none, none, none, some (.int w), some (.int h), none, none, none, none, none, none, none, none, none, none, none, none], b⟩ = some ⟨[some (.box 0), some (.tup [.int i, .int j]), none, none, none, none, none, some (.int w), some (.int h), some x, some y, none, none, none, none, none, none, none, none, none, none], b⟩ := fun x y b => rfl
  -- the way, not both zero
  obtain ⟨u, v, hu, hv, hne, hsel⟩ : ∃ u v : Rat, Hm 2 4 u ∧ Hm 2 4 v ∧ ¬ (u = 0 ∧ v = 0) ∧ ((¬ (u0 = 0 ∧ v0 = 0) ∧ u = u0 ∧ v = v0) ∨ ((u0 = 0 ∧ v0 = 0) ∧ u = 1 ∧ v = 0)) := by
    by_cases c : u0 = 0 ∧ v0 = 0
    · exact ⟨1, 0, hm_int (i := 1) (by omega), hm_zero, by rintro ⟨a, _⟩; exact absurd a (by decide), .inr ⟨c, rfl, rfl⟩⟩
    · exact ⟨u0, v0, hu0, hv0, c, .inl ⟨c, rfl, rfl⟩⟩
  have zu : Sz 10 u := (hu.s2 (by omega)).mono (by omega)
  have zv : Sz 10 v := (hv.s2 (by omega)).mono (by omega)
  have zn : ∀ {q : Int}, 0 ≤ q → q < 3 → Sz 10 (((1 + q : Int)) : Rat) := fun a b => sz_int (by omega) (by omega)
  have st0 : evS (cc L k) L (.ite (.tru (.cmp .eq (.var 10) (.tup (.cons (.tup (.cons (.cst (.int 0)) (.cons (.cst (.int 1)) .nil))) (.cons (.tup (.cons (.cst (.int 0)) (.cons (.cst (.int 1)) .nil))) .nil))))) (.seq (.asv 10 (.tup (.cons (.tup (.cons (.cst (.int 1)) (.cons (.cst (.int 1)) .nil))) (.cons (.tup (.cons (.cst (.int 0)) (.cons (.cst (.int 1)) .nil))) .nil)))) .nil) .nil) ⟨[some (.box 0), some (.tup [.int i, .int j]), none, none, none, none, none, some (.int w), some (.int h), some (rayV w h i j).d, some (.tup [sh u0, sh v0]), none, none, none, none, none, none, none, none, none, none], b5⟩ = .ok .nx ⟨[some (.box 0), some (.tup [.int i, .int j]), none, none, none, none, none, some (.int w), some (.int h), some (rayV w h i j).d, some (.tup [sh u, sh v]), none, none, none, none, none, none, none, none, none, none], b5⟩ := by
    have z0 : D.tup [.tup [.int 0, .int 1], .tup [.int 0, .int 1]] = .tup [sh 0, sh 0] := rfl
    have o0 : D.tup [.tup [.int 1, .int 1], .tup [.int 0, .int 1]] = .tup [sh 1, sh 0] := rfl
    have q : opC .eq (.tup [sh u0, sh v0]) (.tup [sh 0, sh 0]) = some (decide (u0 = 0) && decide (v0 = 0)) := by
      have s1 : shN 60 (.tup [sh u0, sh v0]) = true := rfl
      have s2 : shN 60 (.tup [sh 0, sh 0]) = true := rfl
      rw [opC_eq, s1, s2]
      show some (eqD (sh u0) (sh 0) && (eqD (sh v0) (sh 0) && true)) = _
      rw [eqD_sh, eqD_sh, Bool.and_true]
    rcases hsel with ⟨c, rfl, rfl⟩ | ⟨c, rfl, rfl⟩
    · have qf : (decide (u = 0) && decide (v = 0)) = false := by
        rw [Bool.eq_false_iff]; simp; exact fun a b => c ⟨a, b⟩
      rw [qf] at q
      simp [z0, q, -opC_eq]
    · simp only [c.1, c.2] at q ⊢
      simp only [decide_true, Bool.and_true] at q
      simp [z0, o0, q, -opC_eq]
  clear hsel
  generalize hN : (1 + p1 : Int) = N at *
  generalize hF : (1 + p4 : Int) = F at *
  have N1 : 1 ≤ N := by omega
  have N3 : N ≤ 3 := by omega
  have F1 : 1 ≤ F := by omega
  have F3 : F ≤ 3 := by omega
  have zN : Sz 10 (N : Rat) := sz_int (by omega) (by omega)
  have zF : Sz 10 (F : Rat) := sz_int (by omega) (by omega)
  obtain ⟨y4, y13, y14, s1⟩ := en_step hL (i := i) (j := j) (w := w) (h := h) (n := (N : Rat)) (f := (F : Rat)) (k := k) (by omega) zr zu zv (s := 1) (by omega) zN [] (by simp) none none none none none none none none none none b7
  obtain ⟨z4, z13, z14, s2⟩ := en_step hL (i := i) (j := j) (w := w) (h := h) (n := (N : Rat)) (f := (F : Rat)) (k := k) (by omega) zr zu zv (s := -1) (by omega) zF [(⟨((rayV w h i j).x + tv 1 * u) * (N : Rat), ((rayV w h i j).y + tv 1 * v) * (N : Rat), (N : Rat)⟩ : V).d] (by simp) none y4 none none y13 y14 none none none none b7
  have eAd : (⟨((rayV w h i j).x + tv 1 * u) * (N : Rat), ((rayV w h i j).y + tv 1 * v) * (N : Rat), (N : Rat)⟩ : V) = eA (rayV w h i j) u v N := by
    unfold eA; rw [tv1, Rat.one_mul, Rat.one_mul]
  have eBd : (⟨((rayV w h i j).x + tv (-1) * u) * (F : Rat), ((rayV w h i j).y + tv (-1) * v) * (F : Rat), (F : Rat)⟩ : V) = eB' (rayV w h i j) u v F := by
    unfold eB'; rw [tvm, show (rayV w h i j).x + -1 * u = (rayV w h i j).x - u by grind, show (rayV w h i j).y + -1 * v = (rayV w h i j).y - v by grind]
  rw [eAd] at s1 s2
  rw [eBd] at s2
  have pA : Pt (eA (rayV w h i j) u v N) := pt_end hx hy hu hv N1 N3
  have pB : Pt (eB' (rayV w h i j) u v F) := by
    have := pt_end hx hy hu.neg hv.neg F1 F3
    rw [← Rat.sub_eq_add_neg, ← Rat.sub_eq_add_neg] at this
    exact this
  obtain ⟨x4, x14, s3⟩ := sd_step hL (i := i) (j := j) (w := w) (h := h) (n := (N : Rat)) (f := (F : Rat)) (k := k) (by omega) zr zu zv (s := 1) (by omega) [] (by simp) (some (.own [(eA (rayV w h i j) u v N).d, (eB' (rayV w h i j) u v F).d])) z4 none none z13 z14 none none none none b7
  have eCd : (⟨(rayV w h i j).x + tv (-1) * v, (rayV w h i j).y + tv 1 * u, 1⟩ : V) = eC (rayV w h i j) u v := by
    unfold eC; rw [tv1, tvm, Rat.one_mul, show (rayV w h i j).x + -1 * v = (rayV w h i j).x - v by grind]
  have eDd : (⟨(rayV w h i j).x + tv (- -1) * v, (rayV w h i j).y + tv (-1) * u, 1⟩ : V) = eD (rayV w h i j) u v := by
    have t1 : tv (- -1) = 1 := rfl
    unfold eD; rw [t1, tvm, Rat.one_mul, show (rayV w h i j).y + -1 * u = (rayV w h i j).y - u by grind]
  rw [eCd] at s3
  obtain ⟨v4, v14, s4⟩ := sd_step hL (i := i) (j := j) (w := w) (h := h) (n := (N : Rat)) (f := (F : Rat)) (k := k) (by omega) zr zu zv (s := -1) (by omega) [(eC (rayV w h i j) u v).d] (by simp) (some (.own [(eA (rayV w h i j) u v N).d, (eB' (rayV w h i j) u v F).d])) x4 none none z13 x14 none none none none b7
  rw [eDd] at s4
  have pC : Pt (eC (rayV w h i j) u v) := by
    have := pt_side hx hy hu hv.neg
    rw [← Rat.sub_eq_add_neg] at this
    exact this
  have pD : Pt (eD (rayV w h i j) u v) := by
    have := pt_side hx hy hu.neg hv
    rw [← Rat.sub_eq_add_neg] at this
    exact this
  obtain ⟨a15, a16, a17, a18, b8, s5, e8⟩ := co_step hL (u := u) (v := v) (n := (N : Rat)) (f := (F : Rat)) (k := k) (by omega) (by omega) e7 w1 w2 h1 h2 i1 i2 j1 j2 pA pB pC (X := .own [(eA (rayV w h i j) u v N).d, (eB' (rayV w h i j) u v F).d]) (.inl rfl) [] (by simp) (some (.lst [(eC (rayV w h i j) u v).d, (eD (rayV w h i j) u v).d])) v4 none z13 v14 none none none none
  obtain ⟨c15, c16, c17, c18, b9, s6, e9⟩ := co_step hL (u := u) (v := v) (n := (N : Rat)) (f := (F : Rat)) (k := k) (by omega) (by omega) e8 w1 w2 h1 h2 i1 i2 j1 j2 pA pB pD (X := .lst [(eA (rayV w h i j) u v N).d, (eB' (rayV w h i j) u v F).d]) (.inr rfl) [.bl (lownB (eA (rayV w h i j) u v N) (eB' (rayV w h i j) u v F) (eC (rayV w h i j) u v) (rayV w h i j))] (by simp) (some (.lst [(eC (rayV w h i j) u v).d, (eD (rayV w h i j) u v).d])) v4 (some (eC (rayV w h i j) u v).d) z13 v14 a15 a16 a17 a18
  have kN : (0 : Rat) < N := Rat.intCast_pos.mpr (by omega)
  have kF : (0 : Rat) < F := Rat.intCast_pos.mpr (by omega)
  have one := edge_one rz hne kN kF
  generalize lownB (eA (rayV w h i j) u v N) (eB' (rayV w h i j) u v F) (eC (rayV w h i j) u v) (rayV w h i j) = f1 at *
  generalize lownB (eA (rayV w h i j) u v N) (eB' (rayV w h i j) u v F) (eD (rayV w h i j) u v) (rayV w h i j) = f2 at *
  generalize rayV w h i j = r at *
  generalize eA r u v N = A at *
  generalize eB' r u v F = B at *
  generalize eC r u v = C at *
  generalize eD r u v = E at *
  suffices hC : callN prg.tb prg.gb L (k + 1) 77 [.box 0] bx = .ok (.bl true) b9 from ⟨b9, fun l => callR_ok hC, e9.mono (by omega)⟩
  rw [callN_eq (f := ⟨1, 21, i77⟩) rfl]
  refine runF_rt (s := ⟨EL i j w h r u v N F (some (.lst [A.d, B.d])) (some (.lst [C.d, E.d])) v4 (some (.own [.bl f1, .bl f2])) (some E.d) z13 v14 c15 c16 c17 c18, b9⟩) rfl ?_
  rw [hs]
  refine seq_of (l1 := [some (.box 0), none, none, none, none, none, none, some (.int w), some (.int h), none, none, none, none, none, none, none, none, none, none, none, none]) (b1 := b1) (by simp [d1, ea]) ?_
  refine seq_of (l1 := [some (.box 0), some (.tup [.int i, .int j]), none, none, none, none, none, some (.int w), some (.int h), none, none, none, none, none, none, none, none, none, none, none, none]) (b1 := b3) (by simp [d2, d3]) ?_
  refine seq_of (l1 := [some (.box 0), some (.tup [.int i, .int j]), none, none, none, none, none, some (.int w), some (.int h), some r.d, some (.tup [sh u0, sh v0]), none, none, none, none, none, none, none, none, none, none]) (b1 := b5) (by simp [c1.r, d4, d5, eb]) ?_
  refine seq_of st0 ?_
  have tN : D.tup [.int (1 + p1), .int 1] = sh (N : Rat) := by rw [hN]; exact sh_int N
  have tF : D.tup [.int (1 + p4), .int 1] = sh (F : Rat) := by rw [hF]; exact sh_int F
  refine seq_of (l1 := EL i j w h r u v N F none none none none none none none none none none none) (b1 := b7) (by simp [d6, d7, tN, tF, EL]) ?_
  refine seq_of (l1 := EL i j w h r u v N F (some (.own [])) none none none none none none none none none none) (b1 := b7) (by simp [EL]) ?_
  refine seq_of (l1 := EL i j w h r u v N F (some (.own [A.d, B.d])) none z4 none none z13 z14 none none none none) (b1 := b7) ?_ ?_
  · have hI : evI (cc L k) (.its (.tup (.cons (.tup (.cons (.cst (.int 1)) (.cons (.var 11) .nil))) (.cons (.tup (.cons (.neg (.cst (.int 1))) (.cons (.var 12) .nil))) .nil)))) ⟨EL i j w h r u v N F (some (.own [])) none none none none none none none none none none, b7⟩ = .ok [.tup [.int 1, sh N], .tup [.int (-1), sh F]] ⟨EL i j w h r u v N F (some (.own [])) none none none none none none none none none none, b7⟩ := by simp [EL]
    rw [es_for, hI, Res.bnd_ok]
    simp only [forL]
    show (Res.bnd (forT (cc L k) L _ enB _ _) _) = _
    rw [s1]
    simp only [Res.bnd_ok, List.nil_append]
    show (Res.bnd (forT (cc L k) L _ enB _ _) _) = _
    rw [s2]
    rfl
  refine seq_of (l1 := EL i j w h r u v N F (some (.own [A.d, B.d])) (some (.own [])) z4 none none z13 z14 none none none none) (b1 := b7) (by simp [EL]) ?_
  refine seq_of (l1 := EL i j w h r u v N F (some (.own [A.d, B.d])) (some (.own [C.d, E.d])) v4 none none z13 v14 none none none none) (b1 := b7) ?_ ?_
  · have hI : evI (cc L k) (.its (.tup (.cons (.cst (.int 1)) (.cons (.neg (.cst (.int 1))) .nil)))) ⟨EL i j w h r u v N F (some (.own [A.d, B.d])) (some (.own [])) z4 none none z13 z14 none none none none, b7⟩ = .ok [.int 1, .int (-1)] ⟨EL i j w h r u v N F (some (.own [A.d, B.d])) (some (.own [])) z4 none none z13 z14 none none none none, b7⟩ := by simp [EL]
    rw [es_for, hI, Res.bnd_ok]
    simp only [forL]
    show (Res.bnd (forT (cc L k) L _ sdB _ _) _) = _
    rw [s3]
    simp only [Res.bnd_ok, List.nil_append]
    show (Res.bnd (forT (cc L k) L _ sdB _ _) _) = _
    rw [s4]
    rfl
  refine seq_of (l1 := EL i j w h r u v N F (some (.own [A.d, B.d])) (some (.own [C.d, E.d])) v4 (some (.own [])) none z13 v14 none none none none) (b1 := b7) (by simp [EL]) ?_
  refine seq_of (l1 := EL i j w h r u v N F (some (.lst [A.d, B.d])) (some (.lst [C.d, E.d])) v4 (some (.own [.bl f1, .bl f2])) (some E.d) z13 v14 c15 c16 c17 c18) (b1 := b9) ?_ ?_
  · have hI : evI (cc L k) (.its (.var 3)) ⟨EL i j w h r u v N F (some (.own [A.d, B.d])) (some (.own [C.d, E.d])) v4 (some (.own [])) none z13 v14 none none none none, b7⟩ = .ok [C.d, E.d] ⟨EL i j w h r u v N F (some (.own [A.d, B.d])) (some (.lst [C.d, E.d])) v4 (some (.own [])) none z13 v14 none none none none, b7⟩ := by simp [EL]
    rw [es_for, hI, Res.bnd_ok]
    simp only [forL]
    show (Res.bnd (forT (cc L k) L _ coB _ _) _) = _
    rw [s5]
    simp only [Res.bnd_ok, List.nil_append]
    show (Res.bnd (forT (cc L k) L _ coB _ _) _) = _
    rw [s6]
    rfl
  have q1 : ownL ⟨EL i j w h r u v N F (some (.lst [A.d, B.d])) (some (.lst [C.d, E.d])) v4 (some (.own [.bl f1, .bl f2])) (some E.d) z13 v14 c15 c16 c17 c18, b9⟩ 5 = true := rfl
  have hm' : mutD ⟨EL i j w h r u v N F (some (.lst [A.d, B.d])) (some (.lst [C.d, E.d])) v4 (some (.own [.bl f1, .bl f2])) (some E.d) z13 v14 c15 c16 c17 c18, b9⟩ 5 .count [.bl true] = some (.int 1, ⟨EL i j w h r u v N F (some (.lst [A.d, B.d])) (some (.lst [C.d, E.d])) v4 (some (.own [.bl f1, .bl f2])) (some E.d) z13 v14 c15 c16 c17 c18, b9⟩) := by
    subst one
    cases f2 <;> rfl
  simp [q1, hm']
end
end Q.K26
end

section
set_option maxRecDepth 100000
set_option maxHeartbeats 4000000
set_option exponentiation.threshold 70
/-! U26n: weights; the wall's form. -/
namespace Q.K26
open PySem L2 Q
def ba1 : St := (.asv 14 (.call 63 (.cons (.ixv 11 (.idx (.tup (.cons (.cst (.int 1)) (.cons (.cst (.int 2)) (.cons (.cst (.int 0)) .nil)))) (.var 7))) (.cons (.ixv 11 (.idx (.tup (.cons (.cst (.int 2)) (.cons (.cst (.int 0)) (.cons (.cst (.int 1)) .nil)))) (.var 7))) .nil))))
def ba2 : St := (.asv 15 (.call 60 (.cons (.ixv 6 (.var 7)) (.cons (.var 12) .nil))))
def ba3 : St := (.asv 13 (.lc (.call 57 (.cons (.var 17) (.cons (.call 58 (.cons (.var 15) (.cons (.var 18) .nil))) .nil))) (.tup (.cons (.var 17) (.cons (.var 18) .nil))) (.zip (.var 13) (.var 14)) .nil [17, 18]))
def baB : St := .seq ba1 (.seq ba2 (.seq ba3 .nil))
theorem baB_eq : baB = (.seq (.asv 14 (.call 63 (.cons (.ixv 11 (.idx (.tup (.cons (.cst (.int 1)) (.cons (.cst (.int 2)) (.cons (.cst (.int 0)) .nil)))) (.var 7))) (.cons (.ixv 11 (.idx (.tup (.cons (.cst (.int 2)) (.cons (.cst (.int 0)) (.cons (.cst (.int 1)) .nil)))) (.var 7))) .nil)))) (.seq (.asv 15 (.call 60 (.cons (.ixv 6 (.var 7)) (.cons (.var 12) .nil)))) (.seq (.asv 13 (.lc (.call 57 (.cons (.var 17) (.cons (.call 58 (.cons (.var 15) (.cons (.var 18) .nil))) .nil))) (.tup (.cons (.var 17) (.cons (.var 18) .nil))) (.zip (.var 13) (.var 14)) .nil [17, 18])) .nil))) := rfl
theorem szDiv {k m : Nat} {a b : Rat} (ha : Sz k a) (hb : Sz m b) (h0 : b ≠ 0) : Sz (k + m) (a / b) := by
  have hq0 : b.num ≠ 0 := fun z => h0 (Rat.num_eq_zero.mp z)
  have hn0 : a.den * b.num.natAbs ≠ 0 := Nat.mul_ne_zero a.den_nz (by omega)
  have h1 : (a.num * b.den).natAbs < 2 ^ (k + m) := by rw [Int.natAbs_mul, Nat.pow_add]; exact Nat.mul_lt_mul'' ha.1 (by simpa using hb.2)
  have h2 : a.den * b.num.natAbs < 2 ^ (k + m) := by rw [Nat.pow_add]; exact Nat.mul_lt_mul'' ha.2 hb.1
  rcases Int.lt_or_gt_of_ne hq0 with hn | hp
  · rw [div_neg hn hn0]; exact norm_sz _ (by rwa [Int.natAbs_neg]) h2
  · rw [div_pos hp hn0]; exact norm_sz _ h1 h2
theorem vol_1 (q s r : V) : vol r q s = (q.crs s).dot r := by simp only [vol, V.dot, V.crs]; grind
theorem vol_2 (p s r : V) : vol p r s = (s.crs p).dot r := by simp only [vol, V.dot, V.crs]; grind
theorem vol_3 (p q r : V) : vol p q r = (p.crs q).dot r := by simp only [vol, V.dot, V.crs]; grind
theorem own_ne {p q s r : V} (hr : r.z = 1) (h : lownB p q s r = true) : (whole p q s).dot r ≠ 0 := by
  obtain ⟨h0, h1, h2, h3, h4⟩ := fb_none ((hit_iff hr).mpr h)
  exact whole_ne hr h0 h1 h2 h3 h4
def gap (w : W4) (p : V) : Rat := w.v.dot p - (w.e : Rat)
/-- the wall's form as the law makes it -/
def lwf (p q s : V) (w : W4) : V := (V.smul (gap w p / vol p q s) (q.crs s)).add ((V.smul (gap w q / vol p q s) (s.crs p)).add (V.smul (gap w s / vol p q s) (p.crs q)))
def f1 (p q s : V) (w : W4) : V := (⟨0, 0, 0⟩ : V).add (V.smul (gap w p / vol p q s) (q.crs s))
def f2 (p q s : V) (w : W4) : V := (f1 p q s w).add (V.smul (gap w q / vol p q s) (s.crs p))
def f3 (p q s : V) (w : W4) : V := (f2 p q s w).add (V.smul (gap w s / vol p q s) (p.crs q))
theorem f3_eq {p q s : V} (h : vol p q s ≠ 0) (w : W4) : f3 p q s w = V.smul (1 / vol p q s) (wf p q s w) := by
  have hx := cramer_x p q s
  have key : ∀ (n : V) (e : Rat), V.smul (1 / vol p q s) ((V.smul (vol p q s) n).sub (V.smul e (whole p q s))) = ((((⟨0, 0, 0⟩ : V).add (V.smul ((n.dot p - e) / vol p q s) (q.crs s))).add (V.smul ((n.dot q - e) / vol p q s) (s.crs p))).add (V.smul ((n.dot s - e) / vol p q s) (p.crs q))) := fun n e => by
    have k1 : vol p q s * n.x = (n.dot p) * (q.crs s).x + (n.dot q) * (s.crs p).x + (n.dot s) * (p.crs q).x := by
      simp only [vol, V.dot, V.crs]; grind
    have k2 : vol p q s * n.y = (n.dot p) * (q.crs s).y + (n.dot q) * (s.crs p).y + (n.dot s) * (p.crs q).y := by
      simp only [vol, V.dot, V.crs]; grind
    have k3 : vol p q s * n.z = (n.dot p) * (q.crs s).z + (n.dot q) * (s.crs p).z + (n.dot s) * (p.crs q).z := by
      simp only [vol, V.dot, V.crs]; grind
    have m1 : ∀ A B C a b c : Rat, vol p q s * A = B → 1 / vol p q s * (vol p q s * A - e * (a + b + c)) = (B - e * (a + b + c)) / vol p q s := fun A B C a b c hA => by
      rw [hA]; grind
    simp only [V.sub, V.smul, V.add, whole]
    congr 1
    · rw [k1]; grind
    · rw [k2]; grind
    · rw [k3]; grind
  exact (key w.v w.e).symm
theorem one_over {v : Rat} (h : 0 < v) : 0 < 1 / v := by
  have a := div_nonneg (a := 1) (by decide) h
  have b : 1 / v * v = 1 := by grind
  by_cases c : 1 / v = 0
  · rw [c] at b; grind
  · grind
theorem mv_scale {k : Rat} (hk : 0 < k) (f r : V) : (V.smul k f).mv r = f.mv r := by
  unfold V.mv
  rw [smul_dot]
  exact mvS_scale hk
theorem f3_mv {p q s r : V} (h : vol p q s ≠ 0) (w : W4) : (f3 p q s w).mv r = (wf p q s w).mv r * sgn (vol p q s) := by
  rw [f3_eq h]
  rcases sgn_ne h with k | k
  · rw [k, Int.mul_one]
    have hv := sgn_one.mp k
    exact mv_scale (one_over hv) _ _
  · rw [k]
    have hv := sgn_mone.mp k
    have e : V.smul (1 / vol p q s) (wf p q s w) = V.smul (-1) (V.smul (1 / -vol p q s) (wf p q s w)) := by
      simp only [V.smul]
      congr 1 <;> grind
    rw [e, mv_smneg, mv_scale (one_over (show 0 < -vol p q s by grind))]
    omega
section
variable {L : Nat} (hL : 2 ^ 9000 ≤ L)
include hL
theorem lweights_ok {n : Nat} (hn : 7 ≤ n) {p q s r : V} (hp : p.Z 10) (hq : q.Z 10) (hs : s.Z 10) (hr : r.Z 10) (h0 : (whole p q s).dot r ≠ 0) : Pu L n 69 [vl3 p q s, r.d] (.tup [sh (dep p q s r), wD3 (wgt p q s r)]) :=
  Pu.mk (f := ⟨2, 8, i69⟩) (by omega) rfl rfl fun j e bx => by
    have t1 := lturn_ok hL (n := j) (by omega) hr hq hs (by omega)
    have t2 := lturn_ok hL (n := j) (by omega) hp hr hs (by omega)
    have t3 := lturn_ok hL (n := j) (by omega) hp hq hr (by omega)
    have t4 := lturn_ok hL (n := j) (by omega) hp hq hs (by omega)
    rw [vol_1] at t1; rw [vol_2] at t2; rw [vol_3] at t3
    have z1 : Sz 155 ((q.crs s).dot r) := by rw [← vol_1]; exact (z_vol hr hq hs).mono (by omega)
    have z2 : Sz 155 ((s.crs p).dot r) := by rw [← vol_2]; exact (z_vol hp hr hs).mono (by omega)
    have z3 : Sz 155 ((p.crs q).dot r) := by rw [← vol_3]; exact (z_vol hp hq hr).mono (by omega)
    have z4 : Sz 155 (vol p q s) := (z_vol hp hq hs).mono (by omega)
    have wd := whole_dot p q s r
    have zw : Sz 467 ((whole p q s).dot r) := by rw [wd]; exact (sz_add (sz_add z1 z2) z3).mono (by omega)
    have p1 := lplus_ok hL (n := j) (by omega) z1 z2 (by omega)
    have p2 := lplus_ok hL (n := j) (by omega) (sz_add z1 z2) z3 (by omega)
    rw [← wd] at p2
    have q4 := lpart_ok hL (n := j) (by omega) z4 zw (by omega) h0
    have ea : asgT (.tup (.cons (.var 4) (.cons (.var 5) (.cons (.var 6) .nil)))) (vl3 p q s) ⟨[some (vl3 p q s), some r.d, none, none, none, none, none, none], bx⟩ = some ⟨[some (vl3 p q s), some r.d, none, none, some p.d, some q.d, some s.d, none], bx⟩ := rfl
    have gp : ∀ l, gv (some (some (vl3 p q s))) l bx 0 = .ok (vl3 p q s) ⟨l, bx⟩ := fun l => rfl
    have hs0 : startL ⟨2, 8, i69⟩ [vl3 p q s, r.d] = [some (vl3 p q s), some r.d, none, none, none, none, none, none] := rfl
    let T : List D := [sh ((q.crs s).dot r), sh ((s.crs p).dot r), sh ((p.crs q).dot r)]
    have hlc : evE (cc L j) (.lc (.call 60 (.cons (.var 7) (.cons (.var 3) .nil))) (.var 7) (.its (.var 2)) .nil [7]) ⟨[some (vl3 p q s), some r.d, some (.own T), some (sh ((whole p q s).dot r)), some p.d, some q.d, some s.d, none], bx⟩ = .ok (.own ([(q.crs s).dot r, (s.crs p).dot r, (p.crs q).dot r].map fun x => sh (x / (whole p q s).dot r))) ⟨[some (vl3 p q s), some r.d, some (.lst T), some (sh ((whole p q s).dot r)), some p.d, some q.d, some s.d, none], bx⟩ :=
      lc_mapA [(q.crs s).dot r, (s.crs p).dot r, (p.crs q).dot r] sh (fun x => sh (x / (whole p q s).dot r)) (by simp [T]) (by show 3 ≤ 16777216; omega) (by simp [S.frzs, S.frz]) fun x hx => by
        have zx : Sz 155 x := by
          simp at hx
          rcases hx with rfl | rfl | rfl <;> assumption
        have c3 := lpart_ok hL (n := j) (by omega) zx zw (by omega) h0
        refine ⟨[some (vl3 p q s), some r.d, some (.lst T), some (sh ((whole p q s).dot r)), some p.d, some q.d, some s.d, some (sh x)], [some (vl3 p q s), some r.d, some (.lst T), some (sh ((whole p q s).dot r)), some p.d, some q.d, some s.d, some (sh x)], sh (x / (whole p q s).dot r), by simp [asgT, wipeL], ?_, rfl, by simp [wipeL]⟩
        simp [c3.r]
    refine ⟨[some (vl3 p q s), some r.d, some (.lst T), some (sh ((whole p q s).dot r)), some p.d, some q.d, some s.d, none], ?_⟩
    rw [hs0]
    refine seq_of (l1 := [some (vl3 p q s), some r.d, none, none, some p.d, some q.d, some s.d, none]) (b1 := bx) (by simp [gp, ea]) ?_
    refine seq_of (l1 := [some (vl3 p q s), some r.d, some (.own T), none, some p.d, some q.d, some s.d, none]) (b1 := bx) (by simp [t1.r, t2.r, t3.r, T]) ?_
    refine seq_of (l1 := [some (vl3 p q s), some r.d, some (.own T), some (sh ((whole p q s).dot r)), some p.d, some q.d, some s.d, none]) (b1 := bx) (by simp [T, p1.r, p2.r]) ?_
    have hl : ∀ xs : List D, bltD .tuple [.lst xs] = some (.tup xs) := fun _ => rfl
    simp [t4.r, q4.r, hlc]
    exact ⟨rfl, rfl⟩
theorem lsmall_lst {n k m : Nat} (hn : 5 ≤ n) {a b : V} (ha : a.Z k) (hb : b.Z m) (h : k + m ≤ 1000) : Pu L n 66 [.lst (v3 a), b.d] (.int (a.mv b)) :=
  Pu.mk (f := ⟨2, 3, i66⟩) (by omega) rfl rfl fun j e bx => by
    have c1 := ldot_any hL (n := j) (by omega) ha hb h (.inr rfl)
    have s1 := lsign_ok hL (n := j) (by omega) (a.dot b)
    have s2 := lsign_ok hL (n := j) (by omega) a.x
    have s3 := lsign_ok hL (n := j) (by omega) a.y
    have hs : startL ⟨2, 3, i66⟩ [.lst (v3 a), b.d] = [some (.lst (v3 a)), some b.d, none] := rfl
    have hI : evI (cc L j) (.its (.tup (.cons (.call 62 (.cons (.var 0) (.cons (.var 1) .nil))) (.cons (.ixv 0 (.cst (.int 0))) (.cons (.ixv 0 (.cst (.int 1))) .nil))))) ⟨[some (.lst (v3 a)), some b.d, none], bx⟩ = .ok [sh (a.dot b), sh a.x, sh a.y] ⟨[some (.lst (v3 a)), some b.d, none], bx⟩ := by
      have i0 : atI (v3 a) 0 = some (sh a.x) := at0 _ _
      have i1 : atI (v3 a) 1 = some (sh a.y) := at1 _ _ _
      simp [c1.r, i0, i1]
    have z : ∀ q : Rat, (q.num = 0) ↔ sgn q = 0 := fun q => by rw [sgn_zero_iff]; exact Rat.num_eq_zero
    have ixq : ∀ q : Rat, ixD (sh q) (.int 0) = some (.int q.num) := fun q => rfl
    have ctq : ∀ q : Rat, ctD bx (sh q) = some (sh q) := fun q => rfl
    unfold V.mv mvS
    by_cases h1 : sgn (a.dot b) = 0
    · have n1 := (z _).mpr h1
      by_cases h2 : sgn a.x = 0
      · have n2 := (z _).mpr h2
        by_cases h3 : sgn a.y = 0
        · have n3 := (z _).mpr h3
          refine ⟨[some (.lst (v3 a)), some b.d, some (sh a.y)], ?_⟩
          rw [hs]
          refine seq_of (l1 := [some (.lst (v3 a)), some b.d, some (sh a.y)]) (b1 := bx) ?_ (by simp [h1, h2, h3])
          rw [es_for, hI, Res.bnd_ok]
          simp [forL, forT, asgT, n1, n2, n3, ixq, ctq]
        · have n3 : a.y.num ≠ 0 := fun q => h3 ((z _).mp q)
          refine ⟨[some (.lst (v3 a)), some b.d, some (sh a.y)], ?_⟩
          rw [hs]
          show evS (cc L j) L (.seq (.for _ _ _) _) _ = _
          rw [es_seq, es_for, hI, Res.bnd_ok]
          simp [forL, forT, asgT, n1, n2, n3, ixq, ctq, s3.r, h1, h2]
      · have n2 : a.x.num ≠ 0 := fun q => h2 ((z _).mp q)
        refine ⟨[some (.lst (v3 a)), some b.d, some (sh a.x)], ?_⟩
        rw [hs]
        show evS (cc L j) L (.seq (.for _ _ _) _) _ = _
        rw [es_seq, es_for, hI, Res.bnd_ok]
        simp [forL, forT, asgT, n1, n2, ixq, ctq, s2.r, h1, h2]
    · have n1 : (a.dot b).num ≠ 0 := fun q => h1 ((z _).mp q)
      refine ⟨[some (.lst (v3 a)), some b.d, some (sh (a.dot b))], ?_⟩
      rw [hs]
      show evS (cc L j) L (.seq (.for _ _ _) _) _ = _
      rw [es_seq, es_for, hI, Res.bnd_ok]
      simp [forL, forT, asgT, n1, ixq, ctq, s1.r, h1]
end
end Q.K26
end

section
set_option maxRecDepth 100000
set_option maxHeartbeats 4000000
set_option exponentiation.threshold 70
/-! U26o: a wall bars as the sign tells. -/
namespace Q.K26
open PySem L2 Q
def BL (t : Tri) (wl : W4) (w h i j : Int) (dp : Rat) (x6 x7 x8 x9 x10 x11 x12 x13 x14 x15 : Option D) : List (Option D) :=
  [some t.d, some wl.d, some (.int w), some (.int h), some (.tup [.int i, .int j]), some (sh dp), x6, x7, x8, x9, x10, x11, x12, x13, x14, x15, none, none, none]
theorem hitD_eq (p q s r : V) : opC .eq (hitD p q s r) (hitD p q s r) = some true ∧ opC .ne (hitD p q s r) (hitD p q s r) = some false := by
  have s1 : shN 60 (hitD p q s r) = true := by
    have a : shN 59 (.str "hit") = true := by decide +kernel
    show (shN 59 (.str "hit") && (shN 59 (sh (dep p q s r)) && (shN 59 (wD3 (wgt p q s r)) && true))) = true
    rw [a]; rfl
  have s2 : eqD (hitD p q s r) (hitD p q s r) = true := by
    have a : eqD (.str "hit") (.str "hit") = true := by decide +kernel
    show (eqD (.str "hit") (.str "hit") && (eqD (sh (dep p q s r)) (sh (dep p q s r)) && ((eqD (sh (wgt p q s r).1) (sh (wgt p q s r).1) && (eqD (sh (wgt p q s r).2.1) (sh (wgt p q s r).2.1) && (eqD (sh (wgt p q s r).2.2) (sh (wgt p q s r).2.2) && true))) && true))) = true
    rw [a, eqD_sh, eqD_sh, eqD_sh, eqD_sh]; simp
  rw [opC_eq, opC_ne, s1, s2]
  exact ⟨rfl, rfl⟩
theorem wall1_eq : opC .eq (.tup [.str "wall", .int 1]) (.tup [.str "wall", .int 1]) = some true := by decide +kernel
section
variable {L : Nat} (hL : 2 ^ 9000 ≤ L) {t : Tri} {wl : W4} {w h i j : Int} {dp : Rat}
include hL
theorem ba_step {k : Nat} (hk : 7 ≤ k) {a : Int} {ix1 ix2 : Int} {u1 u2 : V} (z1 : u1.Z 10) (z2 : u2.Z 10) {g vo : Rat} (zg : Sz 41 g) (zv : Sz 155 vo) (h0 : vo ≠ 0) {F : V} {kf : Nat} (zF : F.Z kf) (hkf : kf ≤ 800) {ps gs : List D}
    (a1 : atI ([.int 1, .int 2, .int 0] : List D) a = some (.int ix1)) (a2 : atI ([.int 2, .int 0, .int 1] : List D) a = some (.int ix2)) (b1 : atI ps ix1 = some u1.d) (b2 : atI ps ix2 = some u2.d) (b3 : atI gs a = some (sh g))
    (r : V) (x7 x8 x9 x14 x15 : Option D) (bx : List (List D)) :
    forT (cc L k) L (.var 7) baB (.int a) ⟨BL t wl w h i j dp (some (.own gs)) x7 x8 x9 (some r.d) (some (.lst ps)) (some (sh vo)) (some (.own (v3 F))) x14 x15, bx⟩ = .ok .nx ⟨BL t wl w h i j dp (some (.own gs)) (some (.int a)) x8 x9 (some r.d) (some (.lst ps)) (some (sh vo)) (some (.own (v3 (F.add (V.smul (g / vo) (u1.crs u2)))))) (some (u1.crs u2).d) (some (sh (g / vo))), bx⟩ := by
  have ea : asgT (.var 7) (.int a) ⟨BL t wl w h i j dp (some (.own gs)) x7 x8 x9 (some r.d) (some (.lst ps)) (some (sh vo)) (some (.own (v3 F))) x14 x15, bx⟩ = some ⟨BL t wl w h i j dp (some (.own gs)) (some (.int a)) x8 x9 (some r.d) (some (.lst ps)) (some (sh vo)) (some (.own (v3 F))) x14 x15, bx⟩ := rfl
  unfold forT
  rw [ea, Res.opt_some, Res.bnd_ok]
  have c1 := lcrs_ok hL (n := k) (by omega) z1 z2 (by omega)
  have c2 := lpart_ok hL (n := k) (by omega) zg zv (by omega) h0
  have zs : Sz 196 (g / vo) := szDiv zg zv h0
  have zc : (u1.crs u2).Z 41 := V.z_crs z1 z2
  let ys : List (Rat × Rat) := [(F.x, (u1.crs u2).x), (F.y, (u1.crs u2).y), (F.z, (u1.crs u2).z)]
  have hI : evI (cc L k) (.zip (.var 13) (.var 14)) ⟨BL t wl w h i j dp (some (.own gs)) (some (.int a)) x8 x9 (some r.d) (some (.lst ps)) (some (sh vo)) (some (.own (v3 F))) (some (u1.crs u2).d) (some (sh (g / vo))), bx⟩ = .ok (ys.map fun y => .tup [sh y.1, sh y.2]) ⟨BL t wl w h i j dp (some (.own gs)) (some (.int a)) x8 x9 (some r.d) (some (.lst ps)) (some (sh vo)) (some (.lst (v3 F))) (some (u1.crs u2).d) (some (sh (g / vo))), bx⟩ := by
    have ib : (u1.crs u2).d.items = some (v3 (u1.crs u2)) := rfl
    simp [BL, ib]
    rfl
  have hlc := lc_mapB (c := cc L k) (elt := .call 57 (.cons (.var 17) (.cons (.call 58 (.cons (.var 15) (.cons (.var 18) .nil))) .nil))) (tg := .tup (.cons (.var 17) (.cons (.var 18) .nil))) (own := [17, 18]) ys (fun y => .tup [sh y.1, sh y.2]) (fun y => sh (y.1 + g / vo * y.2)) hI (by show 3 ≤ 16777216; omega) (by simp [S.frzs, S.frz, BL]) fun y hy => by
    have zz : Sz kf y.1 ∧ Sz 41 y.2 := by
      simp [ys] at hy
      rcases hy with rfl | rfl | rfl
      · exact ⟨zF.1, zc.1⟩
      · exact ⟨zF.2.1, zc.2.1⟩
      · exact ⟨zF.2.2, zc.2.2⟩
    have t1 := ltimes_ok hL (n := k) (by omega) zs zz.2 (by omega)
    have p1 := lplus_ok hL (n := k) (by omega) zz.1 (sz_mul zs zz.2) (by omega)
    refine ⟨[some t.d, some wl.d, some (.int w), some (.int h), some (.tup [.int i, .int j]), some (sh dp), some (.own gs), some (.int a), x8, x9, some r.d, some (.lst ps), some (sh vo), some (.lst (v3 F)), some (u1.crs u2).d, some (sh (g / vo)), none, some (sh y.1), some (sh y.2)], [some t.d, some wl.d, some (.int w), some (.int h), some (.tup [.int i, .int j]), some (sh dp), some (.own gs), some (.int a), x8, x9, some r.d, some (.lst ps), some (sh vo), some (.lst (v3 F)), some (u1.crs u2).d, some (sh (g / vo)), none, some (sh y.1), some (sh y.2)], sh (y.1 + g / vo * y.2), rfl, ?_, rfl, rfl⟩
    simp [t1.r, p1.r]
  have s1 : evS (cc L k) L baB ⟨BL t wl w h i j dp (some (.own gs)) (some (.int a)) x8 x9 (some r.d) (some (.lst ps)) (some (sh vo)) (some (.own (v3 F))) x14 x15, bx⟩ = .ok .nx ⟨BL t wl w h i j dp (some (.own gs)) (some (.int a)) x8 x9 (some r.d) (some (.lst ps)) (some (sh vo)) (some (.own (v3 (F.add (V.smul (g / vo) (u1.crs u2)))))) (some (u1.crs u2).d) (some (sh (g / vo))), bx⟩ := by
    refine seq_of (l1 := BL t wl w h i j dp (some (.own gs)) (some (.int a)) x8 x9 (some r.d) (some (.lst ps)) (some (sh vo)) (some (.own (v3 F))) (some (u1.crs u2).d) x15) (b1 := bx) (by simp [ba1, BL, a1, a2, b1, b2, c1.r]) ?_
    refine seq_of (l1 := BL t wl w h i j dp (some (.own gs)) (some (.int a)) x8 x9 (some r.d) (some (.lst ps)) (some (sh vo)) (some (.own (v3 F))) (some (u1.crs u2).d) (some (sh (g / vo)))) (b1 := bx) (by simp [ba2, BL, b3, c2.r]) ?_
    refine seq_of (l1 := BL t wl w h i j dp (some (.own gs)) (some (.int a)) x8 x9 (some r.d) (some (.lst ps)) (some (sh vo)) (some (.own (v3 (F.add (V.smul (g / vo) (u1.crs u2)))))) (some (u1.crs u2).d) (some (sh (g / vo)))) (b1 := bx) ?_ (by simp)
    unfold ba3
    rw [es_asv, hlc]
    rfl
  rw [s1]
theorem gaps_ok {k : Nat} (hk : 6 ≤ k) (ht : Pc t) (hw : wl.Ok) (r : V) (bx : List (List D)) :
    evE (cc L k) (.lc (.call 59 (.cons (.call 62 (.cons (.lc (.tup (.cons (.var 17) (.cons (.cst (.int 1)) .nil))) (.var 17) (.its (.slv 1 .nil (.prt (.cst (.int 3))))) .nil [17]) (.cons (.var 16) .nil))) (.cons (.tup (.cons (.ixv 1 (.cst (.int 3))) (.cons (.cst (.int 1)) .nil))) .nil))) (.var 16) (.its (.var 11)) .nil [16]) ⟨BL t wl w h i j dp none none none none (some r.d) (some (.own [t.p.d, t.q.d, t.s.d])) none none none none, bx⟩ =
      .ok (.own [sh (gap wl t.p), sh (gap wl t.q), sh (gap wl t.s)]) ⟨BL t wl w h i j dp none none none none (some r.d) (some (.lst [t.p.d, t.q.d, t.s.d])) none none none none, bx⟩ := by
  have hI : evI (cc L k) (.its (.var 11)) ⟨BL t wl w h i j dp none none none none (some r.d) (some (.own [t.p.d, t.q.d, t.s.d])) none none none none, bx⟩ = .ok ([t.p, t.q, t.s].map V.d) ⟨BL t wl w h i j dp none none none none (some r.d) (some (.lst [t.p.d, t.q.d, t.s.d])) none none none none, bx⟩ := by simp [BL]
  refine lc_mapB (c := cc L k) [t.p, t.q, t.s] V.d (fun v => sh (gap wl v)) hI (by show 3 ≤ 16777216; omega) (by simp [S.frzs, S.frz, BL]) fun v hv => ?_
  have zv : v.Z 10 := by
    simp at hv
    rcases hv with rfl | rfl | rfl
    · exact ht.zp.1
    · exact ht.zp.2.1
    · exact ht.zp.2.2
  have c1 := ldot_any hL (n := k) (by omega) hw.z zv (by omega) (A := .lst (v3 wl.v)) (.inr rfl)
  have c2 := lminus_ok hL (n := k) (by omega) (V.z_dot hw.z zv) hw.ze (by omega)
  refine ⟨[some t.d, some wl.d, some (.int w), some (.int h), some (.tup [.int i, .int j]), some (sh dp), none, none, none, none, some r.d, some (.lst [t.p.d, t.q.d, t.s.d]), none, none, none, none, some v.d, none, none], [some t.d, some wl.d, some (.int w), some (.int h), some (.tup [.int i, .int j]), some (sh dp), none, none, none, none, some r.d, some (.lst [t.p.d, t.q.d, t.s.d]), none, none, none, none, some v.d, none, none], sh (gap wl v), rfl, ?_, rfl, rfl⟩
  have hin : evE (cc L k) (.lc (.tup (.cons (.var 17) (.cons (.cst (.int 1)) .nil))) (.var 17) (.its (.slv 1 .nil (.prt (.cst (.int 3))))) .nil [17]) ⟨[some t.d, some wl.d, some (.int w), some (.int h), some (.tup [.int i, .int j]), some (sh dp), none, none, none, none, some r.d, some (.lst [t.p.d, t.q.d, t.s.d]), none, none, none, none, some v.d, none, none], bx⟩ = .ok (.own ([wl.a, wl.b, wl.c].map fun (x : Int) => D.tup [.int x, .int 1])) ⟨[some t.d, some wl.d, some (.int w), some (.int h), some (.tup [.int i, .int j]), some (sh dp), none, none, none, none, some r.d, some (.lst [t.p.d, t.q.d, t.s.d]), none, none, none, none, some v.d, none, none], bx⟩ := by
    have hc : slD wl.d none (some 3) = some (.tup ([wl.a, wl.b, wl.c].map .int)) := rfl
    have ct : ctD bx wl.d = some wl.d := rfl
    refine lc_mapA [wl.a, wl.b, wl.c] .int (fun (x : Int) => D.tup [.int x, .int 1]) (by simp [hc, ct]) (by show 3 ≤ 16777216; omega) (by simp [S.frzs, S.frz]) fun x hx => ?_
    exact ⟨[some t.d, some wl.d, some (.int w), some (.int h), some (.tup [.int i, .int j]), some (sh dp), none, none, none, none, some r.d, some (.lst [t.p.d, t.q.d, t.s.d]), none, none, none, none, some v.d, some (.int x), none], [some t.d, some wl.d, some (.int w), some (.int h), some (.tup [.int i, .int j]), some (sh dp), none, none, none, none, some r.d, some (.lst [t.p.d, t.q.d, t.s.d]), none, none, none, none, some v.d, some (.int x), none], D.tup [.int x, .int 1], rfl, by simp, rfl, rfl⟩
  have e1 : ([wl.a, wl.b, wl.c].map fun (x : Int) => D.tup [.int x, .int 1]) = v3 wl.v := rfl
  rw [e1] at hin
  have ix3 : ixD wl.d (.int 3) = some (.int wl.e) := by show atI (_ :: _ :: _ :: _ :: _) 3 = _; rw [at3]
  have ct : ctD bx wl.d = some wl.d := rfl
  have e2 : D.tup [.int wl.e, .int 1] = sh (wl.e : Rat) := sh_int _
  rw [ev_call, ea_cons, ev_call, ea_cons, hin]
  simp [c1.r, ix3, ct, e2, c2.r, gap]
end
end Q.K26
end

section
set_option maxRecDepth 100000
set_option maxHeartbeats 4000000
set_option exponentiation.threshold 70
/-! U26p: barred, fences are right. -/
namespace Q.K26
open PySem L2 Q
section
variable {L : Nat} (hL : 2 ^ 9000 ≤ L)
include hL
theorem barred_ok {n : Nat} (hn : 10 ≤ n) {t : Tri} (ht : Pc t) {wl : W4} (hw : wl.Ok) {w h i j : Int} (w1 : 1 ≤ w) (w2 : w ≤ 5) (h1 : 1 ≤ h) (h2 : h ≤ 5) (i1 : 0 ≤ i) (i2 : i < w) (j1 : 0 ≤ j) (j2 : j < h) (ho : lownB t.p t.q t.s (rayV w h i j) = true) :
    Pu L n 79 [t.d, wl.d, .int w, .int h, .tup [.int i, .int j], sh (dep t.p t.q t.s (rayV w h i j))] (.bl true) :=
  Pu.mk (f := ⟨6, 19, i79⟩) (by omega) rfl rfl fun k e bx => by
    have zr := rayV_z w1 w2 h1 h2 i1 i2 j1 j2
    have rz : (rayV w h i j).z = 1 := rfl
    have c1 := lray_ok hL (n := k) (by omega) w1 w2 h1 h2 i1 i2 j1 j2
    have c2 := lpoints_ok hL (n := k) (by omega) t
    have c3 := lturn_ok hL (n := k) (by omega) ht.zp.1 ht.zp.2.1 ht.zp.2.2 (by omega)
    have z4 : Sz 155 (vol t.p t.q t.s) := (z_vol ht.zp.1 ht.zp.2.1 ht.zp.2.2).mono (by omega)
    have h0 := (own_three.mp ho).1
    have zg : ∀ v : V, v.Z 10 → Sz 41 (gap wl v) := fun v hv => (sz_sub (V.z_dot hw.z hv) hw.ze).mono (by omega)
    have zs : ∀ v, v.Z 10 → Sz 196 (gap wl v / vol t.p t.q t.s) := fun v hv => szDiv (zg v hv) z4 h0
    have zq1 : (t.q.crs t.s).Z 41 := V.z_crs ht.zp.2.1 ht.zp.2.2
    have zq2 : (t.s.crs t.p).Z 41 := V.z_crs ht.zp.2.2 ht.zp.1
    have zq3 : (t.p.crs t.q).Z 41 := V.z_crs ht.zp.1 ht.zp.2.1
    have zz : V.Z 1 ⟨0, 0, 0⟩ := ⟨sz_zero, sz_zero, sz_zero⟩
    have zf1 : (f1 t.p t.q t.s wl).Z 239 := (V.z_add zz (V.z_smul (zs _ ht.zp.1) zq1)).mono (by omega)
    have zf2 : (f2 t.p t.q t.s wl).Z 477 := (V.z_add zf1 (V.z_smul (zs _ ht.zp.2.1) zq2)).mono (by omega)
    have zf3 : (f3 t.p t.q t.s wl).Z 715 := (V.z_add zf2 (V.z_smul (zs _ ht.zp.2.2) zq3)).mono (by omega)
    have c4 := lsmall_lst hL (n := k) (by omega) zf3 zr (by omega)
    rw [f3_mv h0] at c4
    have hwk : Wok [w0, wl] := ⟨⟨[wl], rfl⟩, by simp, fun w' hw' => by
      simp at hw'
      rcases hw' with rfl | rfl
      · exact w0_ok.w _ (by simp)
      · exact hw⟩
    have c5 := hit_ok hL (n := k) (by omega) ht.ok hwk w1 w2 h1 h2 i1 i2 j1 j2
    rw [met_two rz (ht.pt t.p (by simp)).2.2.2 (ht.pt t.q (by simp)).2.2.2 (ht.pt t.s (by simp)).2.2.2 ho] at c5
    have g1 := gaps_ok hL (w := w) (h := h) (i := i) (j := j) (dp := dep t.p t.q t.s (rayV w h i j)) (k := k) (by omega) ht hw (rayV w h i j) bx
    have s1 := ba_step hL (t := t) (wl := wl) (w := w) (h := h) (i := i) (j := j) (dp := dep t.p t.q t.s (rayV w h i j)) (k := k) (by omega) (a := 0) (ix1 := 1) (ix2 := 2) ht.zp.2.1 ht.zp.2.2 (zg _ ht.zp.1) z4 h0 zz (by omega) (ps := [t.p.d, t.q.d, t.s.d]) (gs := [sh (gap wl t.p), sh (gap wl t.q), sh (gap wl t.s)]) (at0 _ _) (at0 _ _) (at1 _ _ _) (at2 _ _ _ _) (at0 _ _) (rayV w h i j) none none none none none bx
    have s2 := ba_step hL (t := t) (wl := wl) (w := w) (h := h) (i := i) (j := j) (dp := dep t.p t.q t.s (rayV w h i j)) (k := k) (by omega) (a := 1) (ix1 := 2) (ix2 := 0) ht.zp.2.2 ht.zp.1 (zg _ ht.zp.2.1) z4 h0 zf1 (by omega) (ps := [t.p.d, t.q.d, t.s.d]) (gs := [sh (gap wl t.p), sh (gap wl t.q), sh (gap wl t.s)]) (at1 _ _ _) (at1 _ _ _) (at2 _ _ _ _) (at0 _ _) (at1 _ _ _) (rayV w h i j) (some (.int 0)) none none (some (t.q.crs t.s).d) (some (sh (gap wl t.p / vol t.p t.q t.s))) bx
    have s3 := ba_step hL (t := t) (wl := wl) (w := w) (h := h) (i := i) (j := j) (dp := dep t.p t.q t.s (rayV w h i j)) (k := k) (by omega) (a := 2) (ix1 := 0) (ix2 := 1) ht.zp.1 ht.zp.2.1 (zg _ ht.zp.2.2) z4 h0 zf2 (by omega) (ps := [t.p.d, t.q.d, t.s.d]) (gs := [sh (gap wl t.p), sh (gap wl t.q), sh (gap wl t.s)]) (at2 _ _ _ _) (at2 _ _ _ _) (at0 _ _) (at1 _ _ _) (at2 _ _ _ _) (rayV w h i j) (some (.int 1)) none none (some (t.s.crs t.p).d) (some (sh (gap wl t.q / vol t.p t.q t.s))) bx
    have ef1 : (⟨0, 0, 0⟩ : V).add (V.smul (gap wl t.p / vol t.p t.q t.s) (t.q.crs t.s)) = f1 t.p t.q t.s wl := rfl
    have ef2 : (f1 t.p t.q t.s wl).add (V.smul (gap wl t.q / vol t.p t.q t.s) (t.s.crs t.p)) = f2 t.p t.q t.s wl := rfl
    have ef3 : (f2 t.p t.q t.s wl).add (V.smul (gap wl t.s / vol t.p t.q t.s) (t.p.crs t.q)) = f3 t.p t.q t.s wl := rfl
    rw [ef1] at s1
    rw [ef2] at s2
    rw [ef3] at s3
    have hq := hitD_eq t.p t.q t.s (rayV w h i j)
    have i0 := ix_hit0 t.p t.q t.s (rayV w h i j)
    have i1' := ix_hit1 t.p t.q t.s (rayV w h i j)
    have gh : ∀ (l : List (Option D)) (b : List (List D)) (n : Nat), gv (some (some (hitD t.p t.q t.s (rayV w h i j)))) l b n = .ok (hitD t.p t.q t.s (rayV w h i j)) ⟨l, b⟩ := fun l b n => rfl
    have ch : ctD bx (hitD t.p t.q t.s (rayV w h i j)) = some (hitD t.p t.q t.s (rayV w h i j)) := rfl
    have fh : (hitD t.p t.q t.s (rayV w h i j)).frz = hitD t.p t.q t.s (rayV w h i j) := rfl
    have eqD' : opC .eq (sh (dep t.p t.q t.s (rayV w h i j))) (sh (dep t.p t.q t.s (rayV w h i j))) = some true := by
      rw [opC_eq, shN_sh, eqD_sh]; simp
    generalize (wf t.p t.q t.s wl).mv (rayV w h i j) * sgn (vol t.p t.q t.s) = sg at *
    generalize hitD t.p t.q t.s (rayV w h i j) = H at *
    generalize dep t.p t.q t.s (rayV w h i j) = dp at *
    generalize rayV w h i j = r at *
    generalize f3 t.p t.q t.s wl = F3 at *
    generalize f2 t.p t.q t.s wl = F2 at *
    generalize f1 t.p t.q t.s wl = F1 at *
    generalize vol t.p t.q t.s = vo at *
    have hs0 : startL ⟨6, 19, i79⟩ [t.d, wl.d, .int w, .int h, .tup [.int i, .int j], sh dp] = BL t wl w h i j dp none none none none none none none none none none := rfl
    let GS : List D := [sh (gap wl t.p), sh (gap wl t.q), sh (gap wl t.s)]
    let PS : List D := [t.p.d, t.q.d, t.s.d]
    have gt : ∀ (l : List (Option D)) (b : List (List D)) (q : Nat), gv (some (some t.d)) l b q = .ok t.d ⟨l, b⟩ := fun l b q => rfl
    have ft : t.d.frz = t.d := rfl
    have gw : ∀ (l : List (Option D)) (b : List (List D)) (q : Nat), gv (some (some wl.d)) l b q = .ok wl.d ⟨l, b⟩ := fun l b q => rfl
    have fw : wl.d.frz = wl.d := rfl
    have z0 : (D.tup [.int 0, .int 1]) = sh 0 := rfl
    have hrep : opB .mul (.lst [sh 0]) (.int 3) = some (.own (v3 ⟨0, 0, 0⟩)) := rfl
    have hwd : D.tup [.tup [.int 0, .int 0, .int 1, .int 1], wl.d] = wsD [w0, wl] := rfl
    have wz : wl.d.isOwn = false := rfl
    refine ⟨BL t wl w h i j dp (some (.own GS)) (some (.int 2)) (some (.bl (decide (0 ≤ sg)))) (some (if 0 ≤ sg then H else .tup [.str "wall", .int 1])) (some r.d) (some (.lst PS)) (some (sh vo)) (some (.lst (v3 F3))) (some (t.p.crs t.q).d) (some (sh (gap wl t.s / vo))), ?_⟩
    rw [hs0]
    refine seq_of (l1 := BL t wl w h i j dp none none none none (some r.d) (some (.own PS)) none none none none) (b1 := bx) (by simp [BL, c1.r, gt, ft, c2.r, PS]) ?_
    refine seq_of (l1 := BL t wl w h i j dp (some (.own GS)) none none none (some r.d) (some (.lst PS)) none none none none) (b1 := bx) (by rw [es_asv, g1]; rfl) ?_
    refine seq_of (l1 := BL t wl w h i j dp (some (.own GS)) none none none (some r.d) (some (.lst PS)) (some (sh vo)) (some (.own (v3 ⟨0, 0, 0⟩))) none none) (b1 := bx) (by simp [BL, PS, c3.r, z0, hrep]) ?_
    refine seq_of (l1 := BL t wl w h i j dp (some (.own GS)) (some (.int 2)) none none (some r.d) (some (.lst PS)) (some (sh vo)) (some (.own (v3 F3))) (some (t.p.crs t.q).d) (some (sh (gap wl t.s / vo)))) (b1 := bx) ?_ ?_
    · have hI : evI (cc L k) (.rng1 (.cst (.int 3))) ⟨BL t wl w h i j dp (some (.own GS)) none none none (some r.d) (some (.lst PS)) (some (sh vo)) (some (.own (v3 ⟨0, 0, 0⟩))) none none, bx⟩ = .ok [.int 0, .int 1, .int 2] ⟨BL t wl w h i j dp (some (.own GS)) none none none (some r.d) (some (.lst PS)) (some (sh vo)) (some (.own (v3 ⟨0, 0, 0⟩))) none none, bx⟩ := by
        have r3 : rngOk 0 3 = true := rfl
        have rr : rangeD 0 3 = [.int 0, .int 1, .int 2] := rfl
        simp [r3, rr, BL]
      rw [es_for, hI, Res.bnd_ok]
      simp only [forL]
      show (Res.bnd (forT (cc L k) L _ baB _ _) _) = _
      rw [s1]
      simp only [Res.bnd_ok]
      show (Res.bnd (forT (cc L k) L _ baB _ _) _) = _
      rw [s2]
      simp only [Res.bnd_ok]
      show (Res.bnd (forT (cc L k) L _ baB _ _) _) = _
      rw [s3]
      rfl
    refine seq_of (l1 := BL t wl w h i j dp (some (.own GS)) (some (.int 2)) (some (.bl (decide (0 ≤ sg)))) none (some r.d) (some (.lst PS)) (some (sh vo)) (some (.lst (v3 F3))) (some (t.p.crs t.q).d) (some (sh (gap wl t.s / vo)))) (b1 := bx) (by simp [BL, c4.r]) ?_
    rw [← hwd] at c5
    refine seq_of (l1 := BL t wl w h i j dp (some (.own GS)) (some (.int 2)) (some (.bl (decide (0 ≤ sg)))) (some (if 0 ≤ sg then H else .tup [.str "wall", .int 1])) (some r.d) (some (.lst PS)) (some (sh vo)) (some (.lst (v3 F3))) (some (t.p.crs t.q).d) (some (sh (gap wl t.s / vo)))) (b1 := bx) (by simp [BL, gt, ft, gw, fw, c5.r]) ?_
    by_cases hs : 0 ≤ sg
    · simp [BL, hs, ch, i0, i1', seq4, eqD', -opC_eq]
    · simp [BL, hs, wall1_eq, -opC_eq]
end
end Q.K26
end

section
set_option maxRecDepth 100000
set_option maxHeartbeats 4000000
set_option exponentiation.threshold 70
/-! U26q: fences are right. -/
namespace Q.K26
open PySem L2 Q
section
variable {L : Nat} (hL : 2 ^ 9000 ≤ L)
include hL
omit hL in
theorem hitD_wt (p q s r : V) : D.tup [.str "hit", sh (dep p q s r), wD3 (wgt p q s r)] = hitD p q s r := rfl
theorem fence_r {n m : Nat} (hn : 11 ≤ n) (hm : m < 2 ^ 34) {bx : List (List D)} (hh : Hd m bx) : ∃ bx', (∀ l, callR (cc L n) 78 [.box 0] ⟨l, bx⟩ = .ok (.bl true) ⟨l, bx'⟩) ∧ Hd (m + 60) bx' := by
  obtain ⟨k, rfl⟩ : ∃ k, n = k + 1 := ⟨n - 1, by omega⟩
  obtain ⟨w, h, b1, w1, w2, h1, h2, d1, e1⟩ := size_r hL (n := k) (by omega) (by omega) hh
  obtain ⟨t, b2, ht, d2, e2⟩ := piece_r hL (n := k) (by omega) (by omega) e1
  obtain ⟨i, b3, d3, i1, i2, e3⟩ := pick_r (L := L) (n := k) (by omega) (many := w) (by omega) (by omega) (by omega) e2
  obtain ⟨j, b4, d4, j1, j2, e4⟩ := pick_r (L := L) (n := k) (by omega) (many := h) (by omega) (by omega) (by omega) e3
  have zr := rayV_z w1 w2 h1 h2 i1 i2 j1 j2
  have rz : (rayV w h i j).z = 1 := rfl
  have c1 := lray_ok hL (n := k) (by omega) w1 w2 h1 h2 i1 i2 j1 j2
  have c2 := lpoints_ok hL (n := k) (by omega) t
  have c3 := lowns_ok hL (n := k) (by omega) ht.zp.1 ht.zp.2.1 ht.zp.2.2 (by omega) zr
  have c4 := pcovers_ok hL (n := k) (by omega) ht w1 w2 h1 h2 i1 i2 j1 j2
  rw [← lown_eq rz ht.ahd.1 ht.ahd.2.1 ht.ahd.2.2] at c4
  have hs : startL ⟨1, 11, i78⟩ [.box 0] = [some (.box 0), none, none, none, none, none, none, none, none, none, none] := rfl
  have ea : asgT (.tup (.cons (.var 3) (.cons (.var 4) .nil))) (.tup [.int w, .int h]) ⟨[some (.box 0), none, none, none, none, none, none, none, none, none, none], b1⟩ = some ⟨[some (.box 0), none, none, some (.int w), some (.int h), none, none, none, none, none, none], b1⟩ := rfl
  have gt : ∀ (l : List (Option D)) (b : List (List D)) (q : Nat), gv (some (some t.d)) l b q = .ok t.d ⟨l, b⟩ := fun l b q => rfl
  have ft : t.d.frz = t.d := rfl
  have q1 : evS (cc L k) L (.asg (.tup (.cons (.var 3) (.cons (.var 4) .nil))) (.call 73 (.cons (.var 0) .nil))) ⟨[some (.box 0), none, none, none, none, none, none, none, none, none, none], bx⟩ = .ok .nx ⟨[some (.box 0), none, none, some (.int w), some (.int h), none, none, none, none, none, none], b1⟩ := by simp [d1, ea]
  have q2 : evS (cc L k) L (.par 5 6 (.call 71 (.cons (.var 0) (.cons (.cst (.int 0)) .nil))) (.tup (.cons (.call 52 (.cons (.var 0) (.cons (.var 3) .nil))) (.cons (.call 52 (.cons (.var 0) (.cons (.var 4) .nil))) .nil)))) ⟨[some (.box 0), none, none, some (.int w), some (.int h), none, none, none, none, none, none], b1⟩ = .ok .nx ⟨[some (.box 0), none, none, some (.int w), some (.int h), some t.d, some (.tup [.int i, .int j]), none, none, none, none], b4⟩ := by simp [d2, d3, d4]
  have q3 : evS (cc L k) L (.par 7 8 (.call 65 (.cons (.var 3) (.cons (.var 4) (.cons (.ixv 6 (.cst (.int 0))) (.cons (.ixv 6 (.cst (.int 1))) .nil))))) (.call 72 (.cons (.var 5) .nil))) ⟨[some (.box 0), none, none, some (.int w), some (.int h), some t.d, some (.tup [.int i, .int j]), none, none, none, none], b4⟩ = .ok .nx ⟨[some (.box 0), none, none, some (.int w), some (.int h), some t.d, some (.tup [.int i, .int j]), some (rayV w h i j).d, some (.own [t.p.d, t.q.d, t.s.d]), none, none], b4⟩ := by simp [gt, ft, c1.r, c2.r]
  have c3' : Pu L k 68 [.lst [t.p.d, t.q.d, t.s.d], (rayV w h i j).d] (.bl (lownB t.p t.q t.s (rayV w h i j))) := c3
  cases ho : lownB t.p t.q t.s (rayV w h i j) with
  | false =>
    rw [ho] at c3' c4
    suffices hC : callN prg.tb prg.gb L (k + 1) 78 [.box 0] bx = .ok (.bl true) b4 from ⟨b4, fun l => callR_ok hC, e4.mono (by omega)⟩
    rw [callN_eq (f := ⟨1, 11, i78⟩) rfl]
    refine runF_rt (s := ⟨[some (.box 0), none, none, some (.int w), some (.int h), some t.d, some (.tup [.int i, .int j]), some (rayV w h i j).d, some (.lst [t.p.d, t.q.d, t.s.d]), none, none], b4⟩) rfl ?_
    rw [hs]
    refine seq_of q1 (seq_of q2 (seq_of q3 ?_))
    have n1 : opC .isN (.bl false) (.bl false) = some true := rfl
    simp [c3'.r, gt, ft, c4.r, n1]
  | true =>
    rw [ho] at c3'
    have c5 := lweights_ok hL (n := k) (by omega) ht.zp.1 ht.zp.2.1 ht.zp.2.2 zr (own_ne rz ho)
    have c5' : Pu L k 69 [.lst [t.p.d, t.q.d, t.s.d], (rayV w h i j).d] (.tup [sh (dep t.p t.q t.s (rayV w h i j)), wD3 (wgt t.p t.q t.s (rayV w h i j))]) := c5
    have c6 := hit_ok hL (n := k) (by omega) ht.ok w0_ok w1 w2 h1 h2 i1 i2 j1 j2
    rw [met_one rz (ht.pt t.p (by simp)).2.2.2 (ht.pt t.q (by simp)).2.2.2 (ht.pt t.s (by simp)).2.2.2 ho] at c6
    have c7 := turnOf_ok hL (n := k) (by omega) ht.zp.1 ht.zp.2.1 ht.zp.2.2 (by omega)
    obtain ⟨x1, b5, hx1, d5, e5⟩ := any_r (L := L) (n := k) (by omega) (xs := [.int 1, .int (-1), .int 0, .int 2]) (by omega) (by simp) (by simp) e4
    obtain ⟨x2, b6, hx2, d6, e6⟩ := any_r (L := L) (n := k) (by omega) (xs := [.int 1, .int (-1), .int 2]) (by omega) (by simp) (by simp) e5
    obtain ⟨y1, b7, d7, u1, v1, e7⟩ := pick_r (L := L) (n := k) (by omega) (many := 5) (by omega) (by omega) (by omega) e6
    obtain ⟨y2, b8, d8, u2, v2, e8⟩ := pick_r (L := L) (n := k) (by omega) (many := 5) (by omega) (by omega) (by omega) e7
    obtain ⟨wa, hwa, rfl⟩ : ∃ a : Int, a.natAbs ≤ 2 ∧ x1 = .int a := by
      simp at hx1
      rcases hx1 with rfl | rfl | rfl | rfl
      · exact ⟨1, by omega, rfl⟩
      · exact ⟨-1, by omega, rfl⟩
      · exact ⟨0, by omega, rfl⟩
      · exact ⟨2, by omega, rfl⟩
    obtain ⟨wb, hwb, hb0, rfl⟩ : ∃ a : Int, a.natAbs ≤ 2 ∧ a ≠ 0 ∧ x2 = .int a := by
      simp at hx2
      rcases hx2 with rfl | rfl | rfl
      · exact ⟨1, by omega, by omega, rfl⟩
      · exact ⟨-1, by omega, by omega, rfl⟩
      · exact ⟨2, by omega, by omega, rfl⟩
    let wl : W4 := ⟨wa, wb, y1 - 2, y2 - 2⟩
    have hwl : wl.Ok := ⟨hwa, hwb, by show (y1 - 2).natAbs ≤ 2; omega, by show (y2 - 2).natAbs ≤ 2; omega, fun z => hb0 z.2.1⟩
    have c8 := barred_ok hL (n := k) (by omega) ht hwl w1 w2 h1 h2 i1 i2 j1 j2 ho
    have hq := (hitD_eq t.p t.q t.s (rayV w h i j)).2
    have hvn : (vol t.p t.q t.s).num ≠ 0 := fun z => (own_three.mp ho).1 (Rat.num_eq_zero.mp z)
    have hwt := hitD_wt t.p t.q t.s (rayV w h i j)
    have gh : ∀ (l : List (Option D)) (b : List (List D)) (n : Nat), gv (some (some (hitD t.p t.q t.s (rayV w h i j)))) l b n = .ok (hitD t.p t.q t.s (rayV w h i j)) ⟨l, b⟩ := fun l b n => rfl
    have fh : (hitD t.p t.q t.s (rayV w h i j)).frz = hitD t.p t.q t.s (rayV w h i j) := rfl
    have gW : ∀ (l : List (Option D)) (b : List (List D)) (n : Nat), gv (some (some (wD3 (wgt t.p t.q t.s (rayV w h i j))))) l b n = .ok (wD3 (wgt t.p t.q t.s (rayV w h i j))) ⟨l, b⟩ := fun l b n => rfl
    have fW : (wD3 (wgt t.p t.q t.s (rayV w h i j))).frz = wD3 (wgt t.p t.q t.s (rayV w h i j)) := rfl
    have ez : ∀ (x y : D), asgT (.tup (.cons (.var 9) (.cons (.var 10) .nil))) (.tup [x, y]) ⟨[some (.box 0), none, none, some (.int w), some (.int h), some t.d, some (.tup [.int i, .int j]), some (rayV w h i j).d, some (.lst [t.p.d, t.q.d, t.s.d]), none, none], b4⟩ = some ⟨[some (.box 0), none, none, some (.int w), some (.int h), some t.d, some (.tup [.int i, .int j]), some (rayV w h i j).d, some (.lst [t.p.d, t.q.d, t.s.d]), some x, some y], b4⟩ := fun x y => rfl
    have hwd : D.tup [.tup [.int 0, .int 0, .int 1, .int 1]] = wsD [w0] := rfl
    rw [← hwd] at c6
    have hwld : wl.d = D.tup [.int wa, .int wb, .int (y1 - 2), .int (y2 - 2)] := rfl
    rw [hwld] at c8
    have j0 : ∀ q : Rat, ixD (sh q) (.int 0) = some (.int q.num) := fun q => rfl
    have eqI : ∀ i j : Int, opC .eq (.int i) (.int j) = some (i == j) := fun i j => rfl
    generalize hitD t.p t.q t.s (rayV w h i j) = H at *
    generalize wD3 (wgt t.p t.q t.s (rayV w h i j)) = W at *
    generalize dep t.p t.q t.s (rayV w h i j) = dp at *
    generalize rayV w h i j = r at *
    suffices hC : callN prg.tb prg.gb L (k + 1) 78 [.box 0] bx = .ok (.bl true) b8 from ⟨b8, fun l => callR_ok hC, e8.mono (by omega)⟩
    rw [callN_eq (f := ⟨1, 11, i78⟩) rfl]
    let PS : List D := [t.p.d, t.q.d, t.s.d]
    refine runF_rt (s := ⟨[some (.box 0), some H, some (.tup [.int wa, .int wb, .int (y1 - 2), .int (y2 - 2)]), some (.int w), some (.int h), some t.d, some (.tup [.int i, .int j]), some r.d, some (.lst PS), some (sh dp), some W], b8⟩) rfl ?_
    rw [hs]
    refine seq_of q1 (seq_of q2 (seq_of q3 ?_))
    refine seq_of (l1 := [some (.box 0), none, none, some (.int w), some (.int h), some t.d, some (.tup [.int i, .int j]), some r.d, some (.lst PS), none, none]) (b1 := b4) (by simp [c3'.r, PS]) ?_
    refine seq_of (l1 := [some (.box 0), none, none, some (.int w), some (.int h), some t.d, some (.tup [.int i, .int j]), some r.d, some (.lst PS), some (sh dp), some W]) (b1 := b4) (by simp [PS, c5'.r, ez]) ?_
    refine seq_of (l1 := [some (.box 0), some H, none, some (.int w), some (.int h), some t.d, some (.tup [.int i, .int j]), some r.d, some (.lst PS), some (sh dp), some W]) (b1 := b4) (by simp [gt, ft, c6.r]) ?_
    refine seq_of (l1 := [some (.box 0), some H, none, some (.int w), some (.int h), some t.d, some (.tup [.int i, .int j]), some r.d, some (.lst PS), some (sh dp), some W]) (b1 := b4) ?_ ?_
    · simp [gh, fh, gW, fW, hwt, hq, PS, c7.r, j0, eqI, hvn, -opC_eq, -opC_ne]
    refine seq_of (l1 := [some (.box 0), some H, some (.tup [.int wa, .int wb, .int (y1 - 2), .int (y2 - 2)]), some (.int w), some (.int h), some t.d, some (.tup [.int i, .int j]), some r.d, some (.lst PS), some (sh dp), some W]) (b1 := b8) (by simp [d5, d6, d7, d8]) ?_
    simp [gt, ft, c8.r]
end
end Q.K26
end

section
set_option maxRecDepth 100000
set_option maxHeartbeats 4000000
set_option exponentiation.threshold 70
/-! U26r: the law. -/
namespace Q.K26
open PySem L2 Q
def lawB : St := (.seq (.ite (.or (.not (.tru (.call 76 (.cons (.var 1) .nil)))) (.or (.not (.tru (.call 77 (.cons (.var 1) .nil)))) (.not (.tru (.call 78 (.cons (.var 1) .nil)))))) (.seq (.ret (.cst (.bl false))) .nil) .nil) .nil)
section
variable {L : Nat} (hL : 2 ^ 9000 ≤ L)
include hL
theorem shown_no {n : Nat} (hn : 6 ≤ n) {k : Nat} {v : V} (hv : v.Z k) (hk : k ≤ 900) (h : sgn v.z = 0) : Pu L n 28 [v.d] .non :=
  Pu.mk (f := ⟨1, 1, i28⟩) (by omega) rfl rfl fun j e bx => by
    have c1 := check1_ok hL (n := j) (by omega) hv (by omega)
    have c2 := signOf_ok (L := L) (n := j) (by omega) v.z
    have ix : ixD v.d (.int 2) = some (sh v.z) := rfl
    rw [h] at c2
    refine ⟨[some v.d], ?_⟩
    simp [i28, startL, c1.r, ix, c2.r]
theorem lw_step {k m : Nat} (hk : 11 ≤ k) (hm : m < 2 ^ 30) {bx : List (List D)} (hh : Hd m bx) (x0 x2 : Option D) (i : Int) :
    ∃ bx', forT (cc L k) L (.var 2) lawB (.int i) ⟨[x0, some (.box 0), x2], bx⟩ = .ok .nx ⟨[x0, some (.box 0), some (.int i)], bx'⟩ ∧ Hd (m + 100) bx' := by
  obtain ⟨b1, d1, e1⟩ := forms_r hL (n := k) (by omega) (by omega) hh
  obtain ⟨b2, d2, e2⟩ := edge_r hL (n := k) (by omega) (by omega) e1
  obtain ⟨b3, d3, e3⟩ := fence_r hL (n := k) (by omega) (by omega) e2
  refine ⟨b3, ?_, e3⟩
  unfold forT
  have ea : asgT (.var 2) (.int i) ⟨[x0, some (.box 0), x2], bx⟩ = some ⟨[x0, some (.box 0), some (.int i)], bx⟩ := rfl
  rw [ea, Res.opt_some, Res.bnd_ok]
  simp [lawB, d1, d2, d3]
end
theorem law_ok (ns : List Int) (hl : ns.length ≤ 63) : ∃ L b, callN prg.tb prg.gb L 60 80 [.scr ns] [] = .ok (.bl true) b := by
  obtain ⟨L, hL⟩ : ∃ L : Nat, 2 ^ 9000 ≤ L := ⟨_, Nat.le_refl _⟩
  obtain ⟨b0, t1, h0⟩ := tape_ok (L := L) (n := 59) (by omega) ns hl
  have f1 : ∀ l, callR (cc L 59) 51 [.scr ns] ⟨l, []⟩ = .ok (.box 0) ⟨l, b0⟩ := fun l => callR_ok t1
  have g1 := smallSign_ok hL (n := 59) (by omega) (a := ⟨1, 0, 0⟩) (k := 1) ⟨sz_one, sz_zero, sz_zero⟩ (by omega) (w := 3) (h := 3) (i := 1) (j := 1) (by omega) (by omega) (by omega) (by omega) (by omega) (by omega) (by omega) (by omega)
  have g2 := smallSign_ok hL (n := 59) (by omega) (a := ⟨0, -1, 0⟩) (k := 1) ⟨sz_zero, sz_neg sz_one, sz_zero⟩ (by omega) (w := 3) (h := 3) (i := 1) (j := 1) (by omega) (by omega) (by omega) (by omega) (by omega) (by omega) (by omega) (by omega)
  have v1 : V.mv ⟨1, 0, 0⟩ (rayV 3 3 1 1) = 1 := by decide +kernel
  have v2 : V.mv ⟨0, -1, 0⟩ (rayV 3 3 1 1) = -1 := by decide +kernel
  rw [v1] at g1
  rw [v2] at g2
  have g3 := upright_ok hL (n := 59) (by omega) (a := ⟨0, 0, 1⟩) (b := ⟨1, 0, 0⟩) (k := 1) ⟨sz_zero, sz_zero, sz_one⟩ ⟨sz_one, sz_zero, sz_zero⟩ (by omega)
  have z3 : V.crs ⟨0, 0, 1⟩ ⟨1, 0, 0⟩ = ⟨0, 1, 0⟩ := by
    simp only [V.crs]; congr 1 <;> decide +kernel
  rw [z3] at g3
  have g4 := shown_no hL (n := 59) (by omega) (v := ⟨0, 1, 0⟩) (k := 1) ⟨sz_zero, sz_one, sz_zero⟩ (by omega) rfl
  obtain ⟨b1, s1, h1⟩ := lw_step hL (k := 59) (by omega) (by omega) h0 (some (.scr ns)) none 0
  obtain ⟨b2, s2, h2⟩ := lw_step hL (k := 59) (by omega) (by omega) h1 (some (.scr ns)) (some (.int 0)) 1
  obtain ⟨b3, s3, h3⟩ := lw_step hL (k := 59) (by omega) (by omega) h2 (some (.scr ns)) (some (.int 1)) 2
  obtain ⟨b4, s4, h4⟩ := lw_step hL (k := 59) (by omega) (by omega) h3 (some (.scr ns)) (some (.int 2)) 3
  have e1 : D.tup [.tup [.int 1, .int 1], .tup [.int 0, .int 1], .tup [.int 0, .int 1]] = (⟨1, 0, 0⟩ : V).d := rfl
  have e2 : D.tup [.tup [.int 0, .int 1], .tup [.int (-1), .int 1], .tup [.int 0, .int 1]] = (⟨0, -1, 0⟩ : V).d := rfl
  have e3 : D.tup [.tup [.int 0, .int 1], .tup [.int 0, .int 1], .tup [.int 1, .int 1]] = (⟨0, 0, 1⟩ : V).d := rfl
  have neI : ∀ i j : Int, opC .ne (.int i) (.int j) = some (!(i == j)) := fun i j => rfl
  have nn : opC .notN .non .non = some false := rfl
  refine ⟨L, b4, ?_⟩
  rw [callN_eq (f := ⟨1, 3, i80⟩) rfl]
  refine runF_rt (s := ⟨[some (.scr ns), some (.box 0), some (.int 3)], b4⟩) rfl ?_
  have hs : startL ⟨1, 3, i80⟩ [.scr ns] = [some (.scr ns), none, none] := rfl
  rw [hs]
  refine seq_of (l1 := [some (.scr ns), some (.box 0), none]) (b1 := b0) (by simp [f1]) ?_
  refine seq_of (l1 := [some (.scr ns), some (.box 0), none]) (b1 := b0) (by simp [e1, g1.r, neI, -opC_ne]) ?_
  refine seq_of (l1 := [some (.scr ns), some (.box 0), none]) (b1 := b0) (by simp [e2, g2.r, neI, -opC_ne]) ?_
  refine seq_of (l1 := [some (.scr ns), some (.box 0), none]) (b1 := b0) (by simp [e1, e3, g3.r, g4.r, nn, -opC_ne]) ?_
  refine seq_of (l1 := [some (.scr ns), some (.box 0), some (.int 3)]) (b1 := b4) ?_ (by simp)
  have hI : evI (cc L 59) (.rng1 (.cst (.int 4))) ⟨[some (.scr ns), some (.box 0), none], b0⟩ = .ok [.int 0, .int 1, .int 2, .int 3] ⟨[some (.scr ns), some (.box 0), none], b0⟩ := by
    have r3 : rngOk 0 4 = true := rfl
    have rr : rangeD 0 4 = [.int 0, .int 1, .int 2, .int 3] := rfl
    simp [r3, rr]
  rw [es_for, hI, Res.bnd_ok]
  simp only [forL]
  show (Res.bnd (forT (cc L 59) L _ lawB _ _) _) = _
  rw [s1]
  simp only [Res.bnd_ok]
  show (Res.bnd (forT (cc L 59) L _ lawB _ _) _) = _
  rw [s2]
  simp only [Res.bnd_ok]
  show (Res.bnd (forT (cc L 59) L _ lawB _ _) _) = _
  rw [s3]
  simp only [Res.bnd_ok]
  show (Res.bnd (forT (cc L 59) L _ lawB _ _) _) = _
  rw [s4]
  rfl
end Q.K26
end

theorem PySem.Challenge.cw_everysample_k26_whole_small_move_on_edge_holds : PySem.Challenge.rw_everysample_k26_whole_small_move_on_edge.Holds := by
  exact Q.K26.holds_of Q.K26.law_ok
