import PyProof.Rows.All
import Wide.All
import OpenK.AllK
import Wide.FinOn
import KE.SortData
import KE.DataIsa
import KE.DataAny
import HandS.ForMost
import HandS.TupAny
import HandS.Wide
import HandS.TupMul
import HandS.Style
import HandS.DictTup
import HandS.Walk
import PyProof.StrBlock2
import KE.GoesEnum
import HandS.IsInst
import HandS.Text
import HandS.Dict
import PyProof.DictMoreH
import PySem.Challenge.RW_ledquestions_k44_keeps_and_breach
set_option Elab.async false
set_option linter.all false
set_option maxRecDepth 100000
/-! Z, the plain part: what a def of the text computes, over data. -/
namespace Z
open PySem

abbrev D := PyData
/-- the law's deck: cells, great cells, the place in these, the count of draws -/
structure Dk where
  cells : List Int
  gs : List Int
  i : Nat
  n : Nat
inductive Res (α : Type) where
  | ok (a : α) (k : Dk)
  | exc (c : Str) (p : Option D) (k : Dk)
  | bad
def Res.bind {α β : Type} (r : Res α) (f : α → Dk → Res β) : Res β := match r with
  | .ok a k => f a k
  | .exc c p k => .exc c p k
  | .bad => .bad
@[simp] theorem Res.bind_ok {α β : Type} (a : α) (k : Dk) (f : α → Dk → Res β) : (Res.ok a k).bind f = f a k := rfl
@[simp] theorem Res.bind_exc {α β : Type} (c : Str) (p : Option D) (k : Dk) (f : α → Dk → Res β) : (Res.exc c p k : Res α).bind f = .exc c p k := rfl
@[simp] theorem Res.bind_bad {α β : Type} (f : α → Dk → Res β) : (Res.bad : Res α).bind f = .bad := rfl
/-- a value where there is one -/
def Res.of {α : Type} (o : Option α) (k : Dk) : Res α := match o with
  | some a => .ok a k
  | none => .bad
@[simp] theorem Res.of_some {α : Type} (a : α) (k : Dk) : Res.of (some a) k = .ok a k := rfl
@[simp] theorem Res.of_none {α : Type} (k : Dk) : Res.of (none : Option α) k = .bad := rfl

/-- an argument -/
inductive Ar where
  | dat (d : D)
  | dk
/-- what a slot holds: nothing known; a datum that stays; the deck; a list, a dict, a dict of lists of the frame's own -/
inductive SV where
  | un
  | dat (d : D)
  | dk
  | own (ds : List D)
  | dic (tg : D) (kvs : List (D × D))
  | dil (es : List (D × List D))
def Ar.sv : Ar → SV
  | .dat d => .dat d
  | .dk => .dk
abbrev Env := List SV
abbrev EM := Env → Dk → Res D
abbrev NM := Env → Dk → Res (List D)
abbrev TM := Env → Dk → Res Bool
abbrev AM := Env → Dk → Res (List Ar)
inductive Out where
  | nx (e : Env)
  | rt (d : D)
  | bk (e : Env)
  | ct (e : Env)
abbrev SM := Env → Dk → Res Out
abbrev Fn := List Ar → Dk → Res D

/-! ### data -/
/-- no dict within, of small depth -/
def dOk (d : D) : Bool := d.plain && decide (d.depth ≤ 40)
def dOks (ds : List D) : Bool := PyData.plainAll ds && decide (PyData.depthAll ds ≤ 40)
def eqD (x y : D) : Option D := if dOk x && dOk y then some (.bool (PyData.eqv x y)) else none
def neD (x y : D) : Option D := if dOk x && dOk y then some (.bool (!PyData.eqv x y)) else none
/-- texts as signs -/
def strIn (i j : Str) : Bool := !(Builtin.Str.occurrences j i 0 j.length 1).isEmpty
def memD (x c : D) : Option Bool := match c with
  | .list ds => if dOk x && dOks ds then some (ds.any fun y => PyData.eqv y x) else none
  | .tuple ds => if dOk x && dOks ds then some (ds.any fun y => PyData.eqv y x) else none
  | .str z => match x with
    | .str s => some (strIn s z)
    | _ => none
  | _ => none
def inD (x c : D) : Option D := (memD x c).map .bool
def niD (x c : D) : Option D := (memD x c).map fun b => .bool (!b)
def isN (d : D) : Bool := match d with
  | .none => true
  | _ => false
def addD (x y : D) : Option D := match x, y with
  | .int i, .int j => some (.int (i + j))
  | .str i, .str j => if i.length + j.length ≤ sizeLine then some (.str (i ++ j)) else none
  | .tuple xs, .tuple ys => if xs.length + ys.length ≤ sizeLine then some (.tuple (xs ++ ys)) else none
  | .list xs, .list ys => if xs.length + ys.length ≤ sizeLine then some (.list (xs ++ ys)) else none
  | _, _ => none
def subD (x y : D) : Option D := match x, y with
  | .int i, .int j => some (.int (i - j))
  | _, _ => none
def mulD (x y : D) : Option D := match x, y with
  | .int i, .int j => if i.natAbs < 2 ^ 64 then some (.int (i * j)) else none
  | .str s, .int k => if s.length ≤ 1000 ∧ -1000 ≤ k ∧ k ≤ 1000 then some (.str (Txt.mul s k)) else none
  | .list ds, .int k => if -1000 ≤ k ∧ k ≤ 1000 ∧ ds.length ≤ 1000 then some (.list (List.replicate k.toNat ds).flatten) else none
  | _, _ => none
def fdivD (x y : D) : Option D := match x, y with
  | .int i, .int j => if 0 < j ∧ j < 1073741824 then some (.int (i / j)) else none
  | _, _ => none
def modD (x y : D) : Option D := match x, y with
  | .int i, .int j => if 0 < j then some (.int (i % j)) else none
  | _, _ => none
def powD (x y : D) : Option D := match x, y with
  | .int i, .int j => if 0 ≤ j ∧ j ≤ 1000000 ∧ i.natAbs < 2 ^ 64 then some (.int (i ^ j.toNat)) else none
  | _, _ => none
def negD (x : D) : Option D := match x with
  | .int i => some (.int (-i))
  | _ => none
def ltD (x y : D) : Option D := match x, y with
  | .int i, .int j => some (.bool (decide (i < j)))
  | _, _ => none
def leD (x y : D) : Option D := match x, y with
  | .int i, .int j => some (.bool (decide (i ≤ j)))
  | _, _ => none
def gtD (x y : D) : Option D := match x, y with
  | .int i, .int j => some (.bool (decide (j < i)))
  | _, _ => none
def geD (x y : D) : Option D := match x, y with
  | .int i, .int j => some (.bool (decide (j ≤ i)))
  | _, _ => none
def isND (x : D) : D := .bool (isN x)
def notND (x : D) : D := .bool (!isN x)
/-- truth -/
def trD (x : D) : Option Bool := match x with
  | .bool b => some b
  | _ => none
def lenD (x : D) : Option D := match x with
  | .list ds => some (.int ds.length)
  | .tuple ds => some (.int ds.length)
  | .str s => if s.length ≤ sizeLine then some (.int s.length) else none
  | _ => none
/-- an index as a place -/
def at' {α : Type} (xs : List α) (i : Int) : Option α := L2.atI xs i
def ixD (x i : D) : Option D := match x, i with
  | .list ds, .int j => L2.atI ds j
  | .tuple ds, .int j => L2.atI ds j
  | .str s, .int j => if s.length ≤ sizeLine then (L2.atI s.cps.toList j).map fun c => .str ⟨#[c]⟩ else none
  | _, _ => none

/-! ### expressions -/
def eVar (i : Nat) : EM := fun e k => match e[i]? with
  | some (.dat d) => .ok d k
  | _ => .bad
def eC (d : D) : EM := fun _ k => .ok d k
def eOp (f : D → D → Option D) (a b : EM) : EM := fun e k => (a e k).bind fun x k1 => (b e k1).bind fun y k2 => Res.of (f x y) k2
def eUn (f : D → Option D) (a : EM) : EM := fun e k => (a e k).bind fun x k1 => Res.of (f x) k1
def eIf (t : TM) (a b : EM) : EM := fun e k => (t e k).bind fun c k1 => if c then a e k1 else b e k1
def eAnd (a b : EM) : EM := fun e k => (a e k).bind fun x k1 => match x with
  | .bool true => b e k1
  | .bool false => .ok (.bool false) k1
  | _ => .bad
def eOr (a b : EM) : EM := fun e k => (a e k).bind fun x k1 => match x with
  | .bool false => b e k1
  | .bool true => .ok (.bool true) k1
  | _ => .bad
def eNot (a : EM) : EM := fun e k => (a e k).bind fun x k1 => match x with
  | .bool b => .ok (.bool (!b)) k1
  | _ => .bad
def tE (a : EM) : TM := fun e k => (a e k).bind fun x k1 => Res.of (trD x) k1
def tAnd (a b : TM) : TM := fun e k => (a e k).bind fun x k1 => if x then b e k1 else .ok false k1
def tOr (a b : TM) : TM := fun e k => (a e k).bind fun x k1 => if x then .ok true k1 else b e k1
def tNot (a : TM) : TM := fun e k => (a e k).bind fun x k1 => .ok (!x) k1
/-- rows of values -/
def nNil : NM := fun _ k => .ok [] k
def nCons (a : EM) (r : NM) : NM := fun e k => (a e k).bind fun x k1 => (r e k1).bind fun xs k2 => .ok (x :: xs) k2
def eTup (r : NM) : EM := fun e k => (r e k).bind fun xs k1 => if xs.length ≤ sizeLine then .ok (.tuple xs) k1 else .bad
/-- a new list, as a datum -/
def eNew (r : NM) : EM := fun e k => (r e k).bind fun xs k1 => .ok (.list xs) k1
def nLst (r : NM) : NM := fun e k => (r e k).bind fun xs k1 => if xs.length ≤ sizeLine then .ok xs k1 else .bad
/-- arguments -/
def aNil : AM := fun _ k => .ok [] k
def aCons (a : EM) (r : AM) : AM := fun e k => (a e k).bind fun x k1 => (r e k1).bind fun xs k2 => .ok (.dat x :: xs) k2
def aDk (i : Nat) (r : AM) : AM := fun e k => match e[i]? with
  | some .dk => (r e k).bind fun xs k2 => .ok (.dk :: xs) k2
  | _ => .bad
/-- no exception leaves -/
def Res.calm {α : Type} (r : Res α) : Res α := match r with
  | .ok a k => .ok a k
  | _ => .bad
@[simp] theorem Res.calm_ok {α : Type} (a : α) (k : Dk) : (Res.ok a k).calm = .ok a k := rfl
@[simp] theorem Res.calm_bad {α : Type} : (Res.bad : Res α).calm = .bad := rfl
def eCall (f : Fn) (r : AM) : EM := fun e k => (r e k).bind fun ds k1 => (f ds k1).calm
/-- a def that may raise -/
def eCallX (f : Fn) (r : AM) : EM := fun e k => (r e k).bind fun ds k1 => f ds k1
/-- slices -/
def oNone : Env → Dk → Res (Option Int) := fun _ k => .ok none k
def oSome (a : EM) : Env → Dk → Res (Option Int) := fun e k => (a e k).bind fun x k1 => match x with
  | .int i => .ok (some i) k1
  | _ => .bad

def eSl (f : D → Option Int → Option Int → Option D) (a : EM) (lo hi : Env → Dk → Res (Option Int)) : EM := fun e k => (a e k).bind fun x k1 => (lo e k1).bind fun l k2 => (hi e k2).bind fun h k3 => Res.of (f x l h) k3
def cutL {α : Type} (xs : List α) (lo hi : Option Int) : List α := (xs.drop (HT.sIx xs.length 0 lo)).take (HT.sIx xs.length xs.length hi - HT.sIx xs.length 0 lo)
def cutD (x : D) (lo hi : Option Int) : Option D := match x with
  | .list ds => some (.list (cutL ds lo hi))
  | .tuple ds => some (.tuple (cutL ds lo hi))
  | .str s => if s.length ≤ sizeLine then some (.str (L2.cutS s lo hi)) else none
  | _ => none
/-- a list's slice: a new list -/
def nSl (a : EM) (lo hi : Env → Dk → Res (Option Int)) : NM := fun e k => (a e k).bind fun x k1 => (lo e k1).bind fun l k2 => (hi e k2).bind fun h k3 => match x with
  | .list ds => .ok (cutL ds l h) k3
  | _ => .bad

/-! ### statements -/
abbrev Tg := D → Env → Option Env
def gN (i : Nat) : Tg := fun d e => if i < e.length then some (e.set i (.dat d)) else none
def gAll : List Tg → List D → Env → Option Env
  | [], [], e => some e
  | g :: gs, d :: ds, e => (g d e).bind fun e1 => gAll gs ds e1
  | _, _, _ => none
def gT (gs : List Tg) : Tg := fun d e => match d with
  | .tuple ds => gAll gs ds e
  | _ => none
def Out.seq (o : Out) (k : Dk) (m : SM) : Res Out := match o with
  | .nx e => m e k
  | .rt d => .ok (.rt d) k
  | .bk e => .ok (.bk e) k
  | .ct e => .ok (.ct e) k
@[simp] theorem Out.seq_nx (e : Env) (k : Dk) (m : SM) : (Out.nx e).seq k m = m e k := rfl
@[simp] theorem Out.seq_rt (d : D) (k : Dk) (m : SM) : (Out.rt d).seq k m = .ok (.rt d) k := rfl
@[simp] theorem Out.seq_bk (e : Env) (k : Dk) (m : SM) : (Out.bk e).seq k m = .ok (.bk e) k := rfl
@[simp] theorem Out.seq_ct (e : Env) (k : Dk) (m : SM) : (Out.ct e).seq k m = .ok (.ct e) k := rfl
def sNil : SM := fun e k => .ok (.nx e) k
def sSeq (a b : SM) : SM := fun e k => (a e k).bind fun o k1 => o.seq k1 b
def sAsg (g : Tg) (a : EM) : SM := fun e k => (a e k).bind fun x k1 => (Res.of (g x e) k1).bind fun e1 k2 => .ok (.nx e1) k2
/-- x, y = a, b -/
def sPar (i j : Nat) (a b : EM) : SM := fun e k => (a e k).bind fun x k1 => (b e k1).bind fun y k2 => if i < e.length ∧ j < e.length then .ok (.nx ((e.set i (.dat x)).set j (.dat y))) k2 else .bad
/-- x = a new list, the frame's own -/
def sOwn (i : Nat) (a : NM) : SM := fun e k => (a e k).bind fun xs k1 => if i < e.length then .ok (.nx (e.set i (.own xs))) k1 else .bad
/-- x.append(e) -/
def sApp (i : Nat) (a : EM) : SM := fun e k => match e[i]? with
  | some (.own ds) => (a e k).bind fun x k1 => if ds.length < sizeLine then .ok (.nx (e.set i (.own (ds ++ [x])))) k1 else .bad
  | _ => .bad
/-- from here on the frame's own list stays as it is -/
def sFrz (i : Nat) (m : SM) : SM := fun e k => match e[i]? with
  | some (.own ds) => m (e.set i (.dat (.list ds))) k
  | _ => m e k
/-- within this expression it stays as it is; no list comes out -/
def flatD : D → Bool
  | .none => true
  | .bool _ => true
  | .int _ => true
  | .str _ => true
  | _ => false
mutual
def tupD : D → Bool
  | .none => true
  | .bool _ => true
  | .int _ => true
  | .str _ => true
  | .tuple ds => tupDs ds
  | .list _ => false
  | .dict _ => false
def tupDs : List D → Bool
  | [] => true
  | d :: ds => tupD d && tupDs ds
end
def eBor (i : Nat) (m : EM) : EM := fun e k => match e[i]? with
  | some (.own ds) => (m (e.set i (.dat (.list ds))) k).bind fun d k1 => if tupD d then .ok d k1 else .bad
  | _ => m e k
def tBor (i : Nat) (m : TM) : TM := fun e k => match e[i]? with
  | some (.own ds) => m (e.set i (.dat (.list ds))) k
  | _ => m e k
def nBor (i : Nat) (m : NM) : NM := fun e k => match e[i]? with
  | some (.own ds) => (m (e.set i (.dat (.list ds))) k).bind fun d k1 => if tupDs d then .ok d k1 else .bad
  | _ => m e k
def sIf (t : TM) (a b : SM) : SM := fun e k => (t e k).bind fun c k1 => if c then a e k1 else b e k1
def sRet (a : EM) : SM := fun e k => (a e k).bind fun x k1 => .ok (.rt x) k1
def sRetN : SM := fun _ k => .ok (.rt .none) k
def sExp (a : EM) : SM := fun e k => (a e k).bind fun _ k1 => .ok (.nx e) k1
/-- the turns of a for -/
def forL (g : Tg) (b : SM) : List D → Env → Dk → Res Out
  | [], e, k => .ok (.nx e) k
  | d :: ds, e, k => (Res.of (g d e) k).bind fun e1 k1 => (b e1 k1).bind fun o k2 => match o with
    | .nx e2 => forL g b ds e2 k2
    | .ct e2 => forL g b ds e2 k2
    | .bk e2 => .ok (.nx e2) k2
    | .rt x => .ok (.rt x) k2
/-- what is walked: the items -/
abbrev IM := Env → Dk → Res (List D)
def sFor (it : IM) (g : Tg) (b : SM) : SM := fun e k => (it e k).bind fun ds k1 => forL g b ds e k1
def iSeq (a : EM) : IM := fun e k => (a e k).bind fun x k1 => match x with
  | .list ds => .ok ds k1
  | .tuple ds => .ok ds k1
  | _ => .bad
def iRange (a : EM) : IM := fun e k => (a e k).bind fun x k1 => match x with
  | .int n => if n.toNat ≤ 1000000 ∧ -1000000 ≤ n then .ok ((List.range n.toNat).map fun (j : Nat) => PyData.int j) k1 else .bad
  | _ => .bad
def enumFrom (n : Nat) : List D → List D
  | [] => []
  | d :: ds => .tuple [.int n, d] :: enumFrom (n + 1) ds
def iEnum (a : EM) : IM := fun e k => (a e k).bind fun x k1 => match x with
  | .list ds => .ok (enumFrom 0 ds) k1
  | .tuple ds => .ok (enumFrom 0 ds) k1
  | _ => .bad
/-- a while, so many turns at most -/
def whileN (t : TM) (b : SM) : Nat → Env → Dk → Res Out
  | 0, _, _ => .bad
  | n + 1, e, k => (t e k).bind fun c k1 => if c then (b e k1).bind fun o k2 => match o with
      | .nx e2 => whileN t b n e2 k2
      | .ct e2 => whileN t b n e2 k2
      | .bk e2 => .ok (.nx e2) k2
      | .rt x => .ok (.rt x) k2
    else .ok (.nx e) k1
open Classical in
noncomputable def sWhile (t : TM) (b : SM) : SM := fun e k => if h : ∃ n, whileN t b n e k ≠ .bad then whileN t b (choose h) e k else .bad
/-! ### comprehensions: own slots vs are wiped -/
def wipeE (e : Env) : List Nat → Env
  | [] => e
  | v :: vs => (wipeE e vs).set v .un
/-- the items, the target, the test, the element -/
def lcL (vs : List Nat) (g : Tg) (t : TM) (a : EM) (e : Env) : List D → List D → Dk → Res (List D)
  | [], acc, k => .ok acc k
  | d :: ds, acc, k => (Res.of (g d (wipeE e vs)) k).bind fun e1 k1 => (t e1 k1).bind fun c k2 =>
    if c then (a e1 k2).bind fun x k3 => if acc.length < sizeLine then lcL vs g t a e ds (acc ++ [x]) k3 else .bad
    else lcL vs g t a e ds acc k2
def nLc (vs : List Nat) (it : IM) (g : Tg) (t : TM) (a : EM) : NM := fun e k => (it e k).bind fun ds k1 => lcL vs g t a e ds [] k1
def tYes : TM := fun _ k => .ok true k
/-- a def's run -/
def Out.fin : Out → Option D
  | .rt d => some d
  | .nx _ => some .none
  | _ => none
@[simp] theorem Out.fin_rt (d : D) : (Out.rt d).fin = some d := rfl
@[simp] theorem Out.fin_nx (e : Env) : (Out.nx e).fin = some .none := rfl
def run (p n : Nat) (m : SM) : Fn := fun as k => if as.length = p then (m (as.map Ar.sv ++ List.replicate n .un) k).bind fun o k1 => Res.of o.fin k1 else .bad
theorem run_len {p n : Nat} {m : SM} : ∀ as k d k', run p n m as k = .ok d k' → as.length = p := fun as k d k' h => by
  unfold run at h
  split at h
  · assumption
  · cases h
/-! ### built-ins, over a row of values -/
def eFn (f : List D → Option D) (r : NM) : EM := fun e k => (r e k).bind fun ds k1 => Res.of (f ds) k1
/-- one that makes a list -/
def nFn (f : List D → Option (List D)) (r : NM) : NM := fun e k => (r e k).bind fun ds k1 => Res.of (f ds) k1
def fLen (ds : List D) : Option D := match ds with
  | [x] => lenD x
  | _ => none
def fAbs (ds : List D) : Option D := match ds with
  | [.int i] => some (.int (if i < 0 then -i else i))
  | _ => none
def fInt (ds : List D) : Option D := match ds with
  | [.int i] => some (.int i)
  | [.bool b] => some (.int (if b then 1 else 0))
  | _ => none
def fTuple (ds : List D) : Option D := match ds with
  | [.list xs] => some (.tuple xs)
  | [.tuple xs] => some (.tuple xs)
  | _ => none
def fList (ds : List D) : Option (List D) := match ds with
  | [.list xs] => some xs
  | [.tuple xs] => some xs
  | _ => none
def bools : List D → Option (List Bool)
  | [] => some []
  | .bool b :: ds => (bools ds).map (b :: ·)
  | _ => none
def fAll (ds : List D) : Option D := match ds with
  | [.list xs] => (bools xs).map fun bs => .bool (bs.all id)
  | _ => none
def fMax2 (ds : List D) : Option D := match ds with
  | [.int i, .int j] => some (.int (if j > i then j else i))
  | _ => none
/-- isinstance(x, T) -/
def isiD (f : D → Bool) (d : D) : Option D := if d.plain then some (.bool (f d)) else none
/-- sep.join(list of texts) -/
def textsD : List D → Option (List Str)
  | [] => some []
  | .str s :: ds => (textsD ds).map (s :: ·)
  | _ => none
def joinD (x y : D) : Option D := match x, y with
  | .str a, .list ds => match textsD ds with
    | some ys => if (ys.map (·.length)).sum + ys.length * a.length ≤ 16777216 then some (.str (Txt.join a ys)) else none
    | none => none
  | _, _ => none
/-- list + list, list * int: new lists -/
def nOp (f : D → D → Option (List D)) (a b : EM) : NM := fun e k => (a e k).bind fun x k1 => (b e k1).bind fun y k2 => Res.of (f x y) k2
def catL (x y : D) : Option (List D) := match x, y with
  | .list xs, .list ys => if xs.length + ys.length ≤ sizeLine then some (xs ++ ys) else none
  | _, _ => none
def eJoin (a b : EM) : EM := fun e k => (a e k).bind fun x k1 => match x with
  | .str _ => (b e k1).bind fun y k2 => Res.of (joinD x y) k2
  | _ => .bad
/-! ### the deck -/
def isDkAt (e : Env) (i : Nat) : Bool := match e[i]? with
  | some .dk => true
  | _ => false
/-- deck[0], deck[2], deck[3], len(deck[1]), deck[1][deck[2]] -/
def eDk0 (i : Nat) : EM := fun e k => if isDkAt e i then .ok (.list (k.cells.map PyData.int)) k else .bad
def eDk2 (i : Nat) : EM := fun e k => if isDkAt e i then .ok (.int k.i) k else .bad
def eDk3 (i : Nat) : EM := fun e k => if isDkAt e i then .ok (.int k.n) k else .bad
def eDkL (i : Nat) : EM := fun e k => if isDkAt e i then .ok (.int k.gs.length) k else .bad
def eDkG (i : Nat) : EM := fun e k => if isDkAt e i then Res.of (k.gs[k.i]?.map PyData.int) k else .bad
/-- deck[1][deck[2]] = x, deck[2] = x, deck[3] = x -/
def sDkG (i : Nat) (a : EM) : SM := fun e k => if isDkAt e i then (a e k).bind fun x k1 => match x with
  | .int v => if k1.i < k1.gs.length then .ok (.nx e) { k1 with gs := k1.gs.set k1.i v } else .bad
  | _ => .bad else .bad
def sDk2 (i : Nat) (a : EM) : SM := fun e k => if isDkAt e i then (a e k).bind fun x k1 => match x with
  | .int v => if 0 ≤ v then .ok (.nx e) { k1 with i := v.toNat } else .bad
  | _ => .bad else .bad
def sDk3 (i : Nat) (a : EM) : SM := fun e k => if isDkAt e i then (a e k).bind fun x k1 => match x with
  | .int v => if 0 ≤ v then .ok (.nx e) { k1 with n := v.toNat } else .bad
  | _ => .bad else .bad
/-! ### dicts: a datum's first pair tells what the keys are -/
def flatK (d : D) : Bool := match d with
  | .int _ => true
  | .str _ => true
  | _ => false
def keyOk (tg k : D) : Bool := match tg, k with
  | .none, k => flatK k
  | .bool false, .tuple ks => ks.all flatK
  | _, _ => false
def look (kvs : List (D × D)) (k : D) : Option D := (kvs.find? fun p => PyData.eqv p.1 k).map (·.2)
/-- d.get(k, x) -/
def eGet2 (a b x : EM) : EM := fun e k => (a e k).bind fun d k1 => match d with
  | .dict ((tg, _) :: kvs) => (b e k1).bind fun y k2 => (x e k2).bind fun z k3 => if keyOk tg y then .ok ((look kvs y).getD z) k3 else .bad
  | _ => .bad
/-- a tuple without its first n, from the back -/
def backT (n : Nat) (d : D) : Option D := match d with
  | .tuple ds => some (.tuple (ds.drop n).reverse)
  | _ => none
/-! ### a dict of lists: x = d.setdefault(k, []), then: if t not in x: x.append(t) -/
def lookL (es : List (D × List D)) (k : D) : Option (List D) := (es.find? fun p => PyData.eqv p.1 k).map (·.2)
def setL (k : D) (ds : List D) : List (D × List D) → List (D × List D)
  | [] => []
  | p :: es => if PyData.eqv p.1 k then (p.1, ds) :: es else p :: setL k ds es
def addIn (ds : List D) (d : D) : List D := if ds.any (fun y => PyData.eqv y d) then ds else ds ++ [d]
def addTo (es : List (D × List D)) (k d : D) : List (D × List D) := match lookL es k with
  | some ds => setL k (addIn ds d) es
  | none => es ++ [(k, [d])]
/-- i the dict's slot, j the list's, t the term's -/
def sAddTo (i j t : Nat) (a : EM) : SM := fun e k => match e[i]? with
  | some (.dil es) => (a e k).bind fun y k1 => match e[t]? with
    | some (.dat d) => if keyOk (.bool false) y && dOk d && es.all (fun p => dOks p.2 && decide (p.2.length < sizeLine)) && decide (es.length < sizeLine) && decide (j < e.length) && decide (j ≠ i ∧ j ≠ t) then .ok (.nx ((e.set i (.dil (addTo es y d))).set j .un)) k1 else .bad
    | _ => .bad
  | _ => .bad
def sDil (i : Nat) : SM := fun e k => if i < e.length then .ok (.nx (e.set i (.dil []))) k else .bad
/-- from here on the dict of lists stays as it is -/
def sFrzD (i : Nat) (m : SM) : SM := fun e k => match e[i]? with
  | some (.dil es) => m (e.set i (.dat (.dict ((.bool false, .none) :: es.map fun p => (p.1, .list p.2))))) k
  | _ => m e k
end Z
/-! Z, the ground: how data stand in the abstract heap; the state of a frame; the judgements. -/
namespace Z
open PySem PySem.Spec PyProof.Rows L2

def kD : Key → D
  | .inl i => .int i
  | .inr s => .str s
/-- a dict's keys and values; the first word tells what its keys are -/
def DicAt : HO → D → List D → List V → Prop
  | .dK kvs, tg, ks, vs => tg = .none ∧ ks = kvs.map (fun p => kD p.1) ∧ vs = kvs.map (·.2)
  | .dT kvs, tg, ks, vs => tg = .bool false ∧ ks = kvs.map (fun p => .tuple (p.1.map kD)) ∧ vs = kvs.map (·.2)
  | _, _, _, _ => False
mutual
/-- a value that stands for a datum, in what stays -/
inductive Rp (K : PySem.W.Frag) (F : Hp) : V → D → Prop
  | non : Rp K F .non .none
  | bl (b : Bool) : Rp K F (.bl b) (.bool b)
  | int (i : Int) : Rp K F (.int i) (.int i)
  | str (x : Str) : Rp K F (.str x) (.str x)
  | lst {a : Addr} {xs : List V} {ds : List D} : F a = some (.lst xs) → Rps K F xs ds → Rp K F (.ref a) (.list ds)
  | tup {a : Addr} {xs : List V} {ds : List D} : F a = some (.tup xs) → Rps K F xs ds → Rp K F (.ref a) (.tuple ds)
  | dic {a : Addr} {o : HO} {tg : D} {ks : List D} {vs : List V} {ds : List D} : F a = some o → DicAt o tg ks vs → Rps K F vs ds → Rp K F (.ref a) (.dict ((tg, .none) :: ks.zip ds))
inductive Rps (K : PySem.W.Frag) (F : Hp) : List V → List D → Prop
  | nil : Rps K F [] []
  | cons {v : V} {vs : List V} {d : D} {ds : List D} : Rp K F v d → Rps K F vs ds → Rps K F (v :: vs) (d :: ds)
end
theorem same_t {K : PySem.W.Frag} {F F' : Hp} {a : Addr} {xs : List V} (m : Same F F') (h : SqT K F a xs) : SqT K F' a xs := by
  rcases h with (h | ⟨o, h⟩) | h
  · exact .inl (.inl (m _ _ h))
  · exact .inl (.inr ⟨o, m _ _ h⟩)
  · exact .inr h
section
variable {K : PySem.W.Frag} {F F' : Hp}
mutual
theorem Rp.mono (m : Same F F') : ∀ {v : V} {d : D}, Rp K F v d → Rp K F' v d
  | _, _, .non => .non
  | _, _, .bl b => .bl b
  | _, _, .int i => .int i
  | _, _, .str x => .str x
  | _, _, .lst h hs => .lst (m _ _ h) (Rps.mono m hs)
  | _, _, .tup h hs => .tup (m _ _ h) (Rps.mono m hs)
  | _, _, .dic h hd hs => .dic (m _ _ h) hd (Rps.mono m hs)
theorem Rps.mono (m : Same F F') : ∀ {vs : List V} {ds : List D}, Rps K F vs ds → Rps K F' vs ds
  | _, _, .nil => .nil
  | _, _, .cons h t => .cons (Rp.mono m h) (Rps.mono m t)
end
mutual
/-- without dicts it is what the layer below calls data -/
theorem Rp.dp : ∀ {v : V} {d : D}, d.plain = true → Rp K F v d → Dp K F v d
  | _, _, _, .non => .non
  | _, _, _, .bl b => .bl b
  | _, _, _, .int i => .int i
  | _, _, _, .str x => .str x
  | _, _, p, .lst h hs => .lst (.inl (.inl h)) (Rps.dp (by simpa [PyData.plain] using p) hs)
  | _, _, p, .tup h hs => .tup (.inl (.inl h)) (Rps.dp (by simpa [PyData.plain] using p) hs)
  | _, _, p, .dic _ _ _ => by simp [PyData.plain] at p
theorem Rps.dp : ∀ {vs : List V} {ds : List D}, PyData.plainAll ds = true → Rps K F vs ds → DpAll K F vs ds
  | _, _, _, .nil => .nil
  | _, _, p, .cons h t => by
    rw [PyData.plainAll, Bool.and_eq_true] at p
    exact .cons (Rp.dp p.1 h) (Rps.dp p.2 t)
end
mutual
theorem dp_mono {H : Hp} (m : Same F H) : ∀ {v : V} {d : D}, Dp K F v d → Dp K H v d
  | _, _, .non => .non
  | _, _, .bl b => .bl b
  | _, _, .int i => .int i
  | _, _, .str x => .str x
  | _, _, .lst h hs => .lst (m.seq h) (dps_mono m hs)
  | _, _, .tup h hs => .tup (same_t m h) (dps_mono m hs)
theorem dps_mono {H : Hp} (m : Same F H) : ∀ {vs : List V} {ds : List D}, DpAll K F vs ds → DpAll K H vs ds
  | _, _, .nil => .nil
  | _, _, .cons h t => .cons (dp_mono m h) (dps_mono m t)
end
theorem Rps.length : ∀ {vs : List V} {ds : List D}, Rps K F vs ds → vs.length = ds.length
  | _, _, .nil => rfl
  | _, _, .cons _ t => by rw [List.length_cons, List.length_cons, Rps.length t]
theorem Rps.append : ∀ {vs ws : List V} {ds es : List D}, Rps K F vs ds → Rps K F ws es → Rps K F (vs ++ ws) (ds ++ es)
  | _, _, _, _, .nil, h => h
  | _, _, _, _, .cons h t, u => .cons h (Rps.append t u)
theorem Rps.take : ∀ (n : Nat) {vs : List V} {ds : List D}, Rps K F vs ds → Rps K F (vs.take n) (ds.take n)
  | 0, _, _, _ => by simpa using Rps.nil
  | n + 1, _, _, .nil => .nil
  | n + 1, _, _, .cons h t => .cons h (Rps.take n t)
theorem Rps.drop : ∀ (n : Nat) {vs : List V} {ds : List D}, Rps K F vs ds → Rps K F (vs.drop n) (ds.drop n)
  | 0, _, _, h => h
  | n + 1, _, _, .nil => .nil
  | n + 1, _, _, .cons _ t => Rps.drop n t
theorem Rps.snoc : ∀ {vs : List V} {ds : List D} {v : V} {d : D}, Rps K F vs ds → Rp K F v d → Rps K F (vs ++ [v]) (ds ++ [d])
  | _, _, _, _, .nil, r => .cons r .nil
  | _, _, _, _, .cons h t, r => .cons h (Rps.snoc t r)
theorem Rps.reverse : ∀ {vs : List V} {ds : List D}, Rps K F vs ds → Rps K F vs.reverse ds.reverse
  | _, _, .nil => .nil
  | _, _, .cons h t => by
    rw [List.reverse_cons, List.reverse_cons]
    exact Rps.snoc (Rps.reverse t) h
theorem Rps.at : ∀ {i : Nat} {vs : List V} {ds : List D} {d : D}, Rps K F vs ds → ds[i]? = some d → ∃ v, vs[i]? = some v ∧ Rp K F v d
  | _, _, _, _, .nil, h => by simp at h
  | 0, _, _, _, .cons h t, e => by
    simp at e
    exact ⟨_, rfl, e ▸ h⟩
  | i + 1, _, _, _, .cons h t, e => by
    obtain ⟨v, q, r⟩ := Rps.at (i := i) t (by simpa using e)
    exact ⟨v, by simpa using q, r⟩
theorem Rps.at' : ∀ {i : Nat} {vs : List V} {ds : List D} {v : V}, Rps K F vs ds → vs[i]? = some v → ∃ d, ds[i]? = some d ∧ Rp K F v d
  | _, _, _, _, .nil, h => by simp at h
  | 0, _, _, _, .cons h t, e => by
    simp at e
    exact ⟨_, rfl, e ▸ h⟩
  | i + 1, _, _, _, .cons h t, e => by
    obtain ⟨v, q, r⟩ := Rps.at' (i := i) t (by simpa using e)
    exact ⟨v, by simpa using q, r⟩
theorem Rps.cut {vs : List V} {ds : List D} (h : Rps K F vs ds) (lo hi : Option Int) : Rps K F (cutV vs lo hi) (cutL ds lo hi) := by
  unfold cutV cutL
  rw [h.length]
  exact (h.drop _).take _
theorem Rps.atI {vs : List V} {ds : List D} {i : Int} {d : D} (h : Rps K F vs ds) (e : L2.atI ds i = some d) : ∃ v, L2.atI vs i = some v ∧ Rp K F v d := by
  unfold L2.atI at e ⊢
  rw [h.length]
  cases q : ixN ds.length i with
  | none => rw [q] at e; cases e
  | some j =>
    rw [q] at e
    exact h.at e
theorem Rps.ints : ∀ {vs : List V} {ns : List Int}, Rps K F vs (ns.map PyData.int) → vs = ns.map V.int
  | [], [], _ => rfl
  | [], n :: ns, h => by cases h
  | _ :: _, [], h => by cases h
  | v :: vs, n :: ns, h => by
    cases h with
    | cons h t =>
      cases h
      rw [Rps.ints t]
      rfl
theorem Rps.of_ints : ∀ (ns : List Int), Rps K F (ns.map V.int) (ns.map PyData.int)
  | [] => .nil
  | n :: ns => .cons (.int n) (Rps.of_ints ns)
end

/-! ### the state -/
/-- where the deck lies: itself, its cells, its great cells -/
structure DA where
  a : Addr
  c : Addr
  g : Addr
def isDk (da : Option DA) (p : Addr) : Prop := ∃ q, da = some q ∧ (p = q.a ∨ p = q.g)
def DkOk (K : PySem.W.Frag) (da : Option DA) (k : Dk) (F H : Hp) : Prop := ∀ q, da = some q →
  H q.a = some (.lst [.ref q.c, .ref q.g, .int k.i, .int k.n]) ∧ H q.g = some (.lst (k.gs.map V.int)) ∧ F q.c = some (.lst (k.cells.map V.int)) ∧ F q.a = none ∧ F q.g = none ∧ q.a ≠ q.g
/-- what is fixed through a def's run: what stayed and the heap at the entry, the deck's place -/
structure Zc where
  F0 : Hp
  H0 : Hp
  da : Option DA
def OwnA (c : Zc) (F : Hp) (p : Addr) : Prop := F p = none ∧ c.H0 p = none ∧ ¬ isDk c.da p
/-- the heap's part -/
structure Gd (K : PySem.W.Frag) (c : Zc) (F H : Hp) (k : Dk) : Prop where
  le : Same F H
  dk : DkOk K c.da k F H
  pres : ∀ a o, c.H0 a = some o → ¬ isDk c.da a → H a = some o
  f0 : Same c.F0 F
  fr : ∀ a o, F a = some o → c.F0 a = some o ∨ c.H0 a = none
/-- a dict of lists: its pairs, where its lists lie, what it tells -/
inductive Dil (K : PySem.W.Frag) (F H : Hp) : List (List Key × V) → List Addr → List (D × List D) → Prop
  | nil : Dil K F H [] [] []
  | cons {k : List Key} {a : Addr} {vs : List V} {ds : List D} {kvs : List (List Key × V)} {as : List Addr} {es : List (D × List D)} : H a = some (.lst vs) → Rps K F vs ds → Dil K F H kvs as es → Dil K F H ((k, .ref a) :: kvs) (a :: as) ((.tuple (k.map kD), ds) :: es)
def SlotOk (K : PySem.W.Frag) (c : Zc) (F H : Hp) (ow : List Addr) (x : Option (Option V)) : SV → Prop
  | .un => ow = []
  | .dat d => ow = [] ∧ ∃ v, x = some (some v) ∧ Rp K F v d
  | .dk => ow = [] ∧ ∃ q, c.da = some q ∧ x = some (some (.ref q.a))
  | .own ds => ∃ p vs, ow = [p] ∧ x = some (some (.ref p)) ∧ H p = some (.lst vs) ∧ Rps K F vs ds ∧ OwnA c F p
  | .dic tg kvs => ∃ p o ks vs ds, ow = [p] ∧ x = some (some (.ref p)) ∧ H p = some o ∧ DicAt o tg ks vs ∧ Rps K F vs ds ∧ kvs = ks.zip ds ∧ OwnA c F p
  | .dil es => ∃ p kvs as, ow = p :: as ∧ (p :: as).Nodup ∧ x = some (some (.ref p)) ∧ H p = some (.dT kvs) ∧ Dil K F H kvs as es ∧ ∀ q ∈ p :: as, OwnA c F q
structure Slots (K : PySem.W.Frag) (c : Zc) (F H : Hp) (σ : L2.St) (e : Env) (ow : Nat → List Addr) : Prop where
  len : σ.length = e.length
  at_ : ∀ i s, e[i]? = some s → SlotOk K c F H (ow i) σ[i]? s
  inj : ∀ i j p, p ∈ ow i → p ∈ ow j → i = j
  out : ∀ i, e.length ≤ i → ow i = []
/-- ow: where the frame's own lists and dicts lie, by slot -/
structure Okay (K : PySem.W.Frag) (c : Zc) (ow : Nat → List Addr) (σ : L2.St) (e : Env) (F H : Hp) (k : Dk) : Prop where
  gd : Gd K c F H k
  sl : Slots K c F H σ e ow

section
variable {K : PySem.W.Frag} {c : Zc} {σ : L2.St} {e : Env} {F F' H H' : Hp} {k k' : Dk}
theorem upd_get (H : Hp) (p : Addr) (o : HO) (b : Addr) : upd H p o b = if b = p then some o else H b := rfl
theorem same_new {H : Hp} {p : Addr} {o : HO} (h : H p = none) : Same H (upd H p o) := fun b x e => by
  rw [upd_ne (ne_of_none e h)]
  exact e
theorem same_both {F H : Hp} {p : Addr} {o : HO} (m : Same F H) : Same (upd F p o) (upd H p o) := fun b x e => by
  rw [upd_get] at e ⊢
  by_cases h : b = p
  · rw [if_pos h] at e ⊢; exact e
  · rw [if_neg h] at e ⊢; exact m _ _ e
theorem same_free {F H : Hp} (m : Same F H) {p : Addr} (h : H p = none) : F p = none := m.free h
/-- the deck's objects stand where they do -/
theorem DkOk.not_new {p : Addr} (d : DkOk K c.da k F H) (h : H p = none) : ¬ isDk c.da p := fun ⟨q, e, z⟩ => by
  obtain ⟨h1, h2, _⟩ := d q e
  rcases z with z | z
  · rw [z, h1] at h; cases h
  · rw [z, h2] at h; cases h
theorem Dil.step (mF : Same F F') {kvs : List (List Key × V)} {as : List Addr} {es : List (D × List D)} (mH : ∀ a ∈ as, ∀ o, H a = some o → H' a = some o) (h : Dil K F H kvs as es) : Dil K F' H' kvs as es := by
  induction h with
  | nil => exact .nil
  | cons h1 r _ ih => exact .cons (mH _ List.mem_cons_self _ h1) (r.mono mF) (ih fun a ha => mH a (List.mem_cons_of_mem _ ha))
theorem Dil.some_ {kvs : List (List Key × V)} {as : List Addr} {es : List (D × List D)} (h : Dil K F H kvs as es) : ∀ a ∈ as, H a ≠ none := by
  induction h with
  | nil => intro a ha; cases ha
  | cons h1 r _ ih =>
    intro a ha
    rcases List.mem_cons.mp ha with z | z
    · rw [z, h1]; simp
    · exact ih a z
/-- what an expression may do: things are made; what is known stays, the deck turns -/
theorem SlotOk.step {ow : List Addr} {x : Option (Option V)} {s : SV} (mF : Same F F') (mH : ∀ a ∈ ow, ∀ o, H a = some o → ¬ isDk c.da a → H' a = some o) (fr : ∀ a ∈ ow, H a ≠ none → F a = none → F' a = none) (h : SlotOk K c F H ow x s) : SlotOk K c F' H' ow x s := by
  cases s with
  | un => exact h
  | dat d => obtain ⟨o, v, e, r⟩ := h; exact ⟨o, v, e, r.mono mF⟩
  | dk => exact h
  | own ds =>
    obtain ⟨p, vs, rfl, e2, e3, r, o1, o2, o3⟩ := h
    exact ⟨p, vs, rfl, e2, mH _ List.mem_cons_self _ e3 o3, r.mono mF, fr p List.mem_cons_self (by rw [e3]; simp) o1, o2, o3⟩
  | dic tg kvs =>
    obtain ⟨p, o, ks, vs, ds, rfl, e2, e3, dd, r, e4, o1, o2, o3⟩ := h
    exact ⟨p, o, ks, vs, ds, rfl, e2, mH _ List.mem_cons_self _ e3 o3, dd, r.mono mF, e4, fr p List.mem_cons_self (by rw [e3]; simp) o1, o2, o3⟩
  | dil es =>
    obtain ⟨p, kvs, as, rfl, e1, e2, e3, dd, oo⟩ := h
    refine ⟨p, kvs, as, rfl, e1, e2, mH _ List.mem_cons_self _ e3 (oo p List.mem_cons_self).2.2, dd.step mF fun a ha o h => mH a (List.mem_cons_of_mem _ ha) o h (oo a (List.mem_cons_of_mem _ ha)).2.2, fun q hq => ?_⟩
    obtain ⟨o1, o2, o3⟩ := oo q hq
    refine ⟨fr q hq ?_ o1, o2, o3⟩
    rcases List.mem_cons.mp hq with z | z
    · rw [z, e3]; simp
    · exact dd.some_ q z
theorem Slots.step {ow : Nat → List Addr} (mF : Same F F') (mH : ∀ a o, H a = some o → ¬ isDk c.da a → H' a = some o) (fr : ∀ a, H a ≠ none → F a = none → F' a = none) (h : Slots K c F H σ e ow) : Slots K c F' H' σ e ow :=
  ⟨h.len, fun i s q => (h.at_ i s q).step mF (fun a _ => mH a) fun a _ => fr a, h.inj, h.out⟩
theorem Gd.new {p : Addr} (o : HO) (f : Gd K c F H k) (h : H p = none) : Gd K c (upd F p o) (upd H p o) k := by
  have hF : F p = none := same_free f.le h
  have nd := f.dk.not_new h
  refine ⟨same_both f.le, fun q hq => ?_, fun a x ha na => ?_, fun a x ha => same_new hF _ _ (f.f0 _ _ ha), fun a x ha => ?_⟩
  · obtain ⟨h1, h2, h3, h4, h5, h6⟩ := f.dk q hq
    have na : q.a ≠ p := fun z => nd ⟨q, hq, .inl z.symm⟩
    have ng : q.g ≠ p := fun z => nd ⟨q, hq, .inr z.symm⟩
    refine ⟨?_, ?_, same_new hF _ _ h3, ?_, ?_, h6⟩
    · rw [upd_ne na]; exact h1
    · rw [upd_ne ng]; exact h2
    · rw [upd_ne na]; exact h4
    · rw [upd_ne ng]; exact h5
  · exact same_new h _ _ (f.pres a x ha na)
  · rw [upd_get] at ha
    by_cases z : a = p
    · refine .inr ?_
      cases q : c.H0 a with
      | none => rfl
      | some y =>
        have := f.pres a y q (z ▸ nd)
        rw [z, h] at this; cases this
    · rw [if_neg z] at ha
      exact f.fr a x ha
theorem Gd.newH {p : Addr} (o : HO) (f : Gd K c F H k) (h : H p = none) : Gd K c F (upd H p o) k := by
  have nd := f.dk.not_new h
  refine ⟨f.le.trans (same_new h), fun q hq => ?_, fun a x ha na => same_new h _ _ (f.pres a x ha na), f.f0, f.fr⟩
  obtain ⟨h1, h2, h3, h4, h5, h6⟩ := f.dk q hq
  exact ⟨same_new h _ _ h1, same_new h _ _ h2, h3, h4, h5, h6⟩
theorem Okay.new {ow : Nat → List Addr} {p : Addr} (o : HO) (s : Okay K c ow σ e F H k) (h : H p = none) : Okay K c ow σ e (upd F p o) (upd H p o) k := by
  refine ⟨s.gd.new o h, s.sl.step (same_new (same_free s.gd.le h)) (fun a x ha _ => same_new h _ _ ha) fun a ha hF => ?_⟩
  rw [upd_ne (show a ≠ p from fun z => ha (by rw [z]; exact h))]
  exact hF
theorem Okay.newH {ow : Nat → List Addr} {p : Addr} (o : HO) (s : Okay K c ow σ e F H k) (h : H p = none) : Okay K c ow σ e F (upd H p o) k :=
  ⟨s.gd.newH o h, s.sl.step (fun _ _ z => z) (fun a x ha _ => same_new h _ _ ha) fun a _ hF => hF⟩
theorem Slots.own {ow : Nat → List Addr} (s : Slots K c F H σ e ow) {i : Nat} {p : Addr} (h : p ∈ ow i) : H p ≠ none ∧ OwnA c F p := by
  cases q : e[i]? with
  | none =>
    rw [s.out i (by simpa using q)] at h
    cases h
  | some v =>
    have z := s.at_ i v q
    cases v with
    | un => rw [show ow i = [] from z] at h; cases h
    | dat d => rw [z.1] at h; cases h
    | dk => rw [z.1] at h; cases h
    | own ds =>
      obtain ⟨p', vs, e1, _, e3, _, o⟩ := z
      rw [e1, List.mem_singleton] at h
      subst h
      exact ⟨by rw [e3]; simp, o⟩
    | dic tg kvs =>
      obtain ⟨p', o, ks, vs, ds, e1, _, e3, _, _, _, o⟩ := z
      rw [e1, List.mem_singleton] at h
      subst h
      exact ⟨by rw [e3]; simp, o⟩
    | dil es =>
      obtain ⟨p', kvs, as, e1, _, _, e3, dd, oo⟩ := z
      rw [e1] at h
      refine ⟨?_, oo p h⟩
      rcases List.mem_cons.mp h with y | y
      · rw [y, e3]; simp
      · exact dd.some_ p y
/-- what is made and not known is put among what stays -/
theorem Gd.frz {p : Addr} {o : HO} (f : Gd K c F H k) (h : H p = some o) (w : OwnA c F p) : Gd K c (upd F p o) H k := by
  obtain ⟨w1, w2, w3⟩ := w
  refine ⟨fun a x ha => ?_, fun q hq => ?_, f.pres, fun a x ha => same_new w1 _ _ (f.f0 _ _ ha), fun a x ha => ?_⟩
  · rw [upd_get] at ha
    by_cases z : a = p
    · rw [if_pos z] at ha; rw [z, h]; exact ha
    · rw [if_neg z] at ha; exact f.le _ _ ha
  · obtain ⟨h1, h2, h3, h4, h5, h6⟩ := f.dk q hq
    have na : q.a ≠ p := fun z => w3 ⟨q, hq, .inl z.symm⟩
    have ng : q.g ≠ p := fun z => w3 ⟨q, hq, .inr z.symm⟩
    exact ⟨h1, h2, same_new w1 _ _ h3, by rw [upd_ne na]; exact h4, by rw [upd_ne ng]; exact h5, h6⟩
  · rw [upd_get] at ha
    by_cases z : a = p
    · exact .inr (z ▸ w2)
    · rw [if_neg z] at ha; exact f.fr a x ha
theorem Okay.frz {ow : Nat → List Addr} {p : Addr} {o : HO} (s : Okay K c ow σ e F H k) (h : H p = some o) (w : OwnA c F p) (hn : ∀ i, p ∉ ow i) : Okay K c ow σ e (upd F p o) H k := by
  refine ⟨s.gd.frz h w, s.sl.len, fun i v q => (s.sl.at_ i v q).step (same_new w.1) (fun _ _ _ z _ => z) fun a ha _ hF => ?_, s.sl.inj, s.sl.out⟩
  rw [upd_ne (show a ≠ p from fun z => hn i (z ▸ ha))]
  exact hF
theorem fresh0 (f : Gd K c F H k) {p : Addr} (h : H p = none) : OwnA c F p := by
  refine ⟨same_free f.le h, ?_, f.dk.not_new h⟩
  cases q : c.H0 p with
  | none => rfl
  | some y =>
    have := f.pres p y q (f.dk.not_new h)
    rw [h] at this; cases this
theorem Gd.into (g : Gd K c F H k) (s : Gd K ⟨F, H, c.da⟩ F' H' k') : Gd K c F' H' k' := by
  refine ⟨s.le, s.dk, fun a o h n => s.pres a o (g.pres a o h n) n, g.f0.trans s.f0, fun a o h => ?_⟩
  rcases s.fr a o h with z | z
  · exact g.fr a o z
  · exact .inr (fresh0 g z).2.1
theorem Gd.start (g : Gd K c F H k) : Gd K ⟨F, H, c.da⟩ F H k :=
  ⟨g.le, g.dk, fun _ _ h _ => h, Same.refl _, fun _ _ h => .inl h⟩
theorem Okay.into {ow : Nat → List Addr} (g : Okay K c ow σ e F H k) (s : Gd K ⟨F, H, c.da⟩ F' H' k') : Okay K c ow σ e F' H' k' := by
  refine ⟨g.gd.into s, g.sl.step s.f0 (fun a o h n => s.pres a o h n) fun a ha hF => ?_⟩
  cases q : F' a with
  | none => rfl
  | some o =>
    rcases s.fr a o q with z | z
    · rw [hF] at z; cases z
    · exact (ha z).elim
end
end Z
/-! Z, the judgements, operators and expressions. -/
namespace Z
open PySem PySem.Spec PyProof.Rows L2

/-- an exception as it lies: its class by its name, its one field's datum -/
def XR (K : PySem.W.Frag) (mg : Str → Option Value) (F : Hp) (cls : Value) (od : Option Addr) (H : Hp) (n : Str) (p : Option D) : Prop :=
  mg n = some cls ∧ match p with
    | none => od = none
    | some d => ∃ a f v, od = some a ∧ H a = some (.xd [(f, v)]) ∧ Rp K F v d
section
variable {α β : Type} (K : PySem.W.Frag) (mg : Str → Option Value) (E : XK) (c : Zc)
def PostR (r : Res α) (good : α → Dk → Prop) : Prop := match r with
  | .ok a k => good a k
  | .exc n p k => ∀ F' H' cls od, Gd K c F' H' k → XR K mg F' cls od H' n p → E cls od H'
  | .bad => False
end
section
variable {α β : Type} {K : PySem.W.Frag} {mg : Str → Option Value} {E : XK} {c : Zc}
theorem PostR.bind {r : Res α} {f : α → Dk → Res β} {good : β → Dk → Prop} (h : PostR K mg E c (r.bind f) good) : PostR K mg E c r fun a k => PostR K mg E c (f a k) good := by
  cases r with
  | ok a k => exact h
  | exc n p k => exact h
  | bad => exact h
theorem PostR.mono {r : Res α} {g g' : α → Dk → Prop} (h : PostR K mg E c r g) (i : ∀ a k, g a k → g' a k) : PostR K mg E c r g' := by
  cases r with
  | ok a k => exact i _ _ h
  | exc n p k => exact h
  | bad => exact h
theorem PostR.of {o : Option α} {k : Dk} {g : α → Dk → Prop} (h : PostR K mg E c (Res.of o k) g) : ∃ a, o = some a ∧ g a k := by
  cases o with
  | none => exact h.elim
  | some a => exact ⟨a, rfl, h⟩
end
section
variable (K : PySem.W.Frag) (da : Option DA) (F H : Hp)
/-- what is wanted of a value, of values, of a truth -/
abbrev GoodE (Q : VK) : D → Dk → Prop := fun d k => ∀ v F' H', Gd K ⟨F, H, da⟩ F' H' k → Rp K F' v d → Q v H'
abbrev GoodN (Q : List V → Hp → Prop) : List D → Dk → Prop := fun ds k => ∀ vs F' H', Gd K ⟨F, H, da⟩ F' H' k → Rps K F' vs ds → Q vs H'
abbrev GoodB (Q : Bool → Hp → Prop) : Bool → Dk → Prop := fun b k => ∀ F' H', Gd K ⟨F, H, da⟩ F' H' k → Q b H'
/-- a new list that nothing else knows: at p, not yet among what stays -/
abbrev GoodL (Q : VK) : List D → Dk → Prop := fun ds k => ∀ p vs F' H', Gd K ⟨F, H, da⟩ F' H' k → H p = none → F' p = none → H' p = some (.lst vs) → Rps K F' vs ds → Q (.ref p) H'
end
section
variable (K : PySem.W.Frag) (mg : Str → Option Value) (E : XK)
def rdE (m : EM) : TE := fun σ H Q => ∃ c ow e F k, Okay K c ow σ e F H k ∧ PostR K mg E c (m e k) (GoodE K c.da F H Q)
def rdT (m : TM) : TT := fun σ H Q => ∃ c ow e F k, Okay K c ow σ e F H k ∧ PostR K mg E c (m e k) (GoodB K c.da F H Q)
def rdN (m : NM) : TA := fun σ H Q => ∃ c ow e F k, Okay K c ow σ e F H k ∧ PostR K mg E c (m e k) (GoodN K c.da F H Q)
/-- a new list -/
def rdL (m : NM) : TE := fun σ H Q => ∃ c ow e F k, Okay K c ow σ e F H k ∧ PostR K mg E c (m e k) (GoodL K c.da F H Q)
/-- a two-place operation over data -/
def rO (f : D → D → Option D) : R2 := fun x y H Q => ∃ da F k dx dy d, Gd K ⟨F, H, da⟩ F H k ∧ Rp K F x dx ∧ Rp K F y dy ∧ f dx dy = some d ∧ GoodE K da F H Q d k
def rU1 (f : D → Option D) : V → Hp → VK → Prop := fun x H Q => ∃ da F k dx d, Gd K ⟨F, H, da⟩ F H k ∧ Rp K F x dx ∧ f dx = some d ∧ GoodE K da F H Q d k
end
theorem pe_wk {X : Cx} {e : Expr} {t t' : TE} (h : PE X e t) (i : ∀ σ H Q, t' σ H Q → t σ H Q) : PE X e t' := ⟨fun pins s σ H Q I q => h.run pins s σ H Q I (i σ H Q q)⟩
theorem pt_wk {X : Cx} {e : Expr} {t t' : TT} (h : PT X e t) (i : ∀ σ H Q, t' σ H Q → t σ H Q) : PT X e t' := ⟨fun pins s σ H Q I q => h.run pins s σ H Q I (i σ H Q q)⟩
theorem pw_wk {X : Cx} {e : Expr} {t t' : TT} (h : PW X e t) (i : ∀ σ H Q, t' σ H Q → t σ H Q) : PW X e t' := ⟨fun w pins s σ H Q I q => h.run w pins s σ H Q I (i σ H Q q)⟩
theorem pa_wk {X : Cx} {e : List Expr} {t t' : TA} (h : PA X e t) (i : ∀ σ H Q, t' σ H Q → t σ H Q) : PA X e t' := ⟨fun p pins s σ H Q I q => h.run p pins s σ H Q I (i σ H Q q)⟩
theorem ps_wk {X : Cx} {e : Stmt} {t t' : TS} (h : PS X e t) (i : ∀ D σ H, t' D σ H → t D σ H) : PS X e t' := ⟨fun pins s σ H D I q => h.run pins s σ H D I (i D σ H q)⟩
theorem pss_wk {X : Cx} {e : List Stmt} {t t' : TS} (h : PSs X e t) (i : ∀ D σ H, t' D σ H → t D σ H) : PSs X e t' := ⟨fun pins s σ H D I q => h.run pins s σ H D I (i D σ H q)⟩
theorem opr_wk {X : Cx} {f : Value → Value → Sem Value} {r r' : R2} (h : OpR X f r) (i : ∀ x y H Q, r' x y H Q → r x y H Q) : OpR X f r' := fun pins s σ H x y v u Q I rx ry q => h pins s σ H x y v u Q I rx ry (i _ _ _ _ q)

section
variable {X : Cx} {E : XK}
/-! ### names and constants -/
theorem slot_dat {K : PySem.W.Frag} {c : Zc} {ow : Nat → List Addr} {σ : L2.St} {e : Env} {F H : Hp} {k : Dk} {i : Nat} {d : D} (o : Okay K c ow σ e F H k) (h : e[i]? = some (.dat d)) : ∃ v, σ[i]? = some (some v) ∧ Rp K F v d := by
  exact (o.sl.at_ i _ h).2
theorem d_var {x : Expr} {i : Nat} (h : PE X x (tVar i)) : PE X x (rdE X.K X.mg E (eVar i)) := pe_wk h fun σ H Q q => by
  obtain ⟨c, ow, e, F, k, ok, po⟩ := q
  unfold eVar at po
  split at po
  · rename_i d he
    obtain ⟨v, e1, r⟩ := slot_dat ok he
    exact ⟨v, e1, po v F H ok.gd.start r⟩
  · exact po.elim
theorem d_c {x : Expr} {v : V} {d : D} (h : PE X x (tC v)) (r : Rp X.K (fun _ => none) v d) : PE X x (rdE X.K X.mg E (eC d)) := pe_wk h fun σ H Q q => by
  obtain ⟨c, ow, e, F, k, ok, po⟩ := q
  exact po v F H ok.gd.start (r.mono fun _ _ z => by cases z)
theorem d_int {i : Int} {j pos} : PE X (.Constant (.int i) j pos) (rdE X.K X.mg E (eC (.int i))) := d_c pe_int (.int i)
theorem d_str {x : Str} {j pos} : PE X (.Constant (.str x) j pos) (rdE X.K X.mg E (eC (.str x))) := d_c pe_str (.str x)
theorem d_bl {b : Bool} {j pos} : PE X (.Constant (.bool b) j pos) (rdE X.K X.mg E (eC (.bool b))) := d_c pe_bl (.bl b)
theorem d_non {j pos} : PE X (.Constant .none j pos) (rdE X.K X.mg E (eC .none)) := d_c pe_non .non
/-! ### operators -/
theorem rdE_bind {a b : EM} {σ : L2.St} {H : Hp} {Q : VK} {R : V → V → Hp → VK → Prop} {f : D → D → Option D} (h : rdE X.K X.mg E (eOp f a b) σ H Q)
    (i : ∀ x y H', rO X.K f x y H' Q → R x y H' Q) : rdE X.K X.mg E a σ H fun x H1 => rdE X.K X.mg E b σ H1 fun y H2 => R x y H2 Q := by
  obtain ⟨c, ow, e, F, k, ok, po⟩ := h
  refine ⟨c, ow, e, F, k, ok, po.bind.mono fun dx k1 p1 v F1 H1 s1 r1 => ⟨c, ow, e, F1, k1, ok.into s1, p1.bind.mono fun dy k2 p2 w F2 H2 s2 r2 => i _ _ _ ?_⟩⟩
  obtain ⟨d, ed, g⟩ := p2.of
  exact ⟨c.da, F2, k2, dx, dy, d, s2.start, r1.mono s2.f0, r2, ed, fun u F3 H3 s3 => g u F3 H3 ((s1.into s2).into s3)⟩
theorem d_op {op : Operator} {f : D → D → Option D} {a b : Expr} {ma mb : EM} {pos : Pos} (ho : OpR X (binaryOp op) (rO X.K f)) (ha : PE X a (rdE X.K X.mg E ma)) (hb : PE X b (rdE X.K X.mg E mb)) : PE X (.BinOp a op b pos) (rdE X.K X.mg E (eOp f ma mb)) :=
  pe_wk (pe_op ho ha hb) fun _ _ _ q => rdE_bind q fun _ _ _ z => z
theorem d_cmp {op : CmpOp} {f : D → D → Option D} {a b : Expr} {ma mb : EM} {pos : Pos} (ho : OpR X (compareOp op) (rO X.K f)) (ha : PE X a (rdE X.K X.mg E ma)) (hb : PE X b (rdE X.K X.mg E mb)) (hm : behindInMarks op b = false) : PE X (.Compare a [op] [b] pos) (rdE X.K X.mg E (eOp f ma mb)) :=
  pe_wk (pe_cmpR ho ha hb hm) fun _ _ _ q => rdE_bind q fun _ _ _ z => z
theorem d_un {op : UnaryOp} {f : D → Option D} {a : Expr} {ma : EM} {pos : Pos} (ho : UnR X (unaryOp op) (rU1 X.K f)) (ha : PE X a (rdE X.K X.mg E ma)) : PE X (.UnaryOp op a pos) (rdE X.K X.mg E (eUn f ma)) :=
  pe_wk (pe_un ho ha) fun σ H Q q => by
    obtain ⟨c, ow, e, F, k, ok, po⟩ := q
    refine ⟨c, ow, e, F, k, ok, po.bind.mono fun dx k1 p1 v F1 H1 s1 r1 => ?_⟩
    obtain ⟨d, ed, g⟩ := p1.of
    exact ⟨c.da, F1, k1, dx, d, s1.start, r1, ed, fun u F3 H3 s3 => g u F3 H3 (s1.into s3)⟩
theorem uno_neg : UnR X (unaryOp .USub) (rU1 X.K negD) := fun pins s σ H x v Q I rx q => by
  obtain ⟨da, F, k, dx, d, ok, r, ed, g⟩ := q
  cases r with
  | int i =>
    cases ed
    exact un_neg pins s σ H _ v Q I rx ⟨i, rfl, g _ F H ok (.int _)⟩
  | _ => cases ed
/-- an operation of two ints -/
theorem op_ints {o : Value → Value → Sem Value} {f : D → D → Option D} {C : Int → Int → Prop} {g : Int → Int → V} {gd : Int → Int → D} (h : OpR X o (rI C g))
    (hf : ∀ dx dy d, f dx dy = some d → ∃ i j, dx = .int i ∧ dy = .int j ∧ C i j ∧ d = gd i j) (hr : ∀ i j F, Rp X.K F (g i j) (gd i j)) : OpR X o (rO X.K f) := opr_wk h fun x y H Q q => by
  obtain ⟨da, F, k, dx, dy, d, ok, rx, ry, ed, gg⟩ := q
  obtain ⟨i, j, rfl, rfl, hc, rfl⟩ := hf _ _ _ ed
  cases rx
  cases ry
  exact ⟨i, j, rfl, rfl, hc, gg _ F H ok (hr i j F)⟩
theorem op_ints0 {o : Value → Value → Sem Value} {f : D → D → Option D} {g : Int → Int → V} {gd : Int → Int → D} (h : OpR X o (rI0 g))
    (hf : ∀ dx dy d, f dx dy = some d → ∃ i j, dx = .int i ∧ dy = .int j ∧ d = gd i j) (hr : ∀ i j F, Rp X.K F (g i j) (gd i j)) : OpR X o (rO X.K f) := opr_wk h fun x y H Q q => by
  obtain ⟨da, F, k, dx, dy, d, ok, rx, ry, ed, gg⟩ := q
  obtain ⟨i, j, rfl, rfl, rfl⟩ := hf _ _ _ ed
  cases rx
  cases ry
  exact ⟨i, j, rfl, rfl, gg _ F H ok (hr i j F)⟩
theorem z_sub : OpR X (binaryOp .Sub) (rO X.K subD) := op_ints0 (gd := fun i j => .int (i - j)) op_sub (fun dx dy d h => by
  unfold subD at h; split at h <;> simp at h; exact ⟨_, _, rfl, rfl, h.symm⟩) fun _ _ _ => .int _
theorem z_fdiv : OpR X (binaryOp .FloorDiv) (rO X.K fdivD) := op_ints (gd := fun i j => .int (i / j)) op_fdiv (fun dx dy d h => by
  unfold fdivD at h; split at h
  · split at h
    · simp at h
      exact ⟨_, _, rfl, rfl, by assumption, h.symm⟩
    · simp at h
  · simp at h) fun _ _ _ => .int _
theorem z_mod : OpR X (binaryOp .Mod) (rO X.K modD) := op_ints (gd := fun i j => .int (i % j)) op_mod (fun dx dy d h => by
  unfold modD at h; split at h
  · split at h
    · simp at h
      exact ⟨_, _, rfl, rfl, by assumption, h.symm⟩
    · simp at h
  · simp at h) fun _ _ _ => .int _
theorem z_pow : OpR X (binaryOp .Pow) (rO X.K powD) := op_ints (gd := fun i j => .int (i ^ j.toNat)) op_pow (fun dx dy d h => by
  unfold powD at h; split at h
  · split at h
    · simp at h
      exact ⟨_, _, rfl, rfl, by assumption, h.symm⟩
    · simp at h
  · simp at h) fun _ _ _ => .int _
theorem z_lt : OpR X (compareOp .Lt) (rO X.K ltD) := op_ints0 (gd := fun i j => .bool (decide (i < j))) op_lt (fun dx dy d h => by
  unfold ltD at h; split at h <;> simp at h; exact ⟨_, _, rfl, rfl, h.symm⟩) fun _ _ _ => .bl _
theorem z_le : OpR X (compareOp .LtE) (rO X.K leD) := op_ints0 (gd := fun i j => .bool (decide (i ≤ j))) op_le (fun dx dy d h => by
  unfold leD at h; split at h <;> simp at h; exact ⟨_, _, rfl, rfl, h.symm⟩) fun _ _ _ => .bl _
theorem z_gt : OpR X (compareOp .Gt) (rO X.K gtD) := op_ints0 (gd := fun i j => .bool (decide (j < i))) op_gt (fun dx dy d h => by
  unfold gtD at h; split at h <;> simp at h; exact ⟨_, _, rfl, rfl, h.symm⟩) fun _ _ _ => .bl _
theorem z_ge : OpR X (compareOp .GtE) (rO X.K geD) := op_ints0 (gd := fun i j => .bool (decide (j ≤ i))) op_ge (fun dx dy d h => by
  unfold geD at h; split at h <;> simp at h; exact ⟨_, _, rfl, rfl, h.symm⟩) fun _ _ _ => .bl _
end
end Z
/-! Z, ==, in, +, len, subscripts, displays, tests. -/
namespace Z
open PySem PySem.Spec PyProof.Rows L2
section
variable {X : Cx} {E : XK}
theorem dok_plain {d : D} (h : dOk d = true) : d.plain = true := (Bool.and_eq_true_iff.mp h).1
theorem dok_depth {d : D} (h : dOk d = true) : d.depth ≤ 40 := of_decide_eq_true (Bool.and_eq_true_iff.mp h).2
theorem Rp.reads {pins : List (Addr × Obj)} {σ : L2.St} {F H : Hp} {s : Shared} (I : Inv X pins σ H s) (m : Same F H) {v : V} {d : D} {u : Value} (r : Rp X.K F v d) (p : d.plain = true) (rv : RelV v u) : ∃ as, Reads s.heap u d as :=
  Dp.reads I d v u (dp_mono m (r.dp p)) rv
theorem z_eq (hu : X.A.units + 64 < cLine) : OpR X (compareOp .Eq) (rO X.K eqD) := by
  intro pins s σ H x y v u Q I rx ry h
  obtain ⟨da, F, k, dx, dy, d, ok, r1, r2, ed, g⟩ := h
  unfold eqD at ed
  split at ed
  · rename_i hc
    rw [Bool.and_eq_true] at hc
    obtain ⟨as, q1⟩ := r1.reads I ok.le (dok_plain hc.1) rx
    obtain ⟨bs, q2⟩ := r2.reads I ok.le (dok_plain hc.2) ry
    cases ed
    have := dok_depth hc.1
    exact SeqAt.eq_plain q1 q2 (dok_plain hc.1) (dok_plain hc.2) (by omega) ⟨.bl _, H, I, rfl, g _ F H ok (.bl _)⟩
  · cases ed
theorem z_ne (hu : X.A.units + 64 < cLine) : OpR X (compareOp .NotEq) (rO X.K neD) := by
  intro pins s σ H x y v u Q I rx ry h
  obtain ⟨da, F, k, dx, dy, d, ok, r1, r2, ed, g⟩ := h
  unfold neD at ed
  split at ed
  · rename_i hc
    rw [Bool.and_eq_true] at hc
    obtain ⟨as, q1⟩ := r1.reads I ok.le (dok_plain hc.1) rx
    obtain ⟨bs, q2⟩ := r2.reads I ok.le (dok_plain hc.2) ry
    cases ed
    have := dok_depth hc.1
    exact SeqAt.ne_plain q1 q2 (dok_plain hc.1) (dok_plain hc.2) (by omega) ⟨.bl _, H, I, rfl, g _ F H ok (.bl _)⟩
  · cases ed
theorem doks_plain {ds : List D} (h : dOks ds = true) : PyData.plainAll ds = true := (Bool.and_eq_true_iff.mp h).1
theorem doks_depth {ds : List D} (h : dOks ds = true) : PyData.depthAll ds ≤ 40 := of_decide_eq_true (Bool.and_eq_true_iff.mp h).2
theorem z_in (hu : X.A.units + 64 < cLine) : OpR X (compareOp .In) (rO X.K inD) := by
  intro pins s σ H x y v u Q I rx ry h
  obtain ⟨da, F, k, dx, dy, d, ok, r1, r2, ed, g⟩ := h
  unfold inD memD at ed
  split at ed
  · split at ed
    · rename_i ds hc
      rw [Bool.and_eq_true] at hc
      have p2 : (PyData.list ds).plain = true := by rw [PyData.plain]; exact doks_plain hc.2
      obtain ⟨as, q1⟩ := r1.reads I ok.le (dok_plain hc.1) rx
      obtain ⟨bs, q2⟩ := r2.reads I ok.le p2 ry
      cases ed
      have := dok_depth hc.1
      exact SeqAt.in_list_data q2 q1 (doks_plain hc.2) (dok_plain hc.1) (by omega) ⟨.bl _, H, I, rfl, g _ F H ok (.bl _)⟩
    · cases ed
  · split at ed
    · rename_i ds hc
      rw [Bool.and_eq_true] at hc
      have p2 : (PyData.tuple ds).plain = true := by rw [PyData.plain]; exact doks_plain hc.2
      obtain ⟨as, q1⟩ := r1.reads I ok.le (dok_plain hc.1) rx
      obtain ⟨bs, q2⟩ := r2.reads I ok.le p2 ry
      cases ed
      have := dok_depth hc.1
      exact SeqAt.in_tuple_data q2 q1 (doks_plain hc.2) (dok_plain hc.1) (by omega) ⟨.bl _, H, I, rfl, g _ F H ok (.bl _)⟩
    · cases ed
  · split at ed
    · cases ed
      cases r1
      cases r2
      exact op_in_str pins s σ H _ _ v u Q I rx ry ⟨_, _, rfl, rfl, g _ F H ok (.bl _)⟩
    · cases ed
  · cases ed
theorem z_ni (hu : X.A.units + 64 < cLine) : OpR X (compareOp .NotIn) (rO X.K niD) := by
  intro pins s σ H x y v u Q I rx ry h
  obtain ⟨da, F, k, dx, dy, d, ok, r1, r2, ed, g⟩ := h
  unfold niD memD at ed
  split at ed
  · split at ed
    · rename_i ds hc
      rw [Bool.and_eq_true] at hc
      have p2 : (PyData.list ds).plain = true := by rw [PyData.plain]; exact doks_plain hc.2
      obtain ⟨as, q1⟩ := r1.reads I ok.le (dok_plain hc.1) rx
      obtain ⟨bs, q2⟩ := r2.reads I ok.le p2 ry
      cases ed
      have := dok_depth hc.1
      exact SeqAt.notIn_list_data q2 q1 (doks_plain hc.2) (dok_plain hc.1) (by omega) ⟨.bl _, H, I, rfl, g _ F H ok (.bl _)⟩
    · cases ed
  · split at ed
    · rename_i ds hc
      rw [Bool.and_eq_true] at hc
      have p2 : (PyData.tuple ds).plain = true := by rw [PyData.plain]; exact doks_plain hc.2
      obtain ⟨as, q1⟩ := r1.reads I ok.le (dok_plain hc.1) rx
      obtain ⟨bs, q2⟩ := r2.reads I ok.le p2 ry
      cases ed
      have := dok_depth hc.1
      exact SeqAt.notIn_tuple_data q2 q1 (doks_plain hc.2) (dok_plain hc.1) (by omega) ⟨.bl _, H, I, rfl, g _ F H ok (.bl _)⟩
    · cases ed
  · split at ed
    · cases ed
      cases r1
      cases r2
      exact op_notIn_str pins s σ H _ _ v u Q I rx ry ⟨_, _, rfl, rfl, g _ F H ok (.bl _)⟩
    · cases ed
  · cases ed
theorem Rp.isN {K : PySem.W.Frag} {F : Hp} {v : V} {d : D} (r : Rp K F v d) : decide (v = .non) = isN d := by
  cases r <;> simp [Z.isN]
def isD (x y : D) : Option D := if isN y then some (isND x) else none
def isntD (x y : D) : Option D := if isN y then some (notND x) else none
theorem z_is : OpR X (compareOp .Is) (rO X.K isD) := opr_wk op_isN fun x y H Q q => by
  obtain ⟨da, F, k, dx, dy, d, ok, rx, ry, ed, gg⟩ := q
  unfold isD at ed
  have hy : isN dy = true := by
    cases hh : isN dy with
    | true => rfl
    | false => rw [hh] at ed; cases ed
  rw [hy] at ed
  cases ed
  rw [← ry.isN] at hy
  refine ⟨of_decide_eq_true hy, ?_⟩
  rw [rx.isN]
  exact gg _ F H ok (.bl _)
theorem z_isnt : OpR X (compareOp .IsNot) (rO X.K isntD) := opr_wk op_notN fun x y H Q q => by
  obtain ⟨da, F, k, dx, dy, d, ok, rx, ry, ed, gg⟩ := q
  unfold isntD at ed
  have hy : isN dy = true := by
    cases hh : isN dy with
    | true => rfl
    | false => rw [hh] at ed; cases ed
  rw [hy] at ed
  cases ed
  rw [← ry.isN] at hy
  refine ⟨of_decide_eq_true hy, ?_⟩
  rw [rx.isN]
  exact gg _ F H ok (.bl _)
/-! ### + -/
theorem same_upd2 {F : Hp} {p : Addr} {o : HO} (h : F p = none) : Same F (upd F p o) := same_new h
/-- a new tuple -/
theorem new_tup {da : Option DA} {F0 H0 F H : Hp} {k : Dk} {Q : VK} {xs : List V} {ds : List D} (ok : Gd X.K ⟨F0, H0, da⟩ F H k) (r : Rps X.K F xs ds) (g : GoodE X.K da F0 H0 Q (.tuple ds) k) :
    ∀ p, H p = none → Q (.ref p) (upd H p (.tup xs)) := fun p hp => by
  have hF := same_free ok.le hp
  exact g _ _ _ (ok.new _ hp) (.tup upd_same (r.mono (same_new hF)))
theorem new_lstE {da : Option DA} {F0 H0 F H : Hp} {k : Dk} {Q : VK} {xs : List V} {ds : List D} (ok : Gd X.K ⟨F0, H0, da⟩ F H k) (r : Rps X.K F xs ds) (g : GoodE X.K da F0 H0 Q (.list ds) k) :
    ∀ p, H p = none → Q (.ref p) (upd H p (.lst xs)) := fun p hp => by
  have hF := same_free ok.le hp
  exact g _ _ _ (ok.new _ hp) (.lst upd_same (r.mono (same_new hF)))
theorem z_add : OpR X (binaryOp .Add) (rO X.K addD) := by
  intro pins s σ H x y v u Q I rx ry h
  obtain ⟨da, F, k, dx, dy, d, ok, r1, r2, ed, g⟩ := h
  unfold addD at ed
  split at ed
  · cases ed
    cases r1
    cases r2
    exact op_add pins s σ H _ _ v u Q I rx ry ⟨_, _, rfl, rfl, g _ F H ok (.int _)⟩
  · split at ed
    · rename_i hz
      cases ed
      cases r1
      cases r2
      exact op_add_str pins s σ H _ _ v u Q I rx ry ⟨_, _, rfl, rfl, hz, g _ F H ok (.str _)⟩
    · cases ed
  · split at ed
    · rename_i xs ys hz
      cases ed
      cases r1 with
      | tup h1 s1 =>
        cases r2 with
        | tup h2 s2 =>
          rename_i a as b bs
          refine op_catA pins s σ H _ _ v u Q I rx ry ⟨a, b, as, bs, rfl, rfl, (.inl (.inl (ok.le _ _ h1))), (.inl (.inl (ok.le _ _ h2))), by rw [s1.length, s2.length]; exact hz, fun e0 => ?_, fun _ e1 => ?_, fun _ _ => ?_⟩
          · subst e0
            cases s1
            exact g _ F H ok (.tup h2 s2)
          · subst e1
            cases s2
            exact g _ F H ok (by rw [List.append_nil]; exact .tup h1 s1)
          · exact new_tup ok (s1.append s2) g
    · cases ed
  · split at ed
    · rename_i xs ys hz
      cases ed
      cases r1 with
      | lst h1 s1 =>
        cases r2 with
        | lst h2 s2 =>
          rename_i a as b bs
          exact op_cat pins s σ H _ _ v u Q I rx ry ⟨a, b, as, bs, rfl, rfl, ok.le _ _ h1, ok.le _ _ h2, by rw [s1.length, s2.length]; exact hz, new_lstE ok (s1.append s2) g⟩
    · cases ed
  · cases ed
/-! ### a subscript -/
theorem d_ix {a b : Expr} {ma mb : EM} {pos : Pos} (ha : PE X a (rdE X.K X.mg E ma)) (hb : PE X b (rdE X.K X.mg E mb)) (hs : PlainIx b) : PE X (.Subscript a b pos) (rdE X.K X.mg E (eOp ixD ma mb)) :=
  pe_wk (pe_ix ix_seq ha hb hs) fun _ _ _ q => rdE_bind q fun x y H z => by
    obtain ⟨da, F, k, dx, dy, d, ok, r1, r2, ed, g⟩ := z
    unfold ixD at ed
    split at ed
    · cases r1 with
      | lst h1 s1 =>
        cases r2
        obtain ⟨v, ev, rv⟩ := s1.atI ed
        exact .inl ⟨_, _, _, v, rfl, rfl, .inl (.inl (ok.le _ _ h1)), ev, g _ F H ok rv⟩
    · cases r1 with
      | tup h1 s1 =>
        cases r2
        obtain ⟨v, ev, rv⟩ := s1.atI ed
        exact .inr (.inl ⟨_, _, _, v, rfl, rfl, (.inl (.inl (ok.le _ _ h1))), ev, g _ F H ok rv⟩)
    · split at ed
      · rename_i s j hz
        cases r1
        cases r2
        cases q : L2.atI s.cps.toList j with
        | none => rw [q] at ed; cases ed
        | some ch =>
          rw [q] at ed
          cases ed
          exact .inr (.inr ⟨_, _, ch, rfl, rfl, hz, q, g _ F H ok (.str _)⟩)
      · cases ed
    · cases ed
/-! ### rows of values; displays -/
theorem n_nil : PA X [] (rdN X.K X.mg E nNil) := pa_wk pa_nil fun σ H Q q => by
  obtain ⟨c, ow, e, F, k, ok, po⟩ := q
  exact po _ F H ok.gd.start .nil
theorem n_cons {a : Expr} {es : List Expr} {ma : EM} {mr : NM} (ha : PE X a (rdE X.K X.mg E ma)) (hr : PA X es (rdN X.K X.mg E mr)) (hs : starEach (a :: es) X.env = (false, eval a X.env) :: starEach es X.env := by rfl) : PA X (a :: es) (rdN X.K X.mg E (nCons ma mr)) :=
  pa_wk (pa_cons ha hr hs) fun σ H Q q => by
    obtain ⟨c, ow, e, F, k, ok, po⟩ := q
    exact ⟨c, ow, e, F, k, ok, po.bind.mono fun dx k1 p1 v F1 H1 s1 r1 => ⟨c, ow, e, F1, k1, ok.into s1, p1.bind.mono fun ds k2 p2 vs F2 H2 s2 r2 => p2 _ F2 H2 (s1.into s2) (.cons (r1.mono s2.f0) r2)⟩⟩
theorem d_tup {es : List Expr} {mr : NM} {pos : Pos} {x1 : Nat} (hr : PA X es (rdN X.K X.mg E mr)) : PE X (.Tuple es x1 pos) (rdE X.K X.mg E (eTup mr)) := pe_wk (pe_tup hr) fun σ H Q q => by
  obtain ⟨c, ow, e, F, k, ok, po⟩ := q
  refine ⟨c, ow, e, F, k, ok, po.bind.mono fun ds k1 p1 vs F1 H1 s1 r1 => ?_⟩
  split at p1
  · rename_i hz
    exact ⟨by rw [r1.length]; exact hz, new_tup s1 r1 p1⟩
  · exact p1.elim
/-- a new list at p, among what stays from now on -/
theorem goodL_E {da : Option DA} {F H : Hp} {k0 : Dk} {Q : VK} {ds : List D} {k : Dk} (g0 : Gd X.K ⟨F, H, da⟩ F H k0) (g : GoodE X.K da F H Q (.list ds) k) : GoodL X.K da F H Q ds k :=
  fun p vs F1 H1 s1 hp hF h r => g _ (upd F1 p (.lst vs)) H1 (s1.frz h ⟨hF, hp, (fresh0 g0 hp).2.2⟩) (.lst upd_same (r.mono (same_new hF)))
theorem d_new {a : Expr} {m : NM} (h : PE X a (rdL X.K X.mg E m)) : PE X a (rdE X.K X.mg E (eNew m)) := pe_wk h fun σ H Q q => by
  obtain ⟨c, ow, e, F, k, ok, po⟩ := q
  exact ⟨c, ow, e, F, k, ok, po.bind.mono fun ds k1 p1 => goodL_E ok.gd.start p1⟩
theorem Gd.wasNone {K : PySem.W.Frag} {F H F' H' : Hp} {da : Option DA} {k0 k : Dk} (g0 : Gd K ⟨F, H, da⟩ F H k0) (s : Gd K ⟨F, H, da⟩ F' H' k) {p : Addr} (h : H' p = none) : H p = none := by
  cases q : H p with
  | none => rfl
  | some o => rw [s.pres p o q (s.dk.not_new h)] at h; cases h
/-- what makes a list at any free place -/
theorem new_lst {da : Option DA} {F H F1 H1 : Hp} {k0 k1 : Dk} {Q : VK} {xs : List V} {ds : List D} (g0 : Gd X.K ⟨F, H, da⟩ F H k0) (s1 : Gd X.K ⟨F, H, da⟩ F1 H1 k1) (r : Rps X.K F1 xs ds)
    (g : GoodL X.K da F H Q ds k1) : ∀ p, H1 p = none → Q (.ref p) (upd H1 p (.lst xs)) := fun p hp =>
  g p xs F1 _ (s1.newH _ hp) (g0.wasNone s1 hp) (same_free s1.le hp) upd_same r
theorem l_lst {es : List Expr} {mr : NM} {pos : Pos} (hr : PA X es (rdN X.K X.mg E mr)) : PE X (.List es pos) (rdL X.K X.mg E (nLst mr)) := pe_wk (pe_lst hr) fun σ H Q q => by
  obtain ⟨c, ow, e, F, k, ok, po⟩ := q
  refine ⟨c, ow, e, F, k, ok, po.bind.mono fun ds k1 p1 vs F1 H1 s1 r1 => ?_⟩
  split at p1
  · rename_i hz
    exact ⟨by rw [r1.length]; exact hz, new_lst ok.gd.start s1 r1 p1⟩
  · exact p1.elim
/-! ### tests -/
theorem t_val {a : Expr} {ma : EM} (ha : PE X a (rdE X.K X.mg E ma)) (he : ∀ whole, isTrue a X.env whole = (do let v ← whole; standAt a.pos; holding [v] (truthy v)) := by intro _; rfl) : PT X a (rdT X.K X.mg E (tE ma)) := pt_wk (pt_val ha he) fun σ H Q q => by
  obtain ⟨c, ow, e, F, k, ok, po⟩ := q
  refine ⟨c, ow, e, F, k, ok, po.bind.mono fun d k1 p1 v F1 H1 s1 r1 => ?_⟩
  obtain ⟨b, eb, g⟩ := p1.of
  cases r1 with
  | bl b' => cases eb; exact ⟨_, rfl, g F1 H1 s1⟩
  | _ => cases eb
theorem t_not {a : Expr} {ma : TM} {pos : Pos} (ha : PT X a (rdT X.K X.mg E ma)) : PT X (.UnaryOp .Not a pos) (rdT X.K X.mg E (tNot ma)) := pt_wk (pt_not ha) fun σ H Q q => by
  obtain ⟨c, ow, e, F, k, ok, po⟩ := q
  exact ⟨c, ow, e, F, k, ok, po.bind.mono fun d k1 p1 F1 H1 s1 => p1 F1 H1 s1⟩
theorem w_and {a b : Expr} {rest : List Expr} {ma mb : TM} {pos : Pos} (ha : PT X a (rdT X.K X.mg E ma)) (hb : PW X (.BoolOp .And (b :: rest) pos) (rdT X.K X.mg E mb)) : PW X (.BoolOp .And (a :: b :: rest) pos) (rdT X.K X.mg E (tAnd ma mb)) := pw_wk (pw_and ha hb) fun σ H Q q => by
  obtain ⟨c, ow, e, F, k, ok, po⟩ := q
  refine ⟨c, ow, e, F, k, ok, po.bind.mono fun d k1 p1 F1 H1 s1 => ?_⟩
  cases d with
  | true => exact ⟨c, ow, e, F1, k1, ok.into s1, PostR.mono p1 fun b k2 p2 F2 H2 s2 => p2 F2 H2 (s1.into s2)⟩
  | false => exact p1 F1 H1 s1
theorem w_or {a b : Expr} {rest : List Expr} {ma mb : TM} {pos : Pos} (ha : PT X a (rdT X.K X.mg E ma)) (hb : PW X (.BoolOp .Or (b :: rest) pos) (rdT X.K X.mg E mb)) : PW X (.BoolOp .Or (a :: b :: rest) pos) (rdT X.K X.mg E (tOr ma mb)) := pw_wk (pw_or ha hb) fun σ H Q q => by
  obtain ⟨c, ow, e, F, k, ok, po⟩ := q
  refine ⟨c, ow, e, F, k, ok, po.bind.mono fun d k1 p1 F1 H1 s1 => ?_⟩
  cases d with
  | true => exact p1 F1 H1 s1
  | false => exact ⟨c, ow, e, F1, k1, ok.into s1, PostR.mono p1 fun b k2 p2 F2 H2 s2 => p2 F2 H2 (s1.into s2)⟩
theorem w_and1 {a : Expr} {ma : TM} {pos : Pos} (ha : PT X a (rdT X.K X.mg E ma)) : PW X (.BoolOp .And [a] pos) (rdT X.K X.mg E ma) := pw_and1 ha
theorem w_or1 {a : Expr} {ma : TM} {pos : Pos} (ha : PT X a (rdT X.K X.mg E ma)) : PW X (.BoolOp .Or [a] pos) (rdT X.K X.mg E ma) := pw_or1 ha
/-! ### and, or, not as values; a if t else b -/
theorem d_one {op : BoolOp} {a : Expr} {ma : EM} {pos : Pos} (ha : PE X a (rdE X.K X.mg E ma)) : PE X (.BoolOp op [a] pos) (rdE X.K X.mg E ma) := pe_one ha
theorem d_and {a b : Expr} {rest : List Expr} {ma mb : EM} {pos : Pos} (ha : PE X a (rdE X.K X.mg E ma)) (hb : PE X (.BoolOp .And (b :: rest) pos) (rdE X.K X.mg E mb)) : PE X (.BoolOp .And (a :: b :: rest) pos) (rdE X.K X.mg E (eAnd ma mb)) := pe_wk (pe_and ha hb) fun σ H Q q => by
  obtain ⟨c, ow, e, F, k, ok, po⟩ := q
  refine ⟨c, ow, e, F, k, ok, po.bind.mono fun d k1 p1 v F1 H1 s1 r1 => ?_⟩
  cases r1 with
  | bl b' =>
    refine ⟨b', rfl, ?_⟩
    cases b' with
    | true => exact ⟨c, ow, e, F1, k1, ok.into s1, PostR.mono p1 fun b k2 p2 u F2 H2 s2 => p2 u F2 H2 (s1.into s2)⟩
    | false => exact p1 _ F1 H1 s1 (.bl _)
  | _ => exact p1.elim
theorem d_or {a b : Expr} {rest : List Expr} {ma mb : EM} {pos : Pos} (ha : PE X a (rdE X.K X.mg E ma)) (hb : PE X (.BoolOp .Or (b :: rest) pos) (rdE X.K X.mg E mb)) : PE X (.BoolOp .Or (a :: b :: rest) pos) (rdE X.K X.mg E (eOr ma mb)) := pe_wk (pe_or ha hb) fun σ H Q q => by
  obtain ⟨c, ow, e, F, k, ok, po⟩ := q
  refine ⟨c, ow, e, F, k, ok, po.bind.mono fun d k1 p1 v F1 H1 s1 r1 => ?_⟩
  cases r1 with
  | bl b' =>
    refine ⟨b', rfl, ?_⟩
    cases b' with
    | false => exact ⟨c, ow, e, F1, k1, ok.into s1, PostR.mono p1 fun b k2 p2 u F2 H2 s2 => p2 u F2 H2 (s1.into s2)⟩
    | true => exact p1 _ F1 H1 s1 (.bl _)
  | _ => exact p1.elim
theorem d_not {a : Expr} {ma : EM} {pos : Pos} (ha : PE X a (rdE X.K X.mg E ma)) : PE X (.UnaryOp .Not a pos) (rdE X.K X.mg E (eNot ma)) := pe_wk (pe_not ha) fun σ H Q q => by
  obtain ⟨c, ow, e, F, k, ok, po⟩ := q
  refine ⟨c, ow, e, F, k, ok, po.bind.mono fun d k1 p1 v F1 H1 s1 r1 => ?_⟩
  cases r1 with
  | bl b' => exact ⟨b', rfl, p1 _ F1 H1 s1 (.bl _)⟩
  | _ => exact p1.elim
theorem d_if {t a b : Expr} {mt : TM} {ma mb : EM} {pos : Pos} (ht : PT X t (rdT X.K X.mg E mt)) (ha : PE X a (rdE X.K X.mg E ma)) (hb : PE X b (rdE X.K X.mg E mb)) : PE X (.IfExp t a b pos) (rdE X.K X.mg E (eIf mt ma mb)) := pe_wk (pe_ifExp ht ha hb) fun σ H Q q => by
  obtain ⟨c, ow, e, F, k, ok, po⟩ := q
  refine ⟨c, ow, e, F, k, ok, po.bind.mono fun d k1 p1 F1 H1 s1 => ?_⟩
  cases d with
  | true => exact ⟨c, ow, e, F1, k1, ok.into s1, PostR.mono p1 fun b k2 p2 u F2 H2 s2 => p2 u F2 H2 (s1.into s2)⟩
  | false => exact ⟨c, ow, e, F1, k1, ok.into s1, PostR.mono p1 fun b k2 p2 u F2 H2 s2 => p2 u F2 H2 (s1.into s2)⟩
end
end Z
/-! Z, arguments, calls, defs, statements. -/
namespace Z
open PySem PySem.Spec PyProof.Rows L2
/-! ### arguments -/
inductive Args (K : PySem.W.Frag) (c : Zc) (F : Hp) : List V → List Ar → Prop
  | nil : Args K c F [] []
  | dat {v : V} {d : D} {vs : List V} {as : List Ar} : Rp K F v d → Args K c F vs as → Args K c F (v :: vs) (.dat d :: as)
  | dk {q : DA} {vs : List V} {as : List Ar} : c.da = some q → Args K c F vs as → Args K c F (.ref q.a :: vs) (.dk :: as)
theorem Args.mono {K : PySem.W.Frag} {c : Zc} {F F' : Hp} (m : Same F F') : ∀ {vs : List V} {as : List Ar}, Args K c F vs as → Args K c F' vs as
  | _, _, .nil => .nil
  | _, _, .dat r t => .dat (r.mono m) (Args.mono m t)
  | _, _, .dk h t => .dk h (Args.mono m t)
theorem Args.length {K : PySem.W.Frag} {c : Zc} {F : Hp} : ∀ {vs : List V} {as : List Ar}, Args K c F vs as → vs.length = as.length
  | _, _, .nil => rfl
  | _, _, .dat _ t => by rw [List.length_cons, List.length_cons, Args.length t]
  | _, _, .dk _ t => by rw [List.length_cons, List.length_cons, Args.length t]
abbrev GoodA (K : PySem.W.Frag) (c : Zc) (F H : Hp) (Q : List V → Hp → Prop) : List Ar → Dk → Prop := fun as k => ∀ vs F' H', Gd K ⟨F, H, c.da⟩ F' H' k → Args K c F' vs as → Q vs H'
def rdA (K : PySem.W.Frag) (mg : Str → Option Value) (E : XK) (m : AM) : TA := fun σ H Q => ∃ c ow e F k, Okay K c ow σ e F H k ∧ PostR K mg E c (m e k) (GoodA K c F H Q)
section
variable {X : Cx} {E : XK}
theorem a_nil : PA X [] (rdA X.K X.mg E aNil) := pa_wk pa_nil fun σ H Q q => by
  obtain ⟨c, ow, e, F, k, ok, po⟩ := q
  exact po _ F H ok.gd.start .nil
theorem a_cons {a : Expr} {es : List Expr} {ma : EM} {mr : AM} (ha : PE X a (rdE X.K X.mg E ma)) (hr : PA X es (rdA X.K X.mg E mr)) (hs : starEach (a :: es) X.env = (false, eval a X.env) :: starEach es X.env := by rfl) : PA X (a :: es) (rdA X.K X.mg E (aCons ma mr)) :=
  pa_wk (pa_cons ha hr hs) fun σ H Q q => by
    obtain ⟨c, ow, e, F, k, ok, po⟩ := q
    exact ⟨c, ow, e, F, k, ok, po.bind.mono fun dx k1 p1 v F1 H1 s1 r1 => ⟨c, ow, e, F1, k1, ok.into s1, p1.bind.mono fun ds k2 p2 vs F2 H2 s2 r2 => p2 _ F2 H2 (s1.into s2) (.dat (r1.mono s2.f0) r2)⟩⟩
theorem a_dk {a : Expr} {es : List Expr} {i : Nat} {mr : AM} (ha : PE X a (tVar i)) (hr : PA X es (rdA X.K X.mg E mr)) (hs : starEach (a :: es) X.env = (false, eval a X.env) :: starEach es X.env := by rfl) : PA X (a :: es) (rdA X.K X.mg E (aDk i mr)) :=
  pa_wk (pa_cons ha hr hs) fun σ H Q q => by
    obtain ⟨c, ow, e, F, k, ok, po⟩ := q
    unfold aDk at po
    split at po
    · rename_i he
      obtain ⟨_, qa, hq, hx⟩ := ok.sl.at_ i _ he
      exact ⟨_, hx, ⟨c, ow, e, F, k, ok, po.bind.mono fun ds k2 p2 vs F2 H2 s2 r2 => p2 _ F2 H2 s2 (.dk hq r2)⟩⟩
    · exact po.elim
/-! ### calls -/
/-- what a def promises: it hands back what f tells -/
def spZ (K : PySem.W.Frag) (mg : Str → Option Value) (n : Nat) (f : Fn) : Sp := fun vs H Q _ => vs.length = n ∧ ∃ da as F k, Gd K ⟨F, H, da⟩ F H k ∧ Args K ⟨F, H, da⟩ F vs as ∧
  PostR K mg E0 ⟨F, H, da⟩ (f as k) (GoodE K da F H Q)
/-- the same of a def that may raise -/
def spX (K : PySem.W.Frag) (mg : Str → Option Value) (n : Nat) (f : Fn) : Sp := fun vs H Q E => vs.length = n ∧ ∃ da as F k, Gd K ⟨F, H, da⟩ F H k ∧ Args K ⟨F, H, da⟩ F vs as ∧
  PostR K mg E ⟨F, H, da⟩ (f as k) (GoodE K da F H Q)
theorem Args.at_ {K : PySem.W.Frag} {c c' : Zc} {F : Hp} (h : c.da = c'.da) : ∀ {vs : List V} {as : List Ar}, Args K c F vs as → Args K c' F vs as
  | _, _, .nil => .nil
  | _, _, .dat r t => .dat r (Args.at_ h t)
  | _, _, .dk q t => .dk (h ▸ q) (Args.at_ h t)
section
variable {CX : CXT} {j : Nat} {f : Addr} {fd : FuncData} {ps : List Str} {n : Nat} {g : Fn} {x : Str} {p pos : Pos} {a : Expr} {es : List Expr} {mr : AM}
theorem d_call (G : FnOk X.prog X.w X.K X.mg X.base CX0 j f fd ps (spZ X.K X.mg n g)) (hr : Room j X.A) (hg : Gl X x) (hm : X.mg x = some (.ref f)) (hk : PySem.W.keepIn X.K (.ref f) = true) (hb : Binds X.K fd ps [])
    (hn : ∀ as k d k', g as k = .ok d k' → as.length = n) (ha : PA X (a :: es) (rdA X.K X.mg E mr)) (hdb : (x == ("__debug__" : Str)) = false := by decide) (he : starEach (a :: es) X.env = (false, eval a X.env) :: starEach es X.env := by rfl) (hpl : (backTo pos (starEach es X.env)).any (·.1) = false := by rfl) :
    PE X (.Call (.Name x p) (a :: es) [] pos) (rdE X.K X.mg E (eCall g mr)) := pe_wk (pe_call G hr hg hm hk hb .nil pass0 ha hdb he hpl) fun σ H Q q => by
  obtain ⟨c, ow, e, F, k, ok, po⟩ := q
  refine ⟨c, ow, e, F, k, ok, po.bind.mono fun as k1 p1 vs F1 H1 s1 r1 => ?_⟩
  show spZ X.K X.mg n g (vs ++ []) H1 Q E0
  rw [List.append_nil]
  have hl : ∀ d k', g as k1 = .ok d k' → vs.length = n := fun d k' z => by rw [r1.length]; exact hn _ _ _ _ z
  cases hh : g as k1 with
  | bad => rw [hh] at p1; exact p1.elim
  | exc _ _ _ => rw [hh] at p1; exact p1.elim
  | ok d k2 =>
    rw [hh] at p1
    refine ⟨hl d k2 hh, c.da, as, F1, k1, s1.start, Args.at_ (c := c) (c' := ⟨F1, H1, c.da⟩) rfl r1, ?_⟩
    rw [hh]
    exact fun v F' H' s r => p1 v F' H' (s1.into s) r
end
/-! ### targets -/
/-- the slots but for is stand -/
def Only (is : List Nat) (σ σ' : L2.St) : Prop := σ'.length = σ.length ∧ ∀ j, j ∉ is → σ'[j]? = σ[j]?
def rdG (K : PySem.W.Frag) (is : List Nat) (g : Tg) : TG := fun v σ H Q => ∃ c ow e F k d e', Okay K c ow σ e F H k ∧ Rp K F v d ∧ g d e = some e' ∧ ∀ ow' σ', Okay K c ow' σ' e' F H k → Only is σ σ' → Q σ' H
def rdGs (K : PySem.W.Frag) (is : List Nat) (gs : List Tg) : TGs := fun vs σ H Q => ∃ c ow e F k ds e', Okay K c ow σ e F H k ∧ Rps K F vs ds ∧ gAll gs ds e = some e' ∧ ∀ ow' σ', Okay K c ow' σ' e' F H k → Only is σ σ' → Q σ' H
theorem pg_wk {t : Expr} {g g' : TG} (h : PG X t g) (i : ∀ v σ H Q, g' v σ H Q → g v σ H Q) : PG X t g' := ⟨fun v u pins s σ H Q I r q => h.run v u pins s σ H Q I r (i _ _ _ _ q)⟩

/-- a slot takes a datum -/
def clr (ow : Nat → List Addr) (i : Nat) (p : List Addr) : Nat → List Addr := fun j => if j = i then p else ow j
theorem Slots.put {K : PySem.W.Frag} {c : Zc} {F H : Hp} {σ : L2.St} {e : Env} {ow : Nat → List Addr} (s : Slots K c F H σ e ow) {i : Nat} (hi : i < e.length) {v : Option V} {sv : SV} {p : List Addr}
    (h : SlotOk K c F H p (some v) sv) (hp : ∀ q ∈ p, ∀ j, q ∉ ow j) : Slots K c F H (σ.set i v) (e.set i sv) (clr ow i p) := by
  refine ⟨by rw [List.length_set, List.length_set]; exact s.len, fun j t q => ?_, fun a b r h1 h2 => ?_, fun j hj => ?_⟩
  · unfold clr
    by_cases z : j = i
    · subst z
      rw [if_pos rfl, List.getElem?_set_self (by rw [s.len]; exact hi)]
      rw [List.getElem?_set_self hi] at q
      cases q
      exact h
    · rw [if_neg z, List.getElem?_set_ne (fun w => z w.symm)]
      rw [List.getElem?_set_ne (fun w => z w.symm)] at q
      exact s.at_ j t q
  · unfold clr at h1 h2
    by_cases z1 : a = i
    · by_cases z2 : b = i
      · rw [z1, z2]
      · rw [if_pos z1] at h1; rw [if_neg z2] at h2
        exact (hp _ h1 _ h2).elim
    · by_cases z2 : b = i
      · rw [if_neg z1] at h1; rw [if_pos z2] at h2
        exact (hp _ h2 _ h1).elim
      · rw [if_neg z1] at h1; rw [if_neg z2] at h2
        exact s.inj _ _ _ h1 h2
  · unfold clr
    rw [List.length_set] at hj
    rw [if_neg (by omega)]
    exact s.out j hj
theorem Okay.put {K : PySem.W.Frag} {c : Zc} {F H : Hp} {k : Dk} {σ : L2.St} {e : Env} {ow : Nat → List Addr} (s : Okay K c ow σ e F H k) {i : Nat} (hi : i < e.length) {v : V} {d : D} (r : Rp K F v d) : Okay K c (clr ow i []) (σ.set i (some v)) (e.set i (.dat d)) F H k :=
  ⟨s.gd, s.sl.put hi ⟨rfl, v, rfl, r⟩ fun _ z => by cases z⟩
theorem Okay.putL {K : PySem.W.Frag} {c : Zc} {F H : Hp} {k : Dk} {σ : L2.St} {e : Env} {ow : Nat → List Addr} (s : Okay K c ow σ e F H k) {i : Nat} (hi : i < e.length) {p : Addr} {vs : List V} {ds : List D} (hn : ∀ i, p ∉ ow i) (w : OwnA c F p) (h : H p = some (.lst vs)) (r : Rps K F vs ds) :
    Okay K c (clr ow i [p]) (σ.set i (some (.ref p))) (e.set i (.own ds)) F H k :=
  ⟨s.gd, s.sl.put hi ⟨p, vs, rfl, rfl, h, r, w⟩ fun q z => by rw [List.mem_singleton] at z; subst z; exact hn⟩
theorem g_name {x : Expr} {i : Nat} (h : PG X x (gName i)) : PG X x (rdG X.K [i] (gN i)) := pg_wk h fun v σ H Q q => by
  obtain ⟨c, ow, e, F, k, d, e', ok, r, he, g⟩ := q
  unfold gN at he
  split at he
  · rename_i hi
    cases he
    exact g _ _ (ok.put hi r) ⟨List.length_set, fun j hj => List.getElem?_set_ne (fun z => hj (by simp [z]))⟩
  · cases he
theorem g_nil : PGs X [] (rdGs X.K [] []) := by
  refine ⟨fun pins s σ H vs us Q I r q => pgs_nil.run pins s σ H vs us Q I r ?_⟩
  obtain ⟨c, ow, e, F, k, ds, e', ok, r, he, g⟩ := q
  cases ds with
  | nil =>
    cases r
    cases he
    exact ⟨rfl, g _ _ ok ⟨rfl, fun _ _ => rfl⟩⟩
  | cons _ _ => cases he
theorem g_cons {a : Expr} {es : List Expr} {t : Tg} {u : List Tg} {is js : List Nat} (h1 : PG X a (rdG X.K is t)) (h2 : PGs X es (rdGs X.K js u))
    (hs : (assignEach (a :: es) X.env).map (·.2) = assign a X.env :: (assignEach es X.env).map (·.2) := by rfl) : PGs X (a :: es) (rdGs X.K (is ++ js) (t :: u)) := by
  refine ⟨fun pins s σ H vs us Q I r q => (pgs_cons h1 h2 hs).run pins s σ H vs us Q I r ?_⟩
  obtain ⟨c, ow, e, F, k, ds, e', ok, r', he, g⟩ := q
  cases r' with
  | nil => cases he
  | @cons v vs d ds r0 rs =>
    cases hh : t d e with
    | none => rw [gAll, hh] at he; cases he
    | some e1 =>
      rw [gAll, hh] at he
      exact ⟨v, vs, rfl, c, ow, e, F, k, d, e1, ok, r0, hh, fun ow' σ' ok' o1 => ⟨c, ow', e1, F, k, ds, e', ok', rs, he, fun ow2 σ2 ok2 o2 => g ow2 σ2 ok2 ⟨o2.1.trans o1.1, fun j hj => by
        rw [List.mem_append, not_or] at hj
        rw [o2.2 j hj.2, o1.2 j hj.1]⟩⟩⟩
theorem gAll_len : ∀ {gs : List Tg} {ds : List D} {e e' : Env}, gAll gs ds e = some e' → ds.length = gs.length
  | [], [], _, _, _ => rfl
  | [], _ :: _, _, _, h => by cases h
  | _ :: _, [], _, _, h => by cases h
  | g :: gs, d :: ds, e, e', h => by
    rw [gAll] at h
    cases hh : g d e with
    | none => rw [hh] at h; cases h
    | some e1 =>
      rw [hh] at h
      rw [List.length_cons, List.length_cons, gAll_len h]
theorem g_tup {es : List Expr} {kk : Nat} {gs : List Tg} {is : List Nat} {pos : Pos} (hc : X.calm = true) (h : PGs X es (rdGs X.K is gs)) (hn : (assignEach es X.env).length = gs.length := by rfl) (hst : (assignEach es X.env).findIdx? (·.1) = none := by rfl) :
    PG X (.Tuple es kk pos) (rdG X.K is (gT gs)) := pg_wk (pg_tup (n := gs.length) hc h hn hst) fun v σ H Q q => by
  obtain ⟨c, ow, e, F, k, d, e', ok, r, he, g⟩ := q
  cases r with
  | tup hs rs => exact ⟨_, _, rfl, (.inl (.inl (ok.gd.le _ _ hs))), by rw [rs.length]; exact gAll_len he, c, ow, e, F, k, _, e', ok, rs, he, g⟩
  | _ => cases he
/-! ### statements -/
def GoodS (K : PySem.W.Frag) (c : Zc) (F : Hp) (D : Ends) : Out → Dk → Prop := fun o k => match o with
  | .nx e' => ∀ ow' σ' F' H', Same F F' → Okay K c ow' σ' e' F' H' k → D.nx σ' H'
  | .rt d => ∀ v F' H', Same F F' → Gd K c F' H' k → Rp K F' v d → D.rt v H'
  | .bk e' => ∀ ow' σ' F' H', Same F F' → Okay K c ow' σ' e' F' H' k → D.bk σ' H'
  | .ct e' => ∀ ow' σ' F' H', Same F F' → Okay K c ow' σ' e' F' H' k → D.ct σ' H'
theorem GoodS.wk {K : PySem.W.Frag} {c : Zc} {F F' : Hp} {D : Ends} {o : Out} {k : Dk} (h : GoodS K c F D o k) (m : Same F F') : GoodS K c F' D o k := by
  cases o with
  | nx e => exact fun ow σ F2 H2 m2 => h ow σ F2 H2 (m.trans m2)
  | rt d => exact fun v F2 H2 m2 => h v F2 H2 (m.trans m2)
  | bk e => exact fun ow σ F2 H2 m2 => h ow σ F2 H2 (m.trans m2)
  | ct e => exact fun ow σ F2 H2 m2 => h ow σ F2 H2 (m.trans m2)
def rdS (K : PySem.W.Frag) (mg : Str → Option Value) (E : XK) (m : SM) : TS := fun D σ H => ∃ c ow e F k, Okay K c ow σ e F H k ∧ PostR K mg E c (m e k) (GoodS K c F D)
theorem PostR.wkS {K : PySem.W.Frag} {mg : Str → Option Value} {c : Zc} {F F' : Hp} {D : Ends} {r : Res Out} (h : PostR K mg E c r (GoodS K c F D)) (m : Same F F') : PostR K mg E c r (GoodS K c F' D) := h.mono fun _ _ g => g.wk m
theorem s_nil : PSs X [] (rdS X.K X.mg E sNil) := pss_wk pss_nil fun D σ H q => by
  obtain ⟨c, ow, e, F, k, ok, po⟩ := q
  exact po ow σ F H (Same.refl _) ok
theorem s_one {st : Stmt} {m : SM} (h : PS X st (rdS X.K X.mg E m)) : PSs X [st] (rdS X.K X.mg E m) := pss_one h
theorem s_cons {st : Stmt} {rest : List Stmt} {m u : SM} (h : PS X st (rdS X.K X.mg E m)) (h2 : PSs X rest (rdS X.K X.mg E u)) : PSs X (st :: rest) (rdS X.K X.mg E (sSeq m u)) := pss_wk (pss_cons h h2) fun D σ H q => by
  obtain ⟨c, ow, e, F, k, ok, po⟩ := q
  refine ⟨c, ow, e, F, k, ok, po.bind.mono fun o k1 p1 => ?_⟩
  cases o with
  | nx e1 => exact fun ow1 σ1 F1 H1 m1 ok1 => ⟨c, ow1, e1, F1, k1, ok1, PostR.wkS p1 m1⟩
  | rt d => exact p1
  | bk e1 => exact p1
  | ct e1 => exact p1
theorem s_asg {tg a : Expr} {ma : EM} {g : Tg} {is : List Nat} {pos : Pos} (ha : PE X a (rdE X.K X.mg E ma)) (hg : PG X tg (rdG X.K is g)) (hs : swapsWithSole [tg] a pos.line X.env = pure false := by rfl) (hw : swappedStores [tg] a X.env = pure none := by rfl) (h1 : (assignEach [tg] X.env).map (·.2) = [assign tg X.env] := by rfl) :
    PS X (.Assign [tg] a pos) (rdS X.K X.mg E (sAsg g ma)) := ps_wk (ps_asg ha hg hs hw h1) fun D σ H q => by
  obtain ⟨c, ow, e, F, k, ok, po⟩ := q
  refine ⟨c, ow, e, F, k, ok, po.bind.mono fun d k1 p1 v F1 H1 s1 r1 => ?_⟩
  obtain ⟨e1, he, g1⟩ := p1.bind.of
  exact ⟨c, ow, e, F1, k1, d, e1, ok.into s1, r1, he, fun ow' σ' ok' _ => g1 ow' σ' F1 H1 s1.f0 ok'⟩
theorem s_own {i : Nat} {tg a : Expr} {ma : NM} {pos : Pos} (h : PS X (.Assign [tg] a pos) (tAsg (rdL X.K X.mg E ma) (gName i))) : PS X (.Assign [tg] a pos) (rdS X.K X.mg E (sOwn i ma)) := ps_wk h fun D σ H q => by
  obtain ⟨c, ow, e, F, k, ok, po⟩ := q
  refine ⟨c, ow, e, F, k, ok, po.bind.mono fun ds k1 p1 p vs F1 H1 s1 hp hF h1 r1 => ?_⟩
  have w := fresh0 ok.gd hp
  split at p1
  · rename_i hi
    exact p1 _ _ F1 H1 s1.f0 ((ok.into s1).putL hi (fun i z => (ok.sl.own z).1 hp) ⟨hF, w.2⟩ h1 r1)
  · exact p1.elim
theorem s_if {t : Expr} {a b : List Stmt} {mt : TM} {ma mb : SM} {pos : Pos} (ht : PT X t (rdT X.K X.mg E mt)) (ha : PSs X a (rdS X.K X.mg E ma)) (hb : PSs X b (rdS X.K X.mg E mb)) : PS X (.If t a b pos) (rdS X.K X.mg E (sIf mt ma mb)) := ps_wk (ps_if ht ha hb) fun D σ H q => by
  obtain ⟨c, ow, e, F, k, ok, po⟩ := q
  refine ⟨c, ow, e, F, k, ok, po.bind.mono fun d k1 p1 F1 H1 s1 => ?_⟩
  cases d with
  | true => exact ⟨c, ow, e, F1, k1, ok.into s1, PostR.wkS p1 s1.f0⟩
  | false => exact ⟨c, ow, e, F1, k1, ok.into s1, PostR.wkS p1 s1.f0⟩
theorem s_ret {a : Expr} {ma : EM} {pos : Pos} (ha : PE X a (rdE X.K X.mg E ma)) : PS X (.Return (some a) pos) (rdS X.K X.mg E (sRet ma)) := ps_wk (ps_ret ha) fun D σ H q => by
  obtain ⟨c, ow, e, F, k, ok, po⟩ := q
  exact ⟨c, ow, e, F, k, ok, po.bind.mono fun d k1 p1 v F1 H1 s1 r1 => p1 v F1 H1 s1.f0 (ok.gd.into s1) r1⟩
theorem s_retN {pos : Pos} : PS X (.Return none pos) (rdS X.K X.mg E sRetN) := ps_wk ps_retN fun D σ H q => by
  obtain ⟨c, ow, e, F, k, ok, po⟩ := q
  exact po _ F H (Same.refl _) ok.gd .non
theorem s_exp {a : Expr} {ma : EM} {pos : Pos} (ha : PE X a (rdE X.K X.mg E ma)) (hs : swapsWith a none pos.line X.env = pure false := by rfl) : PS X (.Expr a pos) (rdS X.K X.mg E (sExp ma)) := ps_wk (ps_expr ha hs) fun D σ H q => by
  obtain ⟨c, ow, e, F, k, ok, po⟩ := q
  exact ⟨c, ow, e, F, k, ok, po.bind.mono fun d k1 p1 v F1 H1 s1 r1 => p1 _ _ F1 H1 s1.f0 (ok.into s1)⟩
end
end Z
/-! Z, what is walked; for, while; the frame's own lists; a def's promise. -/
namespace Z
open PySem PySem.Spec PyProof.Rows L2
/-- what a walk yields: data -/
def YD (K : PySem.W.Frag) (F : Hp) (ds : List D) : Nat → Hp → V → Hp → Prop := fun i H x H' => ∃ d, ds[i]? = some d ∧ ∀ da F2 k, Same F F2 → Gd K ⟨F2, H, da⟩ F2 H k → ∃ F3, Gd K ⟨F2, H, da⟩ F3 H' k ∧ Rp K F3 x d
abbrev GoodI (K : PySem.W.Frag) (da : Option DA) (F H : Hp) (R : It → Hp → Prop) : List D → Dk → Prop := fun ds k => ∀ J F' H', Gd K ⟨F, H, da⟩ F' H' k → Walk J ds.length (fun H2 => Same F' H2) (YD K F' ds) → R J H'
def rdI (K : PySem.W.Frag) (mg : Str → Option Value) (E : XK) (m : IM) : TI := fun σ H R => ∃ c ow e F k, Okay K c ow σ e F H k ∧ PostR K mg E c (m e k) (GoodI K c.da F H R)
theorem yd_at {K : PySem.W.Frag} {F : Hp} {ds : List D} {xs : List V} (r : Rps K F xs ds) {i : Nat} {H : Hp} {x : V} {H' : Hp} (y : YAt xs i H x H') : YD K F ds i H x H' := by
  obtain ⟨rfl, hx⟩ := y
  obtain ⟨d, hd, rd⟩ := r.at' hx
  exact ⟨d, hd, fun da F2 k m ok => ⟨F2, ok, rd.mono m⟩⟩
section
variable {X : Cx} {E : XK} {tg : Expr}
theorem i_seq {l : Expr} {m : EM} (hl : PE X l (rdE X.K X.mg E m)) : PI X tg l (rdI X.K X.mg E (iSeq m)) := by
  refine ⟨fun pins s σ H R I q => ?_⟩
  obtain ⟨c, ow, e, F, k, ok, po⟩ := q
  refine thn (hl.run pins s σ H (fun x H1 => ∃ F1 k1 d, Gd X.K ⟨F, H, c.da⟩ F1 H1 k1 ∧ Rp X.K F1 x d ∧ PostR X.K X.mg E c (match d with | .list ds => Res.ok ds k1 | .tuple ds => Res.ok ds k1 | _ => Res.bad) (GoodI X.K c.da F H R)) I
    ⟨c, ow, e, F, k, ok, (PostR.bind po).mono fun d k1 p1 v F1 H1 s1 r1 => ⟨F1, k1, d, s1, r1, p1⟩⟩) fun v s1 h1 => ?_
  obtain ⟨x, H1, I1, rx, F1, k1, d, st1, r1, g⟩ := h1
  cases r1 with
  | lst hs rs =>
    rename_i a xs ds
    cases rx
    have hq : SqL X.K H1 a xs := .inl (.inl (st1.le _ _ hs))
    obtain ⟨its, rv, p, hz⟩ := I1.list hq
    refine wpAny_pyIter_list p.isList ⟨s1.heap.objs.size, [s1.heap.objs.size], _, Itl X.K a, H1, rfl, I1.kept (t' := s1.toks) (fun b o z => Heap.get?_push_of_some _ z), turn_list a _, ⟨_, Heap.get?_push_size _ rfl, rfl, rfl⟩, fun b hb => ?_, ?_⟩
    · obtain rfl : b = s1.heap.objs.size := by simpa using hb
      exact I1.fpOk (Nat.le_refl _) (I1.hok.fresh (Nat.le_refl _))
    · have w : Walk (Itl X.K a) xs.length (fun H => SqL X.K H a xs) (YAt xs) := walk_list
      refine g _ F1 H1 st1 ?_
      rw [← rs.length]
      exact w.mono (fun H h => .inl (.inl (h _ _ hs))) fun i H x H' _ _ y => yd_at rs y
  | tup hs rs =>
    rename_i a xs ds
    cases rx
    have hq : SqT X.K H1 a xs := (.inl (.inl (st1.le _ _ hs)))
    obtain ⟨its, rv, p, hz⟩ := I1.tuple hq
    have p' : s1.heap.IsTuple a its.toArray := p
    refine wpAny_pyIter_tuple p' ⟨s1.heap.objs.size, [s1.heap.objs.size], _, Itt X.K a, H1, rfl, I1.kept (t' := s1.toks) (fun b o z => Heap.get?_push_of_some _ z), turn_tuple a _, ⟨_, Heap.get?_push_size _ rfl, rfl, rfl⟩, fun b hb => ?_, ?_⟩
    · obtain rfl : b = s1.heap.objs.size := by simpa using hb
      exact I1.fpOk (Nat.le_refl _) (I1.hok.fresh (Nat.le_refl _))
    · have w : Walk (Itt X.K a) xs.length (fun H => SqT X.K H a xs) (YAt xs) := walk_tup
      refine g _ F1 H1 st1 ?_
      rw [← rs.length]
      exact w.mono (fun H h => (.inl (.inl (h _ _ hs)))) fun i H x H' _ _ y => yd_at rs y
  | _ => exact g.elim
theorem pi_wk {it : Expr} {t t' : TI} (h : PI X tg it t) (i : ∀ σ H R, t' σ H R → t σ H R) : PI X tg it t' := ⟨fun pins s σ H R I q => h.run pins s σ H R I (i _ _ _ q)⟩
theorem i_range {a : Expr} {m : EM} {p pos : Pos} (hg : Gl X "range") (hm : X.mg "range" = none) (ha : PA X [a] (rdN X.K X.mg E (nCons m nNil))) (hs : starEach [a] X.env = [(false, eval a X.env)] := by rfl) :
    PI X tg (.Call (.Name "range" p) [a] [] pos) (rdI X.K X.mg E (iRange m)) := pi_wk (pi_range1 hg hm ha hs) fun σ H R q => by
  obtain ⟨c, ow, e, F, k, ok, po⟩ := q
  refine ⟨c, ow, e, F, k, ok, ?_⟩
  have po' := PostR.bind po
  unfold nCons
  cases hh : m e k with
  | bad => rw [hh] at po'; exact po'.elim
  | exc n p k1 => rw [hh] at po'; exact po'
  | ok d k1 =>
    rw [hh] at po'
    show ∀ vs F' H', _ → _ → _
    intro vs F1 H1 s1 r1
    have g : PostR X.K X.mg E c (match d with | .int n => if n.toNat ≤ 1000000 ∧ -1000000 ≤ n then Res.ok ((List.range n.toNat).map fun (j : Nat) => PyData.int j) k1 else Res.bad | _ => Res.bad) (GoodI X.K c.da F H R) := po'
    cases r1 with
    | cons r rr =>
      cases rr
      cases r with
      | int n =>
        have g2 : PostR X.K X.mg E c (if n.toNat ≤ 1000000 ∧ -1000000 ≤ n then Res.ok ((List.range n.toNat).map fun (j : Nat) => PyData.int j) k1 else Res.bad) (GoodI X.K c.da F H R) := g
        by_cases hn : n.toNat ≤ 1000000 ∧ -1000000 ≤ n
        · rw [if_pos hn] at g2
          refine ⟨n, rfl, by omega, by omega, g2 _ F1 H1 s1 ?_⟩
          have w : Walk (Itr 0 n.toNat) n.toNat (fun _ => True) (YFn fun i => .int (0 + i)) := walk_range
          rw [List.length_map, List.length_range]
          refine w.mono (fun _ _ => trivial) fun i H x H' hi _ y => ?_
          obtain ⟨rfl, rfl⟩ := y
          refine ⟨.int i, by simp [hi], fun da F2 k m ok => ⟨F2, ok, ?_⟩⟩
          show Rp X.K F2 (.int (0 + (i : Int))) (PyData.int i)
          rw [Int.zero_add]
          exact .int _
        · rw [if_neg hn] at g2
          exact g2.elim
      | _ => exact g.elim
/-! ### for -/
theorem forL_run {g : Tg} {is : List Nat} {b : SM} {tb : TS} {gt : TG} (hg : ∀ v σ H Q, rdG X.K is g v σ H Q → gt v σ H Q) (hb : ∀ D σ H, rdS X.K X.mg E b D σ H → tb D σ H) {J : It} {ds : List D} {F1 : Hp} (w : Walk J ds.length (fun H2 => Same F1 H2) (YD X.K F1 ds))
    {D : Ends} {c : Zc} {ow : Nat → List Addr} {σ : L2.St} {e : Env} {H1 : Hp} {k1 : Dk} (ok1 : Okay X.K c ow σ e F1 H1 k1) (po : PostR X.K X.mg E c (forL g b ds e k1) (GoodS X.K c F1 D)) :
    ∃ W : Nat → Nat → L2.St → Hp → Prop, (∃ m, W 0 m σ H1) ∧ ∀ i m σ H, W i m σ H →
      (J.stop i H ∧ D.nx σ H) ∨ (J.go i H ∧ ∃ N : L2.St → Hp → Prop, (∀ σ' H', N σ' H' → ∃ m', m' < m ∧ W (i + 1) m' σ' H') ∧ ∀ x H', J.yld i H x H' → gt x σ H' fun σ2 H2 => tb { D with nx := N, ct := N, bk := D.nx } σ2 H2) := by
  refine for_it w (fun i σ H => ∃ ow e F k, Same F1 F ∧ Okay X.K c ow σ e F H k ∧ PostR X.K X.mg E c (forL g b (ds.drop i) e k) (GoodS X.K c F D)) ⟨ow, e, F1, k1, Same.refl _, ok1, po⟩ (fun i σ H _ h => ?_) (fun i x σ H H' hi h y => ?_) fun σ H h => ?_
  · obtain ⟨ow, e, F, k, m, ok, _⟩ := h
    exact m.trans ok.gd.le
  · obtain ⟨ow, e, F, k, m, ok, po⟩ := h
    obtain ⟨d, hd, st⟩ := y
    obtain ⟨F3, s3, r3⟩ := st c.da F k m ok.gd.start
    have hdr : ds.drop i = d :: ds.drop (i + 1) := by
      rw [List.drop_eq_getElem_cons hi]
      rw [List.getElem?_eq_getElem hi] at hd
      rw [Option.some.inj hd]
    rw [hdr, forL] at po
    obtain ⟨e1, he, p1⟩ := po.bind.of
    refine hg _ _ _ _ ⟨c, ow, e, F3, k, d, e1, ok.into s3, r3, he, fun ow' σ' ok' _ => hb _ _ _ ⟨c, ow', e1, F3, k, ok', p1.bind.mono fun o k2 p2 => ?_⟩⟩
    cases o with
    | nx e2 => exact fun ow2 σ2 F4 H4 m4 ok4 => ⟨ow2, e2, F4, k2, (m.trans s3.f0).trans m4, ok4, PostR.wkS p2 (s3.f0.trans m4)⟩
    | ct e2 => exact fun ow2 σ2 F4 H4 m4 ok4 => ⟨ow2, e2, F4, k2, (m.trans s3.f0).trans m4, ok4, PostR.wkS p2 (s3.f0.trans m4)⟩
    | bk e2 => exact fun ow2 σ2 F4 H4 m4 ok4 => (show GoodS X.K c F D (.nx e2) k2 from p2) ow2 σ2 F4 H4 (s3.f0.trans m4) ok4
    | rt d => exact fun v F4 H4 m4 gd4 r4 => (show GoodS X.K c F D (.rt d) k2 from p2) v F4 H4 (s3.f0.trans m4) gd4 r4
  · obtain ⟨ow, e, F, k, m, ok, po⟩ := h
    rw [List.drop_length, forL] at po
    exact po ow σ F H (Same.refl _) ok
theorem s_for {it : Expr} {body : List Stmt} {mi : IM} {g : Tg} {is : List Nat} {b : SM} {pos : Pos} (hp : PassesOwn (model X.prog X.w) X.A X.env X.xe) (hc : X.calm = true) (hi : PI X tg it (rdI X.K X.mg E mi)) (hg : PG X tg (rdG X.K is g)) (hb : PSs X body (rdS X.K X.mg E b))
    (hs : ∀ x, foldedSetIterable it X.env x = pure x := by intro _; rfl) : PS X (.For tg it body [] pos) (rdS X.K X.mg E (sFor mi g b)) := ps_wk (ps_for hp hc hi hg hb hs) fun D σ H q => by
  obtain ⟨c, ow, e, F, k, ok, po⟩ := q
  exact ⟨c, ow, e, F, k, ok, po.bind.mono fun ds k1 p1 J F1 H1 s1 w => forL_run (fun _ _ _ _ z => z) (fun _ _ _ z => z) w (ok.into s1) (PostR.wkS p1 s1.f0)⟩
/-! ### while -/
theorem s_while {t : Expr} {body : List Stmt} {mt : TM} {b : SM} {pos : Pos} (hp : PassesOwn (model X.prog X.w) X.A X.env X.xe) (ht : PT X t (rdT X.K X.mg E mt)) (hb : PSs X body (rdS X.K X.mg E b)) :
    PS X (.While t body [] pos) (rdS X.K X.mg E (sWhile mt b)) := ps_wk (ps_while hp ht hb) fun D σ H q => by
  obtain ⟨c, ow, e, F, k, ok, po⟩ := q
  unfold sWhile at po
  split at po
  · rename_i hh
    refine ⟨fun n σ H => ∃ ow e F k, Okay X.K c ow σ e F H k ∧ PostR X.K X.mg E c (whileN mt b n e k) (GoodS X.K c F D), ⟨_, ow, e, F, k, ok, po⟩, fun n σ H h => ?_⟩
    obtain ⟨ow, e, F, k, ok, po⟩ := h
    cases n with
    | zero => exact po.elim
    | succ n =>
      rw [whileN] at po
      refine ⟨c, ow, e, F, k, ok, po.bind.mono fun d k1 p1 F1 H1 s1 => ?_⟩
      cases d with
      | false => exact p1 ow σ F1 H1 s1.f0 (ok.into s1)
      | true =>
        refine ⟨fun σ' H' => ∃ ow e F k, Okay X.K c ow σ' e F H' k ∧ PostR X.K X.mg E c (whileN mt b n e k) (GoodS X.K c F D), fun σ' H' h => ⟨n, Nat.lt_succ_self n, h⟩, ?_⟩
        refine ⟨c, ow, e, F1, k1, ok.into s1, (PostR.bind p1).mono fun o k2 p2 => ?_⟩
        cases o with
        | nx e2 => exact fun ow2 σ2 F4 H4 m4 ok4 => ⟨ow2, e2, F4, k2, ok4, PostR.wkS p2 (s1.f0.trans m4)⟩
        | ct e2 => exact fun ow2 σ2 F4 H4 m4 ok4 => ⟨ow2, e2, F4, k2, ok4, PostR.wkS p2 (s1.f0.trans m4)⟩
        | bk e2 => exact fun ow2 σ2 F4 H4 m4 ok4 => (show GoodS X.K c F D (.nx e2) k2 from p2) ow2 σ2 F4 H4 (s1.f0.trans m4) ok4
        | rt d => exact fun v F4 H4 m4 gd4 r4 => (show GoodS X.K c F D (.rt d) k2 from p2) v F4 H4 (s1.f0.trans m4) gd4 r4
  · exact po.elim
/-! ### the frame's own lists -/
theorem Okay.mut {K : PySem.W.Frag} {c : Zc} {F H : Hp} {k : Dk} {σ : L2.St} {e : Env} {ow : Nat → List Addr} (s : Okay K c ow σ e F H k) {i : Nat} {sv : SV} {p : Addr} (hp : p ∈ ow i) {o : HO} (hi : i < e.length)
    (h : SlotOk K c F (upd H p o) (ow i) σ[i]? sv) : Okay K c ow σ (e.set i sv) F (upd H p o) k := by
  obtain ⟨hpn, w1, w2, w3⟩ := s.sl.own hp
  refine ⟨⟨fun a o h => ?_, fun q hq => ?_, fun a o h n => ?_, s.gd.f0, s.gd.fr⟩, by rw [List.length_set]; exact s.sl.len, fun j t q => ?_, s.sl.inj, fun j hj => s.sl.out j (by rw [List.length_set] at hj; exact hj)⟩
  · rw [upd_ne (show a ≠ p from fun z => by rw [z, w1] at h; cases h)]
    exact s.gd.le _ _ h
  · obtain ⟨h1, h2, h3, h4, h5, h6⟩ := s.gd.dk q hq
    have na : q.a ≠ p := fun z => w3 ⟨q, hq, .inl z.symm⟩
    have ng : q.g ≠ p := fun z => w3 ⟨q, hq, .inr z.symm⟩
    exact ⟨by rw [upd_ne na]; exact h1, by rw [upd_ne ng]; exact h2, h3, h4, h5, h6⟩
  · rw [upd_ne (show a ≠ p from fun z => by rw [z, w2] at h; cases h)]
    exact s.gd.pres a o h n
  · by_cases z : j = i
    · subst z
      rw [List.getElem?_set_self hi] at q
      cases q
      exact h
    · rw [List.getElem?_set_ne (fun w => z w.symm)] at q
      have g := s.sl.at_ j t q
      have hne : ∀ p' ∈ ow j, p' ≠ p := fun p' e1 y => z (s.sl.inj j i p (y ▸ e1) hp)
      cases t with
      | own ds2 =>
        obtain ⟨p', vs, e1, e2, e3, r2, o⟩ := g
        exact ⟨p', vs, e1, e2, by rw [upd_ne (hne p' (by rw [e1]; exact List.mem_cons_self))]; exact e3, r2, o⟩
      | dic tg kvs =>
        obtain ⟨p', o', ks, vs, ds2, e1, e2, e3, g⟩ := g
        exact ⟨p', o', ks, vs, ds2, e1, e2, by rw [upd_ne (hne p' (by rw [e1]; exact List.mem_cons_self))]; exact e3, g⟩
      | dil es =>
        obtain ⟨p', kvs, as, e1, e2, e3, e4, dd, oo⟩ := g
        refine ⟨p', kvs, as, e1, e2, e3, by rw [upd_ne (hne p' (by rw [e1]; exact List.mem_cons_self))]; exact e4, dd.step (Same.refl _) fun a ha o h => ?_, oo⟩
        rw [upd_ne (hne a (by rw [e1]; exact List.mem_cons_of_mem _ ha))]
        exact h
      | un => exact g
      | dat d => exact g
      | dk => exact g
theorem slot_own {K : PySem.W.Frag} {c : Zc} {ow : Nat → List Addr} {σ : L2.St} {e : Env} {F H : Hp} {k : Dk} {i : Nat} {ds : List D} (o : Okay K c ow σ e F H k) (h : e[i]? = some (.own ds)) :
    ∃ p vs, ow i = [p] ∧ σ[i]? = some (some (.ref p)) ∧ H p = some (.lst vs) ∧ Rps K F vs ds ∧ OwnA c F p := o.sl.at_ i _ h
theorem s_app {i : Nat} {st : Stmt} {ma : EM} (h : PS X st (tDrop (tBM X.K "list" rAppend (tVar i) (tCons (rdE X.K X.mg E ma) tNil)))) : PS X st (rdS X.K X.mg E (sApp i ma)) := ps_wk h fun D σ H q => by
  obtain ⟨c, ow, e, F, k, ok, po⟩ := q
  unfold sApp at po
  split at po
  · rename_i ds he
    obtain ⟨p, vs, h1, h2, h3, _⟩ := slot_own ok he
    refine ⟨_, h2, .inl ⟨rfl, _, .inl (.inl h3)⟩, c, ow, e, F, k, ok, po.bind.mono fun d k1 p1 v F1 H1 s1 r1 => ?_⟩
    have ok1 := ok.into s1
    obtain ⟨p', vs1, h1', _, h3', r3, ow3⟩ := slot_own ok1 he
    rw [h1] at h1'
    cases h1'
    split at p1
    · rename_i hz
      refine ⟨p, vs1, v, rfl, rfl, h3', by rw [r3.length]; exact hz, ?_⟩
      exact p1 ow σ F1 _ s1.f0 (ok1.mut (by rw [h1]; exact List.mem_cons_self) (List.getElem?_eq_some_iff.mp he).1 ⟨p, _, h1, h2, upd_same, r3.append (.cons r1 .nil), ow3⟩)
    · exact p1.elim
  · exact po.elim
/-- from here on it stays as it is -/
theorem Okay.settle {K : PySem.W.Frag} {c : Zc} {F H : Hp} {k : Dk} {σ : L2.St} {e : Env} {ow : Nat → List Addr} (s : Okay K c ow σ e F H k) {i : Nat} {ds : List D} (he : e[i]? = some (.own ds)) :
    ∃ p vs, ow i = [p] ∧ H p = some (.lst vs) ∧ F p = none ∧ Okay K c (clr ow i []) σ (e.set i (.dat (.list ds))) (upd F p (.lst vs)) H k := by
  obtain ⟨p, vs, h1, h2, h3, r, w⟩ := slot_own s he
  have hi : i < e.length := (List.getElem?_eq_some_iff.mp he).1
  have m : Same F (upd F p (.lst vs)) := same_new w.1
  refine ⟨p, vs, h1, h3, w.1, s.gd.frz h3 w, by rw [List.length_set]; exact s.sl.len, fun j t q => ?_, fun a b x q1 q2 => ?_, fun j hj => ?_⟩
  · unfold clr
    by_cases z : j = i
    · subst z
      rw [List.getElem?_set_self hi] at q
      cases q
      rw [if_pos rfl]
      exact ⟨rfl, _, h2, .lst upd_same (r.mono m)⟩
    · rw [List.getElem?_set_ne (fun w => z w.symm)] at q
      rw [if_neg z]
      refine (s.sl.at_ j t q).step m (fun _ _ _ z _ => z) fun a ha _ hF => ?_
      rw [upd_ne (show a ≠ p from fun y => z (s.sl.inj j i p (y ▸ ha) (by rw [h1]; exact List.mem_cons_self)))]
      exact hF
  · unfold clr at q1 q2
    split at q1
    · cases q1
    · split at q2
      · cases q2
      · exact s.sl.inj a b x q1 q2
  · unfold clr
    rw [List.length_set] at hj
    split
    · rfl
    · exact s.sl.out j hj
theorem s_frz {i : Nat} {sts : List Stmt} {m : SM} (h : PSs X sts (rdS X.K X.mg E m)) : PSs X sts (rdS X.K X.mg E (sFrz i m)) := pss_wk h fun D σ H q => by
  obtain ⟨c, ow, e, F, k, ok, po⟩ := q
  unfold sFrz at po
  split at po
  · rename_i ds he
    obtain ⟨p, vs, h1, h3, hF, ok'⟩ := ok.settle he
    exact ⟨c, _, _, _, k, ok', PostR.wkS po (same_new hF)⟩
  · exact ⟨c, ow, e, F, k, ok, po⟩
/-! ### a def's promise -/
theorem start_slot {K : PySem.W.Frag} {c : Zc} {F H : Hp} {r : Nat} : ∀ {vs : List V} {as : List Ar}, Args K c F vs as → ∀ (i : Nat) (s : SV), (as.map Ar.sv ++ List.replicate r SV.un)[i]? = some s →
    SlotOk K c F H [] (vs.map some ++ List.replicate r (none : Option V))[i]? s
  | _, _, .nil, i, s, h => by
    have h' : (List.replicate r SV.un)[i]? = some s := h
    rw [List.getElem?_replicate] at h'
    split at h'
    · cases h'; rfl
    · cases h'
  | _, _, .dat q t, 0, s, h => by
    cases h
    exact ⟨rfl, _, rfl, q⟩
  | _, _, .dk q t, 0, s, h => by
    cases h
    exact ⟨rfl, _, q, rfl⟩
  | _, _, .dat q t, i + 1, s, h => start_slot t i s h
  | _, _, .dk q t, i + 1, s, h => start_slot t i s h
end
section
variable {P : Program} {w : World} {K : PySem.W.Frag} {mg : Str → Option Value} {base : Heap} {x qual : Str} {st : Stmt} {f : Addr} {fd : FuncData} {N ps : List Str} {k : Nat} {m : SM}
theorem start_ok {c : Zc} {F H : Hp} {kk : Dk} {vs : List V} {as : List Ar} (g : Gd K c F H kk) (a : Args K c F vs as) : Okay K c (fun _ => []) (L2.start N vs) (as.map Ar.sv ++ List.replicate (N.length - vs.length) SV.un) F H kk :=
  { gd := g
    sl := { len := by unfold L2.start; simp [a.length]
            at_ := fun i s h => start_slot a i s h
            inj := fun _ _ _ h _ => by cases h
            out := fun _ _ => rfl } }
/-- THE RULE for a def: from its body's walk to its promise -/
theorem fn_ok (Fu : Fun K x qual st f fd) (S : FnScope N ps (defScope st))
    (h : ∀ (cdv : Value) (A : Around) (outer : List PySem.Env) (s : Shared) (H : Hp) (E : XK), Room k (A.deeper (envOfC qual (defScope st) s.heap.objs.size f cdv)) → PSs (cxOf CX0 P w K mg base N qual (defScope st) f cdv A outer s H E).nox (defBody st) (rdS K mg E0 m)) :
    FnOk P w K mg base CX0 (k + 1) f fd ps (spZ K mg ps.length (run ps.length (N.length - ps.length) m)) := by
  refine Fu.ok S (fun vs H Q E q => q.1) fun cdv A outer s H vs Q E hr q => ?_
  obtain ⟨hl, da, as, F, kk, gd, ar, po⟩ := q
  refine ⟨_, h cdv A outer s H E hr, ⟨F, H, da⟩, fun _ => [], _, F, kk, start_ok gd ar, ?_⟩
  unfold run at po
  rw [if_pos (by rw [← ar.length]; exact hl), ← hl] at po
  refine PostR.mono po.bind fun o k1 p1 => ?_
  obtain ⟨d, hd, p2⟩ := PostR.of p1
  cases o with
  | nx e1 =>
    cases hd
    exact fun ow σ F1 H1 m1 ok1 => p2 _ F1 H1 ok1.gd .non
  | rt d =>
    cases hd
    exact fun v F1 H1 m1 gd1 r => p2 v F1 H1 gd1 r
  | bk e1 => cases hd
  | ct e1 => cases hd
end
end Z
/-! Z, comprehensions, slices, built-ins. -/
namespace Z
open PySem PySem.Spec PyProof.Rows L2
section
variable {K : PySem.W.Frag} {c : Zc} {F H : Hp} {k : Dk} {σ : L2.St} {e : Env} {ow : Nat → List Addr}
theorem Slots.un (s : Slots K c F H σ e ow) (v : Nat) : Slots K c F H (σ.set v none) (e.set v .un) (clr ow v []) := by
  by_cases hv : v < e.length
  · exact s.put hv rfl fun _ z => by cases z
  · have h1 : σ.set v none = σ := List.set_eq_of_length_le (by rw [s.len]; omega)
    have h2 : e.set v .un = e := List.set_eq_of_length_le (by omega)
    have h3 : clr ow v [] = ow := by
      funext j
      unfold clr
      by_cases z : j = v
      · rw [if_pos z, s.out j (by omega)]
      · rw [if_neg z]
    rw [h1, h2, h3]
    exact s
theorem Slots.wipe (s : Slots K c F H σ e ow) : ∀ vs : List Nat, ∃ ow', Slots K c F H (L2.wipe σ vs) (wipeE e vs) ow'
  | [] => ⟨ow, s⟩
  | v :: vs => by
    obtain ⟨ow', h⟩ := Slots.wipe s vs
    exact ⟨_, h.un v⟩
theorem wipe_get (σ : L2.St) : ∀ (vs : List Nat) (j : Nat), (L2.wipe σ vs)[j]? = if j ∈ vs then (if j < σ.length then some none else none) else σ[j]?
  | [], j => by simp [L2.wipe]
  | v :: vs, j => by
    show ((L2.wipe σ vs).set v none)[j]? = _
    by_cases z : j = v
    · subst z
      rw [if_pos List.mem_cons_self]
      by_cases h : j < σ.length
      · rw [List.getElem?_set_self (by rw [wipe_length]; exact h), if_pos h]
      · rw [if_neg h, List.getElem?_eq_none (by rw [List.length_set, wipe_length]; omega)]
    · rw [List.getElem?_set_ne (fun w => z w.symm), wipe_get σ vs j]
      by_cases m : j ∈ vs
      · rw [if_pos m, if_pos (List.mem_cons_of_mem _ m)]
      · rw [if_neg m, if_neg (by rw [List.mem_cons]; exact not_or.mpr ⟨z, m⟩)]
theorem wipe_only {vs is : List Nat} (h : ∀ j ∈ is, j ∈ vs) {σ' : L2.St} (o : Only is (L2.wipe σ vs) σ') : L2.wipe σ' vs = L2.wipe σ vs := by
  apply List.ext_getElem?
  intro j
  rw [wipe_get, wipe_get, o.1, wipe_length]
  by_cases m : j ∈ vs
  · rw [if_pos m, if_pos m]
  · rw [if_neg m, if_neg m, o.2 j (fun z => m (h j z)), wipe_get, if_neg m]
theorem Gd.stay {F' H' : Hp} {da : Option DA} (s : Gd K ⟨F, H, da⟩ F' H' k) {p : Addr} (h1 : F p = none) (h2 : H p ≠ none) : F' p = none := by
  cases z : F' p with
  | none => rfl
  | some o =>
    rcases s.fr _ _ z with y | y
    · have y' : F p = some o := y
      rw [h1] at y'; cases y'
    · exact (h2 y).elim
/-- what is made and not known may change -/
theorem Gd.mutX {p : Addr} (o : HO) (g : Gd K c F H k) (w : OwnA c F p) : Gd K c F (upd H p o) k := by
  obtain ⟨w1, w2, w3⟩ := w
  refine ⟨fun a x h => ?_, fun q hq => ?_, fun a x h n => ?_, g.f0, g.fr⟩
  · rw [upd_ne (show a ≠ p from fun z => by rw [z, w1] at h; cases h)]
    exact g.le _ _ h
  · obtain ⟨h1, h2, h3, h4, h5, h6⟩ := g.dk q hq
    have na : q.a ≠ p := fun z => w3 ⟨q, hq, .inl z.symm⟩
    have ng : q.g ≠ p := fun z => w3 ⟨q, hq, .inr z.symm⟩
    exact ⟨by rw [upd_ne na]; exact h1, by rw [upd_ne ng]; exact h2, h3, h4, h5, h6⟩
  · rw [upd_ne (show a ≠ p from fun z => by rw [z, w2] at h; cases h)]
    exact g.pres a x h n
end
section
variable {X : Cx} {E : XK}
/-! ### comprehensions -/
theorem lc_read {K : PySem.W.Frag} {mg : Str → Option Value} {mi : IM} {g : Tg} {is vs : List Nat} {t : TM} {a : EM} (his : ∀ j ∈ is, j ∈ vs) {σ : L2.St} {H : Hp} {Q : VK} (q : rdL K mg E (nLc vs mi g t a) σ H Q) :
    tLc (rdI K mg E mi) (rdG K is g) (rdT K mg E t) (rdE K mg E a) vs σ H Q := by
  obtain ⟨c, ow, e, F, k, ok, po⟩ := q
  refine ⟨c, ow, e, F, k, ok, po.bind.mono fun ds k1 p1 J F1 H1 s1 w Dl hD => ?_⟩
  have nd : ¬ isDk c.da Dl := s1.dk.not_new hD
  refine lc_it w (fun i H2 => ∃ F2 k2 acc vacc, Same F1 F2 ∧ Gd K ⟨F, H, c.da⟩ F2 H2 k2 ∧ H2 Dl = some (.lst vacc) ∧ F2 Dl = none ∧ Rps K F2 vacc acc ∧ PostR K mg E c (lcL vs g t a e (ds.drop i) acc k2) (GoodL K c.da F H Q))
    ⟨F1, k1, [], [], Same.refl _, s1.newH _ hD, upd_same, same_free s1.le hD, .nil, p1⟩ (fun i H2 _ h => ?_) (fun i x H2 H3 hi h y => ?_) fun H2 h => ?_
  · obtain ⟨F2, k2, acc, vacc, m, s2, _⟩ := h
    exact m.trans s2.le
  · obtain ⟨F2, k2, acc, vacc, m, s2, hd2, hf2, r2, p2⟩ := h
    obtain ⟨d, hd, st⟩ := y
    obtain ⟨F3, s3, r3⟩ := st c.da F2 k2 m s2.start
    have hdr : ds.drop i = d :: ds.drop (i + 1) := by
      rw [List.drop_eq_getElem_cons hi]
      rw [List.getElem?_eq_getElem hi] at hd
      rw [Option.some.inj hd]
    rw [hdr, lcL] at p2
    obtain ⟨e1, he, p3⟩ := p2.bind.of
    have ok3 : Okay K c ow σ e F3 H3 k2 := ok.into (s2.into s3)
    obtain ⟨ow', sw⟩ := ok3.sl.wipe vs
    refine ⟨c, ow', wipeE e vs, F3, k2, d, e1, ⟨ok3.gd, sw⟩, r3, he, fun ow4 σ4 ok4 on => ⟨wipe_only his on, c, ow4, e1, F3, k2, ok4, p3.bind.mono fun b k5 p5 F5 H5 s5 => ?_⟩⟩
    have h35 : Gd K ⟨F2, H2, c.da⟩ F5 H5 k5 := s3.into s5
    have hD5 : H5 Dl = some (.lst vacc) := h35.pres _ _ hd2 nd
    have hF5 : F5 Dl = none := h35.stay hf2 (by rw [hd2]; simp)
    cases b with
    | false => exact ⟨F5, k5, acc, vacc, m.trans h35.f0, s2.into h35, hD5, hF5, r2.mono h35.f0, p5⟩
    | true =>
      refine ⟨c, ow4, e1, F5, k5, ok4.into s5, (PostR.bind p5).mono fun z k6 p6 v F6 H6 s6 r6 => ?_⟩
      have h36 : Gd K ⟨F2, H2, c.da⟩ F6 H6 k6 := h35.into s6
      have hD6 : H6 Dl = some (.lst vacc) := h36.pres _ _ hd2 nd
      have hF6 : F6 Dl = none := h36.stay hf2 (by rw [hd2]; simp)
      split at p6
      · rename_i hz
        have s26 : Gd K ⟨F, H, c.da⟩ F6 H6 k6 := s2.into h36
        refine ⟨vacc, hD6, by rw [r2.length]; exact hz, F6, k6, acc ++ [z], vacc ++ [v], m.trans h36.f0, s26.mutX _ ⟨hF6, ok.gd.start.wasNone s1 hD, nd⟩, upd_same, hF6, (r2.mono h36.f0).append (.cons r6 .nil), p6⟩
      · exact p6.elim
  · obtain ⟨F2, k2, acc, vacc, m, s2, hd2, hf2, r2, p2⟩ := h
    rw [List.drop_length, lcL] at p2
    exact p2 Dl vacc F2 H2 s2 (ok.gd.start.wasNone s1 hD) hf2 hd2 r2
section
variable {elt tg iter : Expr} {ifs : List Expr} {scope : Scope} {own : List (Str × Nat)} {pos : Pos} {mi : IM} {g : Tg} {is : List Nat} {t : TM} {a : EM}
theorem l_lc (hc : X.calm = true) (hN : X.N.Nodup) (hi : PI X tg iter (rdI X.K X.mg E mi)) (ok : BlkOk X.N X.env.scope scope own)
    (hg : ∀ (s : Shared) (H : Hp) (C : Addr) (cl : List (Str × Addr)) (fp : List Addr), PG (X.blk s H scope (compEnvC scope cl C X.env) fp) tg (rdG X.K is g)) (ht : ∀ (s : Shared) (H : Hp) (C : Addr) (cl : List (Str × Addr)) (fp : List Addr), PTs (X.blk s H scope (compEnvC scope cl C X.env) fp) ifs (rdT X.K X.mg E t))
    (he : ∀ (s : Shared) (H : Hp) (C : Addr) (cl : List (Str × Addr)) (fp : List Addr), PE (X.blk s H scope (compEnvC scope cl C X.env) fp) elt (rdE X.K X.mg E a)) (his : ∀ j ∈ is, j ∈ own.map (·.2)) (hs : ∀ x, foldedSetIterable iter X.env x = pure x := by intro _; rfl) :
    PE X (.ListComp elt [⟨tg, iter, ifs, 0⟩] scope pos) (rdL X.K X.mg E (nLc (own.map (·.2)) mi g t a)) := pe_wk (pe_lc hc hN hi ok hg ht he hs) fun _ _ _ q => lc_read his q
/-- y = [..], as ps_own takes it -/
theorem s_lc {i : Nat} {y : Str} {py spos : Pos} (hc : X.calm = true) (hN : X.N.Nodup) (hy : X.N[i]? = some y) (hyl : X.env.scope.names.lookup y = some .local)
    (hsw : swapsWith (.ListComp elt [⟨tg, iter, ifs, 0⟩] scope pos) (some (.Name y py)) spos.line X.env = pure true) (hi : PI X tg iter (rdI X.K X.mg E mi)) (ok : BlkOk X.N X.env.scope scope own)
    (hg : ∀ (s : Shared) (H : Hp) (C : Addr) (cl : List (Str × Addr)) (fp : List Addr), PG (X.blk s H scope (compEnvC scope cl C X.env) fp) tg (rdG X.K is g)) (ht : ∀ (s : Shared) (H : Hp) (C : Addr) (cl : List (Str × Addr)) (fp : List Addr), PTs (X.blk s H scope (compEnvC scope cl C X.env) fp) ifs (rdT X.K X.mg E t))
    (he : ∀ (s : Shared) (H : Hp) (C : Addr) (cl : List (Str × Addr)) (fp : List Addr), PE (X.blk s H scope (compEnvC scope cl C X.env) fp) elt (rdE X.K X.mg E a)) (his : ∀ j ∈ is, j ∈ own.map (·.2)) (hs : ∀ x, foldedSetIterable iter X.env x = pure x := by intro _; rfl) :
    PS X (.Assign [.Name y py] (.ListComp elt [⟨tg, iter, ifs, 0⟩] scope pos) spos) (tAsg (rdL X.K X.mg E (nLc (own.map (·.2)) mi g t a)) (gName i)) :=
  ps_wk (ps_setLc hc hN hy hyl hsw hi ok hg ht he hs) fun _ _ _ q => lc_read his q
end
/-- y = a new list, as a datum -/
theorem s_new {i : Nat} {st : Stmt} {m : NM} (h : PS X st (tAsg (rdL X.K X.mg E m) (gName i))) : PS X st (rdS X.K X.mg E (sAsg (gN i) (eNew m))) := ps_wk h fun D σ H q => by
  obtain ⟨c, ow, e, F, k, ok, po⟩ := q
  refine ⟨c, ow, e, F, k, ok, ?_⟩
  have po2 := (PostR.bind (PostR.bind po)).mono fun ds k1 p1 => p1
  refine po2.mono fun ds k1 p1 => goodL_E ok.gd.start fun v F1 H1 s1 r1 => ?_
  obtain ⟨e1, he, g1⟩ := PostR.of (PostR.bind p1)
  unfold gN at he
  split at he
  · rename_i hi
    cases he
    exact g1 _ _ F1 H1 s1.f0 ((ok.into s1).put hi r1)
  · cases he
end
end Z
/-! Z, slices, built-ins by name. -/
namespace Z
open PySem PySem.Spec PyProof.Rows L2
section
variable {X : Cx} {E : XK}
theorem Rps.rep {K : PySem.W.Frag} {F : Hp} {vs : List V} {ds : List D} (h : Rps K F vs ds) : ∀ n : Nat, Rps K F (List.replicate n vs).flatten (List.replicate n ds).flatten
  | 0 => .nil
  | n + 1 => by
    rw [List.replicate_succ, List.replicate_succ, List.flatten_cons, List.flatten_cons]
    exact h.append (Rps.rep h n)
theorem z_mul : OpR X (binaryOp .Mult) (rO X.K mulD) := by
  intro pins s σ H x y v u Q I rx ry h
  obtain ⟨da, F, k, dx, dy, d, ok, r1, r2, ed, g⟩ := h
  unfold mulD at ed
  split at ed
  · split at ed
    · rename_i i j hi
      cases ed
      cases r1
      cases r2
      exact op_mul pins s σ H _ _ v u Q I rx ry ⟨_, _, rfl, rfl, .inl (by omega), g _ F H ok (.int _)⟩
    · cases ed
  · split at ed
    · rename_i z n hz
      cases ed
      cases r1
      cases r2
      obtain ⟨t, rfl⟩ := rx
      obtain ⟨t2, rfl⟩ := ry
      refine SB.mul ⟨?_, fun h1 _ => ?_, fun h1 _ => ?_⟩ fun t' kk => ⟨.str _, H, I.tok _, ⟨_, rfl⟩, g _ F H ok (.str _)⟩
      · rw [decide_eq_false (by omega), decide_eq_false (by omega)]; rfl
      · have h2 : (9223372036854775 : Int) ≤ (2 ^ 63 - 1) / n := Int.le_ediv_of_mul_le (by omega) (by omega)
        omega
      · have h3 : n.toNat ≤ 1000 := by omega
        have h4 : z.length * n.toNat ≤ 1000 * 1000 := Nat.mul_le_mul hz.1 h3
        show Builtin.Str.tooLong (z.length * n.toNat) = false
        unfold Builtin.Str.tooLong
        have h5 : (1000 * 1000 : Nat) ≤ sizeLine := by decide
        simp
        omega
    · cases ed
  · split at ed
    · rename_i ds n hz
      cases ed
      cases r1 with
      | lst h1 s1 =>
        rename_i a xs
        cases r2
        refine op_rep pins s σ H _ _ v u Q I rx ry ⟨a, n, xs, rfl, rfl, ok.le _ _ h1, by omega, by omega, ?_, new_lstE ok (s1.rep _) g⟩
        rw [s1.length]
        have h3 : n.toNat ≤ 1000 := by omega
        have h4 : ds.length * n.toNat ≤ 1000 * 1000 := Nat.mul_le_mul hz.2.2 h3
        exact Nat.le_trans h4 (by decide)
    · cases ed
  · cases ed
/-! ### slices -/
def rdO (K : PySem.W.Frag) (mg : Str → Option Value) (E : XK) (m : Env → Dk → Res (Option Int)) : TO := fun σ H Q => ∃ c ow e F k, Okay K c ow σ e F H k ∧ PostR K mg E c (m e k) fun o k1 => ∀ F' H', Gd K ⟨F, H, c.da⟩ F' H' k1 → Q o H'
theorem po_wk {e : Option Expr} {t t' : TO} (h : PO X e t) (i : ∀ σ H Q, t' σ H Q → t σ H Q) : PO X e t' := ⟨fun pins s σ H Q I q => h.run pins s σ H Q I (i _ _ _ q)⟩
theorem o_none : PO X none (rdO X.K X.mg E oNone) := po_wk po_none fun σ H Q q => by
  obtain ⟨c, ow, e, F, k, ok, po⟩ := q
  exact po F H ok.gd.start
theorem o_some {a : Expr} {m : EM} (h : PE X a (rdE X.K X.mg E m)) : PO X (some a) (rdO X.K X.mg E (oSome m)) := po_wk (po_some h) fun σ H Q q => by
  obtain ⟨c, ow, e, F, k, ok, po⟩ := q
  refine ⟨c, ow, e, F, k, ok, (PostR.bind po).mono fun d k1 p1 v F1 H1 s1 r1 => ?_⟩
  cases r1 with
  | int i => exact ⟨i, rfl, p1 F1 H1 s1⟩
  | _ => exact p1.elim
theorem d_sl {a : Expr} {lo hi : Option Expr} {m : EM} {ml mh : Env → Dk → Res (Option Int)} {pos p2 : Pos} (ha : PE X a (rdE X.K X.mg E m)) (hl : PO X lo (rdO X.K X.mg E ml)) (hh : PO X hi (rdO X.K X.mg E mh)) :
    PE X (.Subscript a (.Slice lo hi none p2) pos) (rdE X.K X.mg E (eSl cutD m ml mh)) := pe_wk (pe_slice (sl_tupA.or (sl_str.or sl_list)) ha hl hh) fun σ H Q q => by
  obtain ⟨c, ow, e, F, k, ok, po⟩ := q
  refine ⟨c, ow, e, F, k, ok, (PostR.bind po).mono fun d k1 p1 v F1 H1 s1 r1 => ⟨c, ow, e, F1, k1, ok.into s1, (PostR.bind p1).mono fun l k2 p2 F2 H2 s2 => ⟨c, ow, e, F2, k2, (ok.into s1).into s2, (PostR.bind p2).mono fun u k3 p3 F3 H3 s3 => ?_⟩⟩⟩
  have s13 : Gd X.K ⟨F, H, c.da⟩ F3 H3 k3 := (s1.into s2).into s3
  have r3 := r1.mono (s2.f0.trans s3.f0)
  obtain ⟨d2, hd, g⟩ := PostR.of p3
  unfold cutD at hd
  split at hd
  · cases hd
    cases r3 with
    | lst hs rs =>
      refine .inr (.inr ⟨_, _, rfl, .inl (.inl (s13.le _ _ hs)), new_lstE s13 (rs.cut l u) g⟩)
  · cases hd
    cases r3 with
    | tup hs rs =>
      rename_i ds a' xs
      refine .inl ⟨a', xs, rfl, (.inl (.inl (s13.le _ _ hs))), fun w => ?_, fun w => new_tup s13 (rs.cut l u) g⟩
      refine g _ F3 H3 s13 ?_
      have e1 : cutL ds l u = ds := by
        rw [rs.length] at w
        unfold cutL
        rw [w.1, w.2]
        simp
      rw [e1]
      exact .tup hs rs
  · split at hd
    · rename_i z hz
      cases hd
      cases r3
      exact .inr (.inl ⟨_, rfl, hz, g _ F3 H3 s13 (.str _)⟩)
    · cases hd
  · cases hd
/-- a list's slice, a new list -/
theorem l_sl {a : Expr} {lo hi : Option Expr} {m : EM} {ml mh : Env → Dk → Res (Option Int)} {pos p2 : Pos} (ha : PE X a (rdE X.K X.mg E m)) (hl : PO X lo (rdO X.K X.mg E ml)) (hh : PO X hi (rdO X.K X.mg E mh)) :
    PE X (.Subscript a (.Slice lo hi none p2) pos) (rdL X.K X.mg E (nSl m ml mh)) := pe_wk (pe_slice sl_list ha hl hh) fun σ H Q q => by
  obtain ⟨c, ow, e, F, k, ok, po⟩ := q
  refine ⟨c, ow, e, F, k, ok, (PostR.bind po).mono fun d k1 p1 v F1 H1 s1 r1 => ⟨c, ow, e, F1, k1, ok.into s1, (PostR.bind p1).mono fun l k2 p2 F2 H2 s2 => ⟨c, ow, e, F2, k2, (ok.into s1).into s2, (PostR.bind p2).mono fun u k3 p3 F3 H3 s3 => ?_⟩⟩⟩
  have s13 : Gd X.K ⟨F, H, c.da⟩ F3 H3 k3 := (s1.into s2).into s3
  have r3 := r1.mono (s2.f0.trans s3.f0)
  cases r3 with
  | lst hs rs => exact ⟨_, _, rfl, .inl (.inl (s13.le _ _ hs)), new_lst ok.gd.start s13 (rs.cut l u) p3⟩
  | _ => exact p3.elim
/-! ### calls of built-ins -/
def rC (K : PySem.W.Frag) (f : List D → Option D) : List V → Hp → VK → Prop := fun vs H Q => ∃ da F k ds d, Gd K ⟨F, H, da⟩ F H k ∧ Rps K F vs ds ∧ f ds = some d ∧ GoodE K da F H Q d k
def rCN (K : PySem.W.Frag) (f : List D → Option (List D)) : List V → Hp → VK → Prop := fun vs H Q => ∃ da F k ds d, Gd K ⟨F, H, da⟩ F H k ∧ Rps K F vs ds ∧ f ds = some d ∧ GoodL K da F H Q d k
theorem cb_read {K : PySem.W.Frag} {mg : Str → Option Value} {f : List D → Option D} {mr : NM} {σ : L2.St} {H : Hp} {Q : VK} (q : rdE K mg E (eFn f mr) σ H Q) : tCB (rC K f) (rdN K mg E mr) σ H Q := by
  obtain ⟨c, ow, e, F, k, ok, po⟩ := q
  refine ⟨c, ow, e, F, k, ok, (PostR.bind po).mono fun ds k1 p1 vs F1 H1 s1 r1 => ?_⟩
  obtain ⟨d, hd, g⟩ := PostR.of p1
  exact ⟨c.da, F1, k1, ds, d, s1.start, r1, hd, fun v F' H' s => g v F' H' (s1.into s)⟩
theorem cn_read {K : PySem.W.Frag} {mg : Str → Option Value} {f : List D → Option (List D)} {mr : NM} {σ : L2.St} {H : Hp} {Q : VK} (q : rdL K mg E (nFn f mr) σ H Q) : tCB (rCN K f) (rdN K mg E mr) σ H Q := by
  obtain ⟨c, ow, e, F, k, ok, po⟩ := q
  refine ⟨c, ow, e, F, k, ok, (PostR.bind po).mono fun ds k1 p1 vs F1 H1 s1 r1 => ?_⟩
  obtain ⟨d, hd, g⟩ := PostR.of p1
  exact ⟨c.da, F1, k1, ds, d, s1.start, r1, hd, fun p vs' F' H' s hp => g p vs' F' H' (s1.into s) (ok.gd.start.wasNone s1 hp)⟩
section
variable {x : Str} {id T : String} {f : List D → Option D} {fn : List D → Option (List D)} {mr : NM} {e : Expr} {es : List Expr} {p pos : Pos}
theorem d_b (hc : CallR X (.builtin id) (rC X.K f)) (hg : Gl X x) (hm : X.mg x = none) (hv : bootBuiltins x = some (.builtin id)) (ha : PA X (e :: es) (rdN X.K X.mg E mr)) (hn : x ≠ "__name__" := by decide) (hdb : (x == ("__debug__" : Str)) = false := by decide)
    (he : starEach (e :: es) X.env = (false, eval e X.env) :: starEach es X.env := by rfl) (hpl : (backTo pos (starEach es X.env)).any (·.1) = false := by rfl) : PE X (.Call (.Name x p) (e :: es) [] pos) (rdE X.K X.mg E (eFn f mr)) :=
  pe_wk (pe_callB hc hg hm hv ha hn hdb he hpl) fun _ _ _ q => cb_read q
theorem d_ty (hc : CallR X (.type T) (rC X.K f)) (hg : Gl X x) (hm : X.mg x = none) (hv : bootBuiltins x = some (.type T)) (ha : PA X (e :: es) (rdN X.K X.mg E mr)) (hn : x ≠ "__name__" := by decide) (hdb : (x == ("__debug__" : Str)) = false := by decide)
    (he : starEach (e :: es) X.env = (false, eval e X.env) :: starEach es X.env := by rfl) (hpl : (backTo pos (starEach es X.env)).any (·.1) = false := by rfl) : PE X (.Call (.Name x p) (e :: es) [] pos) (rdE X.K X.mg E (eFn f mr)) :=
  pe_wk (pe_callTy hc hg hm hv ha hn hdb he hpl) fun _ _ _ q => cb_read q
theorem l_ty (hc : CallR X (.type T) (rCN X.K fn)) (hg : Gl X x) (hm : X.mg x = none) (hv : bootBuiltins x = some (.type T)) (ha : PA X (e :: es) (rdN X.K X.mg E mr)) (hn : x ≠ "__name__" := by decide) (hdb : (x == ("__debug__" : Str)) = false := by decide)
    (he : starEach (e :: es) X.env = (false, eval e X.env) :: starEach es X.env := by rfl) (hpl : (backTo pos (starEach es X.env)).any (·.1) = false := by rfl) : PE X (.Call (.Name x p) (e :: es) [] pos) (rdL X.K X.mg E (nFn fn mr)) :=
  pe_wk (pe_callTy hc hg hm hv ha hn hdb he hpl) fun _ _ _ q => cn_read q
theorem l_b (hc : CallR X (.builtin id) (rCN X.K fn)) (hg : Gl X x) (hm : X.mg x = none) (hv : bootBuiltins x = some (.builtin id)) (ha : PA X (e :: es) (rdN X.K X.mg E mr)) (hn : x ≠ "__name__" := by decide) (hdb : (x == ("__debug__" : Str)) = false := by decide)
    (he : starEach (e :: es) X.env = (false, eval e X.env) :: starEach es X.env := by rfl) (hpl : (backTo pos (starEach es X.env)).any (·.1) = false := by rfl) : PE X (.Call (.Name x p) (e :: es) [] pos) (rdL X.K X.mg E (nFn fn mr)) :=
  pe_wk (pe_callB hc hg hm hv ha hn hdb he hpl) fun _ _ _ q => cn_read q
end
theorem callr_wk {f : Value} {r r' : List V → Hp → VK → Prop} (h : CallR X f r) (i : ∀ vs H Q, r' vs H Q → r vs H Q) : CallR X f r' := fun pins s σ H xs us Q I rs q => h pins s σ H xs us Q I rs (i _ _ _ q)
theorem Rps.one {K : PySem.W.Frag} {F : Hp} {vs : List V} {d : D} (h : Rps K F vs [d]) : ∃ v, vs = [v] ∧ Rp K F v d := by
  cases h with
  | cons r t => cases t; exact ⟨_, rfl, r⟩
theorem c_len : CallR X (.builtin "len") (rC X.K fLen) := callr_wk call_len fun vs H Q q => by
  obtain ⟨da, F, k, ds, d, ok, rs, hd, g⟩ := q
  unfold fLen at hd
  split at hd
  · obtain ⟨v, rfl, r⟩ := rs.one
    unfold lenD at hd
    split at hd
    · cases hd
      cases r with
      | lst hs rs => exact ⟨_, _, rfl, .inl ⟨_, .inl (.inl (ok.le _ _ hs)), rfl⟩, by rw [rs.length]; exact g _ F H ok (.int _)⟩
    · cases hd
      cases r with
      | tup hs rs => exact ⟨_, _, rfl, .inr ⟨_, (.inl (.inl (ok.le _ _ hs))), rfl⟩, by rw [rs.length]; exact g _ F H ok (.int _)⟩
    · split at hd
      · rename_i z hz
        cases hd
        cases r
        exact ⟨_, _, rfl, ⟨hz, rfl⟩, g _ F H ok (.int _)⟩
      · cases hd
    · cases hd
  · cases hd
theorem c_abs : CallR X (.builtin "abs") (rC X.K fAbs) := callr_wk call_abs fun vs H Q q => by
  obtain ⟨da, F, k, ds, d, ok, rs, hd, g⟩ := q
  unfold fAbs at hd
  split at hd
  · cases hd
    obtain ⟨v, rfl, r⟩ := rs.one
    cases r
    exact ⟨_, rfl, g _ F H ok (.int _)⟩
  · cases hd
theorem c_int : CallR X (.type "int") (rC X.K fInt) := callr_wk call_int1 fun vs H Q q => by
  obtain ⟨da, F, k, ds, d, ok, rs, hd, g⟩ := q
  unfold fInt at hd
  split at hd
  · cases hd
    obtain ⟨v, rfl, r⟩ := rs.one
    cases r
    exact .inl ⟨_, rfl, g _ F H ok (.int _)⟩
  · cases hd
    obtain ⟨v, rfl, r⟩ := rs.one
    cases r
    exact .inr ⟨_, rfl, g _ F H ok (.int _)⟩
  · cases hd
theorem c_tuple : CallR X (.type "tuple") (rC X.K fTuple) := callr_wk call_tuple_of fun vs H Q q => by
  obtain ⟨da, F, k, ds, d, ok, rs, hd, g⟩ := q
  unfold fTuple at hd
  split at hd
  · cases hd
    obtain ⟨v, rfl, r⟩ := rs.one
    cases r with
    | lst hs rs => exact ⟨_, _, rfl, .inl ⟨.inl (.inl (ok.le _ _ hs)), new_tup ok rs g⟩⟩
  · cases hd
    obtain ⟨v, rfl, r⟩ := rs.one
    cases r with
    | tup hs rs => exact ⟨_, _, rfl, .inr ⟨(.inl (.inl (ok.le _ _ hs))), g _ F H ok (.tup hs rs)⟩⟩
  · cases hd
theorem c_list : CallR X (.type "list") (rCN X.K fList) := callr_wk call_list_of fun vs H Q q => by
  obtain ⟨da, F, k, ds, d, ok, rs, hd, g⟩ := q
  unfold fList at hd
  split at hd
  · cases hd
    obtain ⟨v, rfl, r⟩ := rs.one
    cases r with
    | lst hs rs => exact ⟨_, _, rfl, .inl (.inl (.inl (ok.le _ _ hs))), new_lst ok ok rs g⟩
  · cases hd
    obtain ⟨v, rfl, r⟩ := rs.one
    cases r with
    | tup hs rs => exact ⟨_, _, rfl, .inr ((.inl (.inl (ok.le _ _ hs)))), new_lst ok ok rs g⟩
  · cases hd
theorem bools_map : ∀ {ds : List D} {bs : List Bool}, bools ds = some bs → ds = bs.map PyData.bool
  | [], bs, h => by cases h; rfl
  | .bool b :: ds, bs, h => by
    rw [bools] at h
    cases q : bools ds with
    | none => rw [q] at h; cases h
    | some cs =>
      rw [q] at h
      cases h
      rw [bools_map q]
      rfl
  | .none :: _, _, h => by cases h
  | .int _ :: _, _, h => by cases h
  | .str _ :: _, _, h => by cases h
  | .list _ :: _, _, h => by cases h
  | .tuple _ :: _, _, h => by cases h
  | .dict _ :: _, _, h => by cases h
theorem Rps.bools {K : PySem.W.Frag} {F : Hp} : ∀ {bs : List Bool} {vs : List V}, Rps K F vs (bs.map PyData.bool) → vs = bs.map V.bl
  | [], _, h => by cases h; rfl
  | b :: bs, _, h => by
    cases h with
    | cons r t => cases r; rw [Rps.bools t]; rfl
theorem c_all (hc : X.calm = true) : CallR X (.builtin "all") (rC X.K fAll) := callr_wk (cr_all hc) fun vs H Q q => by
  obtain ⟨da, F, k, ds, d, ok, rs, hd, g⟩ := q
  unfold fAll at hd
  split at hd
  · rename_i xs
    obtain ⟨v, rfl, r⟩ := rs.one
    cases hb : bools xs with
    | none => rw [hb] at hd; cases hd
    | some bs =>
      rw [hb] at hd
      cases hd
      have e := bools_map hb
      subst e
      cases r with
      | lst hs rs =>
        rw [rs.bools] at hs
        exact ⟨_, bs, rfl, .inl (.inl (ok.le _ _ hs)), g _ F H ok (.bl _)⟩
  · cases hd
end
end Z
/-! Z, enumerate of a tuple (the layer below has lists), and of either. -/
namespace PySem
open Sem (wp)
open AutoSeq1 (wpAny_loadPart')
set_option maxHeartbeats 1000000 in
theorem zmeets_enum1 {v : Value} {o : Obj} {G : Heap → Prop} (B : Begins v o G) :
    Meets (Builtin.«enumerate.__new__» ⟨[.type "enumerate", v], []⟩) (fun _ R s => G s.heap ∧
      R (.ok (.ret (.ref (s.heap.push o).objs.size))) { s with heap := (s.heap.push o).push { cls := .type "enumerate", data := .fields #[.none, .bool false, .ref s.heap.objs.size, rawInt 0, .none, .none] } }) :=
  .of_wp fun prog w A R s hh => by
    obtain ⟨hp, gg, dd, tk, osx⟩ := s
    obtain ⟨g1, hh⟩ := hh
    have hsub := sub_enumerate
    have itr : ∀ {A' : Around} {E : Value → Shared → Prop} {Q : Value → Shared → Prop}, Q (.ref hp.objs.size) ⟨hp.push o, gg, dd, tk, osx⟩ → wpAny (model prog w) A' (pyIter v) Q E ⟨hp, gg, dd, tk, osx⟩ :=
      fun q => B.iter prog w _ _ ⟨hp, gg, dd, tk, osx⟩ _ g1 q
    wp_walk using itr
    refine wpAny_stack_any fun st => wpAny_pure ?_
    split
    · rename_i c _ _ _ _ _
      cases (c == Value.type "enumerate")
      · wp_walk using itr
        exact ⟨_, rfl, hh⟩
      · wp_walk using itr
        exact ⟨_, rfl, hh⟩
    · wp_walk using itr
      exact ⟨_, rfl, hh⟩
section
variable {prog : Program} {w : World} {A : Around} {E : Value → Shared → Prop} {s : Shared}
theorem zcall_enum1 {v : Value} {o : Obj} {G : Heap → Prop} {Q : Value → Shared → Prop} (B : Begins v o G) (g1 : G s.heap)
    (q : ∀ h2, IsEnum h2 (s.heap.objs.size + 1) s.heap.objs.size 0 .none → h2.get? s.heap.objs.size = some o → (∀ b o, s.heap.get? b = some o → h2.get? b = some o) → Q (.ref (s.heap.objs.size + 1)) { s with heap := h2 }) :
    wpAny (model prog w) A (call (.type "enumerate") [v]) Q E s := by
  refine callType_new F.called_enumerate (by decide) (F.typeCall_enumerate_1 _) (F.newCall_enumerate_1 _) (fun obj => F.args_object_init_2 obj _) F.entry_enumerate_new (zmeets_enum1 B) ⟨g1, ?_⟩
  have sz : (s.heap.push o).objs.size = s.heap.objs.size + 1 := Heap.size_push ..
  show _ ∧ _
  rw [sz]
  have en : IsEnum ((s.heap.push o).push { cls := .type "enumerate", data := .fields #[.none, .bool false, .ref s.heap.objs.size, rawInt 0, .none, .none] }) (s.heap.objs.size + 1) s.heap.objs.size 0 .none := by
    have z := Heap.get?_push_size (s.heap.push o) (o := { cls := .type "enumerate", data := .fields #[.none, .bool false, .ref s.heap.objs.size, rawInt 0, .none, .none] }) rfl
    rw [sz] at z
    exact z
  exact ⟨⟨_, en, rfl⟩, q _ en (Heap.get?_push_of_some _ (Heap.get?_push_size _ B.free)) fun b o x => Heap.get?_push_of_some _ (Heap.get?_push_of_some _ x)⟩
end
end PySem
namespace Z
open PySem PySem.Spec PyProof.Rows L2
/-- enumerate(t), t the tuple at a -/
def Iet (K : PySem.W.Frag) (a : Addr) : It :=
  ⟨fun i H => ∃ (xs : List V) (x : V), SqT K H a xs ∧ xs[i]? = some x, fun i H v H' => ∃ T x, v = .ref T ∧ H T = none ∧ H' = upd H T (.tup [.int (i : Nat), x]) ∧ ∀ xs, SqT K H a xs → xs[i]? = some x, fun i H => ∃ xs : List V, SqT K H a xs ∧ xs.length = i⟩
theorem turn_enumT {P : Program} {w : World} {K : PySem.W.Frag} {elts : List Expr} {kk : Nat} {tpos : Pos} (a e it : Addr) (ne : e ≠ it) (na : a ≠ e) (nb : a ≠ it) :
    Turn P w K (.Tuple elts kk tpos) (Iet K a) [e, it] e (fun i h => (∃ old, IsEnum h e it ((i : Nat) : Int) old) ∧ h.IsTupleIter it a i) where
  mem := List.mem_cons_self
  obj := fun i h st b hb => by
    obtain ⟨⟨old, he⟩, o, ho, hc, hd⟩ := st
    rcases (by simpa using hb : b = e ∨ b = it) with z | z
    · subst z; exact ⟨_, he, fun v q => nomatch q⟩
    · subst z; exact ⟨o, ho, fun v q => by rw [hd] at q; cases q⟩
  keep := fun i h h' st k => ⟨⟨st.1.choose, k e (by simp) _ st.1.choose_spec⟩, st.2.at fun o q => k it (by simp) o q⟩
  item := by
    intro X hP hw hK hc i pins s σ H E I hf st hg
    subst hP hw hK
    obtain ⟨⟨old, he⟩, hit⟩ := st
    obtain ⟨xs, x, hq, hx⟩ := hg
    obtain ⟨its, rv, p, hz⟩ := I.tuple hq
    obtain ⟨u, hu, ru⟩ := rv.get hx
    have hta : s.heap.IsTuple a its.toArray := p
    have hel : e < s.heap.objs.size := Heap.lt_size he
    have hil : it < s.heap.objs.size := by obtain ⟨_, q, _⟩ := hit; exact Heap.lt_size q
    have Dr := Draws.tuple (prog := X.prog) (w := X.w) (A := X.A.in1) (I.ok.hd hc) it a nb its.toArray
    have hlt : i < its.toArray.size := by
      have := (List.getElem?_eq_some_iff.mp hu).1
      simpa using this
    refine wpAny_pyNext_enum_itemD Dr he ⟨hit, hta⟩ hlt ne (by simp [ne, na.symm]) fun y h' tk hy ho st' hT hsz hk => ?_
    obtain rfl : u = y := by
      have e1 : its.toArray[i]? = some u := by simpa using hu
      rw [hy] at e1
      exact (Option.some.inj e1).symm
    refine ⟨_, rfl, wpAny_letOwnedTupleGo_enum (s := { s with heap := h', toks := tk + 1 }) ho fun h2 he2 sb => ?_⟩
    have hT2 : h2.get? s.heap.objs.size = some { cls := .type "tuple", data := .seq #[.int i tk, u] } := (sb.2 _ (Nat.ne_of_gt hel)).trans hT
    have new : ObjOk X.prog X.w (upd H s.heap.objs.size (.tup [.int (i : Nat), x])) h2 s.heap.objs.size (.tup [.int (i : Nat), x]) :=
      ⟨by show 2 ≤ sizeLine; decide, [.int i tk, u], .cons ⟨tk, rfl⟩ (.cons ru .nil), ⟨_, hT2, rfl, _, rfl⟩⟩
    have I1 : Inv X pins σ (upd H s.heap.objs.size (.tup [.int (i : Nat), x])) { s with heap := h2, toks := tk + 1 } :=
      I.turnedNew (ch := [e, it]) (fun b ob hb q => (sb.2 b (fun z => hb (by simp [z]))).trans (hk b ob (fun z => hb (by simp [z])) (fun z => hb (by simp [z])) q)) hf (Nat.le_refl _) new
    refine ⟨.ref s.heap.objs.size, _, I1, rfl, ⟨_, x, rfl, I.hok.fresh (Nat.le_refl _), rfl, fun ys hy2 => by rw [I.tuple_inj hy2 hq]; exact hx⟩, ⟨⟨u, ?_⟩, st'.1.at fun o q => (sb.2 it (Ne.symm ne)).trans q⟩, fun b hb => ?_⟩
    · rw [show ((i + 1 : Nat) : Int) = (i : Int) + 1 by omega]
      exact he2
    · have hb' : b < s.heap.objs.size := by
        rcases (by simpa using hb : b = e ∨ b = it) with z | z
        · rw [z]; exact hel
        · rw [z]; exact hil
      rw [upd_ne (Nat.ne_of_lt hb')]
      exact (hf b hb).1
  done := by
    intro X hP hw hK hc i pins s σ H E I hf st hg
    subst hP hw hK
    obtain ⟨⟨old, he⟩, hit⟩ := st
    obtain ⟨xs, hq, hx⟩ := hg
    obtain ⟨its, rv, p, hz⟩ := I.tuple hq
    have hta : s.heap.IsTuple a its.toArray := p
    obtain ⟨f0, f1, f2, f3, f4, f5⟩ := hf it (by simp)
    have Dr := Draws.tuple (prog := X.prog) (w := X.w) (A := X.A.in1) (I.ok.hd hc) it a nb its.toArray
    have hn : its.toArray.size = i := by rw [List.size_toArray, ← rv.length]; exact hx
    refine wpAny_pyNext_enum_endD Dr he (by rw [hn]; exact ⟨hit, hta⟩) fun h' eb => ⟨rfl, ?_⟩
    exact I.turned (t' := s.toks) (fun b o hb q => eb b o hb q) f0 f1 f3 f4 f5
  self := fun A i s Q E st h => let ⟨⟨_, he⟩, _⟩ := st; wpAny_pyIter_enum he h

theorem walk_enumT {K : PySem.W.Frag} {a : Addr} {xs : List V} : Walk (Iet K a) xs.length (fun H => SqT K H a xs) (fun i H v H' => (∃ T x, v = .ref T ∧ H T = none ∧ H' = upd H T (.tup [.int (i : Nat), x]) ∧ xs[i]? = some x)) :=
  ⟨fun i _ hi q => ⟨xs, xs[i], q, by simp [hi]⟩, fun _ q => ⟨xs, q, rfl⟩, fun _ _ _ _ _ q y => by
    obtain ⟨T, x, h1, h2, h3, h4⟩ := y
    exact ⟨T, x, h1, h2, h3, h4 xs q⟩⟩
theorem enumFrom_get : ∀ (n : Nat) (ds : List D) (i : Nat), (enumFrom n ds)[i]? = ds[i]?.map fun d => PyData.tuple [.int ((n + i : Nat) : Int), d]
  | _, [], i => by simp [enumFrom]
  | n, d :: ds, 0 => by simp [enumFrom]
  | n, d :: ds, i + 1 => by
    have h := enumFrom_get (n + 1) ds i
    simp only [enumFrom, List.getElem?_cons_succ]
    rw [h]
    congr 2
    funext d
    rw [show n + 1 + i = n + (i + 1) by omega]
theorem enumFrom_len : ∀ (n : Nat) (ds : List D), (enumFrom n ds).length = ds.length
  | _, [] => rfl
  | n, d :: ds => by simp [enumFrom, enumFrom_len (n + 1) ds]
/-- a pair that is made by the walk -/
theorem yd_pair {K : PySem.W.Frag} {F : Hp} {ds es : List D} {i : Nat} {d : D} {x : V} {H : Hp} {T : Addr} (hd : es[i]? = some (.tuple [.int ((0 + i : Nat) : Int), d])) (r : Rp K F x d) (hT : H T = none) :
    YD K F es i H (.ref T) (upd H T (.tup [.int (i : Nat), x])) := by
  refine ⟨_, hd, fun da F2 k m g => ⟨_, g.new _ hT, .tup upd_same (.cons ?_ (.cons (r.mono (m.trans (same_new (same_free g.le hT)))) .nil))⟩⟩
  rw [Nat.zero_add]
  exact .int _
section
variable {X : Cx} {E : XK}
theorem i_enum {l : Expr} {m : EM} {p pos tpos : Pos} {elts : List Expr} {kk : Nat} (hg : Gl X "enumerate") (hm : X.mg "enumerate" = none) (ha : PA X [l] (rdN X.K X.mg E (nCons m nNil))) (hs : starEach [l] X.env = [(false, eval l X.env)] := by rfl) :
    PI X (.Tuple elts kk tpos) (.Call (.Name "enumerate" p) [l] [] pos) (rdI X.K X.mg E (iEnum m)) := by
  refine ⟨fun pins s σ H R I q => ?_⟩
  obtain ⟨c, ow, e, F, k, ok, po⟩ := q
  refine Call_ (ld_blt I hg hm boot_enumerate (PyProof.Rows.callWith_type1 (thn (ha.run pos pins s σ H (fun vs H1 => ∃ F1 k1 d x, vs = [x] ∧ Gd X.K ⟨F, H, c.da⟩ F1 H1 k1 ∧ Rp X.K F1 x d ∧ PostR X.K X.mg E c (match d with | .list ds => Res.ok (enumFrom 0 ds) k1 | .tuple ds => Res.ok (enumFrom 0 ds) k1 | _ => Res.bad) (GoodI X.K c.da F H R)) I
    ⟨c, ow, e, F, k, ok, ?_⟩) fun us s1 h1 => ?_) hs rfl))
  · have po' := PostR.bind po
    unfold nCons nNil
    cases hh : m e k with
    | bad => rw [hh] at po'; exact po'.elim
    | exc n p k1 => rw [hh] at po'; exact po'
    | ok d k1 =>
      rw [hh] at po'
      show ∀ vs F' H', _ → _ → _
      intro vs F1 H1 s1 r1
      obtain ⟨x, rfl, r⟩ := r1.one
      exact ⟨F1, k1, d, x, rfl, s1, r, po'⟩
  · obtain ⟨vs, H1, I1, rv, F1, k1, d, x, rfl, st1, r1, g⟩ := h1
    obtain ⟨u, rfl, ru⟩ := Vals.one rv
    cases r1 with
    | lst hs' rs =>
      rename_i a xs ds
      cases ru
      have hq : SqL X.K H1 a xs := .inl (.inl (st1.le _ _ hs'))
      obtain ⟨its, rv', p', hz⟩ := I1.list hq
      refine call_enumerate_list p'.isList fun h' he hit hsz hk => wpAny_pyIter_enum he ?_
      have I2 : Inv X pins σ H1 { s1 with heap := h' } := I1.kept (t' := s1.toks) hk
      refine ⟨s1.heap.objs.size + 1, [s1.heap.objs.size + 1, s1.heap.objs.size], _, _, H1, rfl, I2, turn_enum a (s1.heap.objs.size + 1) s1.heap.objs.size, ⟨⟨.none, he⟩, hit, Nat.succ_ne_self _⟩, fun b hb => ?_, ?_⟩
      · have hle : s1.heap.objs.size ≤ b := by
          rcases (by simpa using hb : b = s1.heap.objs.size + 1 ∨ b = s1.heap.objs.size) with z | z
          · exact z ▸ Nat.le_add_right _ _
          · exact z ▸ Nat.le_refl _
        exact I1.fpOk hle (I1.hok.fresh hle)
      · refine g _ F1 H1 st1 ?_
        rw [enumFrom_len, ← rs.length]
        have w : Walk (Ite X.K a) xs.length (fun H => SqL X.K H a xs) (YPair (fun i => some (.int (i : Nat))) (fun i => xs[i]?)) := walk_enum
        refine w.mono (fun H h => .inl (.inl (h _ _ hs'))) fun i H v H' _ _ y => ?_
        obtain ⟨T, x1, x2, rfl, hT, rfl, e1, e2⟩ := y
        cases e1
        obtain ⟨d, hd, rd⟩ := rs.at' e2
        exact yd_pair (ds := ds) (by rw [enumFrom_get, hd]; rfl) rd hT
    | tup hs' rs =>
      rename_i a xs ds
      cases ru
      have hq : SqT X.K H1 a xs := .inl (.inl (st1.le _ _ hs'))
      obtain ⟨its, rv', p', hz⟩ := I1.tuple hq
      have hta : s1.heap.IsTuple a its.toArray := p'
      have hal : a < s1.heap.objs.size := by obtain ⟨o, ho, _⟩ := hta; exact Heap.lt_size ho
      refine zcall_enum1 (begins_tuple a its.toArray) hta fun h' he hit hk => wpAny_pyIter_enum he ?_
      have I2 : Inv X pins σ H1 { s1 with heap := h' } := I1.kept (t' := s1.toks) hk
      refine ⟨s1.heap.objs.size + 1, [s1.heap.objs.size + 1, s1.heap.objs.size], _, _, H1, rfl, I2, turn_enumT a (s1.heap.objs.size + 1) s1.heap.objs.size (Nat.succ_ne_self _) (Nat.ne_of_lt (Nat.lt_succ_of_lt hal)) (Nat.ne_of_lt hal), ⟨⟨.none, he⟩, ⟨_, hit, rfl, rfl⟩⟩, fun b hb => ?_, ?_⟩
      · have hle : s1.heap.objs.size ≤ b := by
          rcases (by simpa using hb : b = s1.heap.objs.size + 1 ∨ b = s1.heap.objs.size) with z | z
          · exact z ▸ Nat.le_add_right _ _
          · exact z ▸ Nat.le_refl _
        exact I1.fpOk hle (I1.hok.fresh hle)
      · refine g _ F1 H1 st1 ?_
        rw [enumFrom_len, ← rs.length]
        have w := walk_enumT (K := X.K) (a := a) (xs := xs)
        refine w.mono (fun H h => .inl (.inl (h _ _ hs'))) fun i H v H' _ _ y => ?_
        obtain ⟨T, x2, rfl, hT, rfl, e2⟩ := y
        obtain ⟨d, hd, rd⟩ := rs.at' e2
        exact yd_pair (ds := ds) (by rw [enumFrom_get, hd]; rfl) rd hT
    | _ => exact g.elim
end
end Z
/-! Z, lists of the frame's own lent to an expression; isinstance; join; a display on the right of a pair of names. -/
namespace Z
open PySem PySem.Spec PyProof.Rows L2
/-! ### lent -/
def rid (F : Hp) (p : Addr) : Hp := fun a => if a = p then none else F a
theorem rid_ne {F : Hp} {p a : Addr} (h : a ≠ p) : rid F p a = F a := by unfold rid; rw [if_neg h]
theorem rid_self {F : Hp} {p : Addr} : rid F p p = none := by unfold rid; rw [if_pos rfl]
section
variable {K : PySem.W.Frag} {F : Hp} {p : Addr} {ws : List V}
mutual
theorem Rp.rid (hp : F p = some (.lst ws)) : ∀ {v : V} {d : D}, tupD d = true → Rp K F v d → Rp K (Z.rid F p) v d
  | _, _, _, .non => .non
  | _, _, _, .bl b => .bl b
  | _, _, _, .int i => .int i
  | _, _, _, .str x => .str x
  | _, _, t, .lst h hs => by simp [tupD] at t
  | _, _, t, @Rp.tup _ _ a _ _ h hs => .tup (by rw [rid_ne (show a ≠ p from fun z => by rw [z, hp] at h; cases h)]; exact h) (Rps.rid hp (by simpa [tupD] using t) hs)
  | _, _, t, .dic h hd hs => by simp [tupD] at t
theorem Rps.rid (hp : F p = some (.lst ws)) : ∀ {vs : List V} {ds : List D}, tupDs ds = true → Rps K F vs ds → Rps K (Z.rid F p) vs ds
  | _, _, _, .nil => .nil
  | _, _, t, .cons h hs => by
    rw [tupDs, Bool.and_eq_true] at t
    exact .cons (Rp.rid hp t.1 h) (Rps.rid hp t.2 hs)
end
theorem Gd.lent {da : Option DA} {H F' H' : Hp} {k k0 : Dk} (g0 : Gd K ⟨F, H, da⟩ F H k0) (hF : F p = none) (s : Gd K ⟨upd F p (.lst ws), H, da⟩ F' H' k) : Gd K ⟨F, H, da⟩ (rid F' p) H' k ∧ F' p = some (.lst ws) := by
  have hp : F' p = some (.lst ws) := s.f0 _ _ upd_same
  refine ⟨⟨fun a o h => ?_, fun q hq => ?_, s.pres, fun a o h => ?_, fun a o h => ?_⟩, hp⟩
  · unfold rid at h
    split at h
    · cases h
    · exact s.le _ _ h
  · obtain ⟨h1, h2, h3, h4, h5, h6⟩ := s.dk q hq
    obtain ⟨_, _, g3, _⟩ := g0.dk q hq
    have hc : q.c ≠ p := fun z => by rw [z, hF] at g3; cases g3
    refine ⟨h1, h2, by rw [rid_ne hc]; exact h3, ?_, ?_, h6⟩
    · unfold rid; split
      · rfl
      · exact h4
    · unfold rid; split
      · rfl
      · exact h5
  · have hn : a ≠ p := fun z => by
      have h' : F a = some o := h
      rw [z, hF] at h'; cases h'
    rw [rid_ne hn]
    exact s.f0 _ _ (by show upd F p _ a = _; rw [upd_ne hn]; exact h)
  · unfold rid at h
    split at h
    · cases h
    · rename_i hn
      rcases s.fr a o h with z | z
      · have z' : upd F p (.lst ws) a = some o := z
        rw [upd_ne hn] at z'
        exact .inl z'
      · exact .inr z
end
section
variable {X : Cx} {E : XK}
theorem d_bor {a : Expr} {m : EM} (i : Nat) (h : PE X a (rdE X.K X.mg E m)) : PE X a (rdE X.K X.mg E (eBor i m)) := pe_wk h fun σ H Q q => by
  obtain ⟨c, ow, e, F, k, ok, po⟩ := q
  unfold eBor at po
  split at po
  · rename_i ds he
    obtain ⟨p, vs, h1, h3, hF, ok'⟩ := ok.settle he
    refine ⟨c, _, _, _, k, ok', (PostR.bind po).mono fun d k1 p1 v F1 H1 s1 r1 => ?_⟩
    obtain ⟨g, hp⟩ := ok.gd.start.lent hF s1
    split at p1
    · rename_i ht
      exact p1 v _ H1 g (r1.rid hp ht)
    · exact p1.elim
  · exact ⟨c, ow, e, F, k, ok, po⟩
theorem t_bor {a : Expr} {m : TM} (i : Nat) (h : PT X a (rdT X.K X.mg E m)) : PT X a (rdT X.K X.mg E (tBor i m)) := pt_wk h fun σ H Q q => by
  obtain ⟨c, ow, e, F, k, ok, po⟩ := q
  unfold tBor at po
  split at po
  · rename_i ds he
    obtain ⟨p, vs, h1, h3, hF, ok'⟩ := ok.settle he
    exact ⟨c, _, _, _, k, ok', PostR.mono po fun d k1 p1 F1 H1 s1 => p1 _ H1 (ok.gd.start.lent hF s1).1⟩
  · exact ⟨c, ow, e, F, k, ok, po⟩
theorem l_bor {a : Expr} {m : NM} (i : Nat) (h : PE X a (rdL X.K X.mg E m)) : PE X a (rdL X.K X.mg E (nBor i m)) := pe_wk h fun σ H Q q => by
  obtain ⟨c, ow, e, F, k, ok, po⟩ := q
  unfold nBor at po
  split at po
  · rename_i ds he
    obtain ⟨p, vs, h1, h3, hF, ok'⟩ := ok.settle he
    refine ⟨c, _, _, _, k, ok', (PostR.bind po).mono fun d k1 p1 q ws F1 H1 s1 hq hFq hq1 r1 => ?_⟩
    obtain ⟨g, hp⟩ := ok.gd.start.lent hF s1
    split at p1
    · rename_i ht
      refine p1 q ws _ H1 g hq ?_ hq1 (r1.rid hp ht)
      unfold rid
      split
      · rfl
      · exact hFq
    · exact p1.elim
  · exact ⟨c, ow, e, F, k, ok, po⟩
/-- return x, x the frame's own list -/
theorem s_frz1 {i : Nat} {st : Stmt} {m : SM} (h : PS X st (rdS X.K X.mg E m)) : PS X st (rdS X.K X.mg E (sFrz i m)) := ps_wk h fun D σ H q => by
  obtain ⟨c, ow, e, F, k, ok, po⟩ := q
  unfold sFrz at po
  split at po
  · rename_i ds he
    obtain ⟨p, vs, h1, h3, hF, ok'⟩ := ok.settle he
    exact ⟨c, _, _, _, k, ok', PostR.wkS po (same_new hF)⟩
  · exact ⟨c, ow, e, F, k, ok, po⟩
/-! ### x, y = a, b -/
theorem s_par {i j : Nat} {st : Stmt} {ma mb : EM} (hij : i ≠ j) (h : PS X st (tPar i j (rdN X.K X.mg E (nCons ma (nCons mb nNil))))) : PS X st (rdS X.K X.mg E (sPar i j ma mb)) := ps_wk h fun D σ H q => by
  obtain ⟨c, ow, e, F, k, ok, po⟩ := q
  refine ⟨c, ow, e, F, k, ok, ?_⟩
  unfold sPar at po
  unfold nCons nNil
  cases ha : ma e k with
  | bad => rw [ha] at po; exact po.elim
  | exc n p k1 => rw [ha] at po; exact po
  | ok d k1 =>
    rw [ha] at po
    simp only [Res.bind_ok] at po ⊢
    cases hb : mb e k1 with
    | bad => rw [hb] at po; exact po.elim
    | exc n p k2 => rw [hb] at po; exact po
    | ok d2 k2 =>
      rw [hb] at po
      simp only [Res.bind_ok] at po ⊢
      intro vs F1 H1 s1 r1
      cases r1 with
      | cons r t =>
        obtain ⟨w, rfl, r'⟩ := t.one
        split at po
        · rename_i hl
          have o1 := (ok.into s1).put hl.1 r
          have o2 := o1.put (i := j) (by rw [List.length_set]; exact hl.2) r'
          exact ⟨_, w, rfl, po _ _ F1 H1 s1.f0 o2⟩
        · exact po.elim
/-! ### sep.join(..) -/
theorem texts_map : ∀ {ds : List D} {bs : List Str}, textsD ds = some bs → ds = bs.map PyData.str
  | [], bs, h => by cases h; rfl
  | .str b :: ds, bs, h => by
    rw [textsD] at h
    cases q : textsD ds with
    | none => rw [q] at h; cases h
    | some cs =>
      rw [q] at h
      cases h
      rw [texts_map q]
      rfl
  | .none :: _, _, h => by cases h
  | .int _ :: _, _, h => by cases h
  | .bool _ :: _, _, h => by cases h
  | .list _ :: _, _, h => by cases h
  | .tuple _ :: _, _, h => by cases h
  | .dict _ :: _, _, h => by cases h
theorem Rps.texts {K : PySem.W.Frag} {F : Hp} : ∀ {bs : List Str} {vs : List V}, Rps K F vs (bs.map PyData.str) → vs = bs.map V.str
  | [], _, h => by cases h; rfl
  | b :: bs, _, h => by
    cases h with
    | cons r t => cases r; rw [Rps.texts t]; rfl
theorem d_join {o a : Expr} {mo ma : EM} {apos pos : Pos} (ho : PE X o (rdE X.K X.mg E mo)) (ha : PE X a (rdE X.K X.mg E ma)) (hs : starEach [a] X.env = [(false, eval a X.env)] := by rfl)
    (hb : attributeBase o "join" X.env (eval o X.env) = eval o X.env := by rfl) (hl : (apos.endLine == pos.line) = true := by rfl) :
    PE X (.Call (.Attribute o "join" apos) [a] [] pos) (rdE X.K X.mg E (eJoin mo ma)) := pe_wk (pe_join ho ha hs hb hl) fun σ H Q q => by
  obtain ⟨c, ow, e, F, k, ok, po⟩ := q
  refine ⟨c, ow, e, F, k, ok, (PostR.bind po).mono fun dx k1 p1 v F1 H1 s1 r1 => ?_⟩
  cases r1 with
  | str z =>
    refine ⟨⟨z, rfl⟩, c, ow, e, F1, k1, ok.into s1, (PostR.bind p1).mono fun dy k2 p2 w F2 H2 s2 r2 => ?_⟩
    obtain ⟨d, hd, g⟩ := PostR.of p2
    have s12 : Gd X.K ⟨F, H, c.da⟩ F2 H2 k2 := s1.into s2
    unfold joinD at hd
    split at hd
    · rename_i a ds e1
      cases e1
      cases ht : textsD ds with
      | none => rw [ht] at hd; cases hd
      | some ys =>
        rw [ht] at hd
        dsimp only at hd
        split at hd
        · rename_i hz
          cases hd
          have e := texts_map ht
          subst e
          cases r2 with
          | lst hs rs =>
            rw [rs.texts] at hs
            exact ⟨_, _, ys, rfl, rfl, .inl (.inl (.inl (s12.le _ _ hs))), hz, g _ F2 H2 s12 (.str _)⟩
        · cases hd
    · cases hd
  | _ => exact p1.elim

/-! ### isinstance(x, T) -/
theorem d_isi {T : String} {f : D → Bool} {a b : Expr} {m : EM} {p pos : Pos} (hg : Gl X "isinstance") (hm : X.mg "isinstance" = none)
    (hT : ∀ (s : Shared) (v : Value) (d : D) (as : List Addr) (Q : Value → Shared → Prop), Reads s.heap v d as → (∀ tk, s.toks ≤ tk → Q (.bool (f d)) { s with toks := tk }) → wpAny (model X.prog X.w) X.A (call (.builtin "isinstance") [v, .type T]) Q X.xe s)
    (ha : PE X a (rdE X.K X.mg E m)) (hb : PE X b (tC (.ty T)))
    (hs : starEach [a, b] X.env = (false, eval a X.env) :: starEach [b] X.env := by rfl) (hs2 : starEach [b] X.env = (false, eval b X.env) :: starEach [] X.env := by rfl) (hpl : (backTo pos (starEach [b] X.env)).any (·.1) = false := by rfl) :
    PE X (.Call (.Name "isinstance" p) [a, b] [] pos) (rdE X.K X.mg E (eUn (isiD f) m)) := by
  have cr : CallR X (.builtin "isinstance") (fun vs H Q => ∃ x da F k d, vs = [x, .ty T] ∧ Gd X.K ⟨F, H, da⟩ F H k ∧ Rp X.K F x d ∧ d.plain = true ∧ GoodE X.K da F H Q (.bool (f d)) k) := by
    intro pins s σ H xs us Q I r h
    obtain ⟨x, da, F, k, d, rfl, g, rx, hp, q⟩ := h
    cases r with
    | cons r1 r2 =>
      cases r2 with
      | cons r3 r4 =>
        cases r4
        cases r3
        obtain ⟨as, rd⟩ := rx.reads I g.le hp r1
        refine hT s _ d as _ rd fun tk _ => ⟨.bl (f d), H, ?_, rfl, q _ F H g (.bl _)⟩
        exact I.kept (h' := s.heap) (t' := tk) fun b o z => z
  refine pe_wk (pe_callB cr hg hm (by decide +kernel) (pa_cons ha (pa_cons hb pa_nil hs2) hs) (he := hs) (hpl := hpl)) fun σ H Q q => ?_
  obtain ⟨c, ow, e, F, k, ok, po⟩ := q
  refine ⟨c, ow, e, F, k, ok, (PostR.bind po).mono fun d k1 p1 v F1 H1 s1 r1 => ?_⟩
  obtain ⟨d2, hd, g⟩ := PostR.of p1
  unfold isiD at hd
  split at hd
  · rename_i hp
    cases hd
    exact ⟨v, c.da, F1, k1, d, rfl, s1.start, r1, hp, fun u F2 H2 s2 => g u F2 H2 (s1.into s2)⟩
  · cases hd
end
end Z
/-! Z, the law's deck: its parts read and stored. -/
namespace Z
open PySem PySem.Spec PyProof.Rows L2
section
variable {K : PySem.W.Frag} {c : Zc} {F H : Hp} {k : Dk} {σ : L2.St} {e : Env} {ow : Nat → List Addr}
theorem dk_at {i : Nat} (ok : Okay K c ow σ e F H k) (h : isDkAt e i = true) : ∃ q, c.da = some q ∧ σ[i]? = some (some (.ref q.a)) := by
  unfold isDkAt at h
  split at h
  · rename_i he
    exact (ok.sl.at_ i _ he).2
  · cases h
/-- the deck's own list turns -/
theorem Okay.dkA {q : DA} (ok : Okay K c ow σ e F H k) (hq : c.da = some q) (i n : Nat) : Okay K c ow σ e F (upd H q.a (.lst [.ref q.c, .ref q.g, .int i, .int n])) { k with i := i, n := n } := by
  obtain ⟨h1, h2, h3, h4, h5, h6⟩ := ok.gd.dk q hq
  have isA : isDk c.da q.a := ⟨q, hq, .inl rfl⟩
  refine ⟨⟨fun a o h => ?_, fun q' hq' => ?_, fun a o h n => ?_, ok.gd.f0, ok.gd.fr⟩, ok.sl.step (Same.refl _) (fun a o h n => ?_) fun a _ h => h⟩
  · rw [upd_ne (show a ≠ q.a from fun z => by rw [z, h4] at h; cases h)]
    exact ok.gd.le _ _ h
  · have e1 : q = q' := Option.some.inj (hq.symm.trans hq')
    subst e1
    exact ⟨upd_same, by rw [upd_ne h6.symm]; exact h2, h3, h4, h5, h6⟩
  · rw [upd_ne (show a ≠ q.a from fun z => n (z ▸ isA))]
    exact ok.gd.pres a o h n
  · rw [upd_ne (show a ≠ q.a from fun z => n (z ▸ isA))]
    exact h
theorem Okay.dkG {q : DA} (ok : Okay K c ow σ e F H k) (hq : c.da = some q) (gs : List Int) : Okay K c ow σ e F (upd H q.g (.lst (gs.map V.int))) { k with gs := gs } := by
  obtain ⟨h1, h2, h3, h4, h5, h6⟩ := ok.gd.dk q hq
  have isG : isDk c.da q.g := ⟨q, hq, .inr rfl⟩
  refine ⟨⟨fun a o h => ?_, fun q' hq' => ?_, fun a o h n => ?_, ok.gd.f0, ok.gd.fr⟩, ok.sl.step (Same.refl _) (fun a o h n => ?_) fun a _ h => h⟩
  · rw [upd_ne (show a ≠ q.g from fun z => by rw [z, h5] at h; cases h)]
    exact ok.gd.le _ _ h
  · have e1 : q = q' := Option.some.inj (hq.symm.trans hq')
    subst e1
    exact ⟨by rw [upd_ne h6]; exact h1, upd_same, h3, h4, h5, h6⟩
  · rw [upd_ne (show a ≠ q.g from fun z => n (z ▸ isG))]
    exact ok.gd.pres a o h n
  · rw [upd_ne (show a ≠ q.g from fun z => n (z ▸ isG))]
    exact h
end
section
variable {X : Cx} {E : XK}
theorem atI_0 {α : Type} {a b c d : α} : atI [a, b, c, d] 0 = some a := rfl
theorem atI_1 {α : Type} {a b c d : α} : atI [a, b, c, d] 1 = some b := rfl
theorem atI_2 {α : Type} {a b c d : α} : atI [a, b, c, d] 2 = some c := rfl
theorem atI_3 {α : Type} {a b c d : α} : atI [a, b, c, d] 3 = some d := rfl
theorem d_dk0 {a : Expr} {i : Nat} (h : PE X a (tOp (rIxL X.K) (tVar i) (tC (.int 0)))) : PE X a (rdE X.K X.mg E (eDk0 i)) := pe_wk h fun σ H Q q => by
  obtain ⟨c, ow, e, F, k, ok, po⟩ := q
  unfold eDk0 at po
  split at po
  · rename_i hi
    obtain ⟨q, hq, hs⟩ := dk_at ok hi
    obtain ⟨h1, h2, h3, _⟩ := ok.gd.dk q hq
    exact ⟨_, hs, _, _, _, _, rfl, rfl, .inl (.inl h1), atI_0, po _ F H ok.gd.start (.lst h3 (Rps.of_ints _))⟩
  · exact po.elim
theorem d_dk2 {a : Expr} {i : Nat} (h : PE X a (tOp (rIxL X.K) (tVar i) (tC (.int 2)))) : PE X a (rdE X.K X.mg E (eDk2 i)) := pe_wk h fun σ H Q q => by
  obtain ⟨c, ow, e, F, k, ok, po⟩ := q
  unfold eDk2 at po
  split at po
  · rename_i hi
    obtain ⟨q, hq, hs⟩ := dk_at ok hi
    obtain ⟨h1, h2, h3, _⟩ := ok.gd.dk q hq
    exact ⟨_, hs, _, _, _, _, rfl, rfl, .inl (.inl h1), atI_2, po _ F H ok.gd.start (.int _)⟩
  · exact po.elim
theorem d_dk3 {a : Expr} {i : Nat} (h : PE X a (tOp (rIxL X.K) (tVar i) (tC (.int 3)))) : PE X a (rdE X.K X.mg E (eDk3 i)) := pe_wk h fun σ H Q q => by
  obtain ⟨c, ow, e, F, k, ok, po⟩ := q
  unfold eDk3 at po
  split at po
  · rename_i hi
    obtain ⟨q, hq, hs⟩ := dk_at ok hi
    obtain ⟨h1, h2, h3, _⟩ := ok.gd.dk q hq
    exact ⟨_, hs, _, _, _, _, rfl, rfl, .inl (.inl h1), atI_3, po _ F H ok.gd.start (.int _)⟩
  · exact po.elim
theorem d_dkL {a : Expr} {i : Nat} (h : PE X a (tCB (fun xs H Q => ∃ p ys, xs = [.ref p] ∧ (SqL X.K H p ys ∨ SqT X.K H p ys) ∧ Q (.int ys.length) H) (tCons (tOp (rIxL X.K) (tVar i) (tC (.int 1))) tNil))) : PE X a (rdE X.K X.mg E (eDkL i)) := pe_wk h fun σ H Q q => by
  obtain ⟨c, ow, e, F, k, ok, po⟩ := q
  unfold eDkL at po
  split at po
  · rename_i hi
    obtain ⟨q, hq, hs⟩ := dk_at ok hi
    obtain ⟨h1, h2, h3, _⟩ := ok.gd.dk q hq
    refine ⟨_, hs, _, _, _, _, rfl, rfl, .inl (.inl h1), atI_1, _, _, rfl, .inl (.inl (.inl h2)), ?_⟩
    rw [List.length_map]
    exact po _ F H ok.gd.start (.int _)
  · exact po.elim
theorem d_dkG {a : Expr} {i : Nat} (h : PE X a (tOp (rIxL X.K) (tOp (rIxL X.K) (tVar i) (tC (.int 1))) (tOp (rIxL X.K) (tVar i) (tC (.int 2))))) : PE X a (rdE X.K X.mg E (eDkG i)) := pe_wk h fun σ H Q q => by
  obtain ⟨c, ow, e, F, k, ok, po⟩ := q
  unfold eDkG at po
  split at po
  · rename_i hi
    obtain ⟨q, hq, hs⟩ := dk_at ok hi
    obtain ⟨h1, h2, h3, _⟩ := ok.gd.dk q hq
    obtain ⟨d, hd, g⟩ := PostR.of po
    cases hv : k.gs[k.i]? with
    | none => rw [hv] at hd; cases hd
    | some v =>
      rw [hv] at hd
      cases hd
      refine ⟨_, hs, _, _, _, _, rfl, rfl, .inl (.inl h1), atI_1, _, hs, _, _, _, _, rfl, rfl, .inl (.inl h1), atI_2, _, _, (k.i : Int), .int v, rfl, rfl, .inl (.inl h2), atI_nat ?_, g _ F H ok.gd.start (.int _)⟩
      rw [List.getElem?_map, hv]
      rfl
  · exact po.elim
theorem s_dk2 {st : Stmt} {i : Nat} {m : EM} (h : PS X st (tAsg (rdE X.K X.mg E m) (gSub (tVar i) (tC (.int 2)) rSetL))) : PS X st (rdS X.K X.mg E (sDk2 i m)) := ps_wk h fun D σ H q => by
  obtain ⟨c, ow, e, F, k, ok, po⟩ := q
  unfold sDk2 at po
  split at po
  · rename_i hi
    obtain ⟨q, hq, hs⟩ := dk_at ok hi
    refine ⟨c, ow, e, F, k, ok, (PostR.bind po).mono fun d k1 p1 v F1 H1 s1 r1 => ⟨_, hs, ?_⟩⟩
    have ok1 := ok.into s1
    obtain ⟨h1, h2, h3, _⟩ := ok1.gd.dk q hq
    cases r1 with
    | int j =>
      dsimp only at p1
      split at p1
      · rename_i hj
        refine ⟨_, _, 2, 2, rfl, rfl, h1, rfl, ?_⟩
        have o2 := ok1.dkA hq j.toNat k1.n
        have ej : ((j.toNat : Nat) : Int) = j := Int.toNat_of_nonneg hj
        rw [ej] at o2
        exact p1 _ _ F1 _ s1.f0 o2
      · exact p1.elim
    | _ => exact p1.elim
  · exact po.elim
theorem s_dk3 {st : Stmt} {i : Nat} {m : EM} (h : PS X st (tAsg (rdE X.K X.mg E m) (gSub (tVar i) (tC (.int 3)) rSetL))) : PS X st (rdS X.K X.mg E (sDk3 i m)) := ps_wk h fun D σ H q => by
  obtain ⟨c, ow, e, F, k, ok, po⟩ := q
  unfold sDk3 at po
  split at po
  · rename_i hi
    obtain ⟨q, hq, hs⟩ := dk_at ok hi
    refine ⟨c, ow, e, F, k, ok, (PostR.bind po).mono fun d k1 p1 v F1 H1 s1 r1 => ⟨_, hs, ?_⟩⟩
    have ok1 := ok.into s1
    obtain ⟨h1, h2, h3, _⟩ := ok1.gd.dk q hq
    cases r1 with
    | int j =>
      dsimp only at p1
      split at p1
      · rename_i hj
        refine ⟨_, _, 3, 3, rfl, rfl, h1, rfl, ?_⟩
        have o2 := ok1.dkA hq k1.i j.toNat
        have ej : ((j.toNat : Nat) : Int) = j := Int.toNat_of_nonneg hj
        rw [ej] at o2
        exact p1 _ _ F1 _ s1.f0 o2
      · exact p1.elim
    | _ => exact p1.elim
  · exact po.elim
theorem s_dkG {st : Stmt} {i : Nat} {m : EM} (h : PS X st (tAsg (rdE X.K X.mg E m) (gSub (tOp (rIxL X.K) (tVar i) (tC (.int 1))) (tOp (rIxL X.K) (tVar i) (tC (.int 2))) rSetL))) : PS X st (rdS X.K X.mg E (sDkG i m)) := ps_wk h fun D σ H q => by
  obtain ⟨c, ow, e, F, k, ok, po⟩ := q
  unfold sDkG at po
  split at po
  · rename_i hi
    obtain ⟨q, hq, hs⟩ := dk_at ok hi
    refine ⟨c, ow, e, F, k, ok, (PostR.bind po).mono fun d k1 p1 v F1 H1 s1 r1 => ?_⟩
    have ok1 := ok.into s1
    obtain ⟨h1, h2, h3, _⟩ := ok1.gd.dk q hq
    cases r1 with
    | int j =>
      dsimp only at p1
      split at p1
      · rename_i hj
        refine ⟨_, hs, _, _, _, _, rfl, rfl, .inl (.inl h1), atI_1, _, hs, _, _, _, _, rfl, rfl, .inl (.inl h1), atI_2, _, _, _, k1.i, rfl, rfl, h2, ?_, ?_⟩
        · unfold ixN
          rw [if_pos (Int.natCast_nonneg _), if_pos (by rw [List.length_map]; exact Int.ofNat_lt.mpr hj)]
          rfl
        · have o2 := ok1.dkG hq (k1.gs.set k1.i j)
          rw [List.map_set] at o2
          exact p1 _ _ F1 _ s1.f0 o2
      · exact p1.elim
    | _ => exact p1.elim
  · exact po.elim
end
end Z
/-! Z, dicts. -/
namespace Z
open PySem PySem.Spec PyProof.Rows L2
theorem eqv_kD (a b : Key) : PyData.eqv (kD a) (kD b) = decide (a = b) := by
  cases a <;> cases b <;> simp only [kD, PyData.eqv] <;> (rw [Bool.eq_iff_iff]; simp)
theorem eqv_kDs : ∀ (a b : List Key), PyData.eqvAll (a.map kD) (b.map kD) = decide (a = b)
  | [], [] => by simp [PyData.eqvAll]
  | [], _ :: _ => by simp [PyData.eqvAll]
  | _ :: _, [] => by simp [PyData.eqvAll]
  | x :: a, y :: b => by
    simp only [List.map_cons, PyData.eqvAll, eqv_kD, eqv_kDs a b]
    by_cases h : x = y <;> by_cases h2 : a = b <;> simp [h, h2]
/-- a flat datum as a key -/
theorem flatK_of {d : D} (h : flatK d = true) : ∃ k : Key, d = kD k := by
  cases d with
  | int i => exact ⟨.inl i, rfl⟩
  | str s => exact ⟨.inr s, rfl⟩
  | _ => cases h
theorem flatKs_of : ∀ {ds : List D}, ds.all flatK = true → ∃ ks : List Key, ds = ks.map kD
  | [], _ => ⟨[], rfl⟩
  | d :: ds, h => by
    rw [List.all_cons, Bool.and_eq_true] at h
    obtain ⟨k, rfl⟩ := flatK_of h.1
    obtain ⟨ks, rfl⟩ := flatKs_of h.2
    exact ⟨k :: ks, rfl⟩
theorem Rp.kD {K : PySem.W.Frag} {F : Hp} {v : V} {k : Key} (r : Rp K F v (Z.kD k)) : v = kV k := by
  cases k with
  | inl i => cases r; rfl
  | inr s => cases r; rfl
theorem Rps.kDs {K : PySem.W.Frag} {F : Hp} : ∀ {ks : List Key} {vs : List V}, Rps K F vs (ks.map Z.kD) → vs = ks.map kV
  | [], _, h => by cases h; rfl
  | k :: ks, _, h => by
    cases h with
    | cons r t => rw [r.kD, Rps.kDs t]; rfl
theorem kD_inj {a b : Key} (h : kD a = kD b) : a = b := by
  have := eqv_kD a b
  rw [h, eqv_kD b b] at this
  simpa using this.symm
/-- what a look-up finds, told twice -/
theorem look_val {κ : Type} [DecidableEq κ] {K : PySem.W.Frag} {F : Hp} {f : κ → D} (hf : ∀ a b, PyData.eqv (f a) (f b) = decide (a = b)) (k : κ) : ∀ {kvs : List (κ × V)} {ds : List D}, Rps K F (kvs.map (·.2)) ds →
    (valV kvs k = none ∧ look ((kvs.map fun p => f p.1).zip ds) (f k) = none) ∨ ∃ v d, valV kvs k = some v ∧ look ((kvs.map fun p => f p.1).zip ds) (f k) = some d ∧ Rp K F v d
  | [], _, h => by
    cases h
    exact .inl ⟨rfl, rfl⟩
  | p :: kvs, _, h => by
    cases h with
    | @cons _ _ d ds r t =>
      by_cases e : p.1 = k
      · refine .inr ⟨p.2, d, valV_pos e, ?_, r⟩
        unfold look
        simp [List.find?_cons, hf, e]
      · have e1 : valV (p :: kvs) k = valV kvs k := by simp [valV, List.find?_cons, e]
        have e2 : look (((p :: kvs).map fun p => f p.1).zip (d :: ds)) (f k) = look ((kvs.map fun p => f p.1).zip ds) (f k) := by
          unfold look
          simp [List.find?_cons, hf, e]
        rw [e1, e2]
        exact look_val hf k t
/-- the same at a dict in the heap -/
theorem dic_get {K : PySem.W.Frag} {F H : Hp} (m : Same F H) {a : Addr} {o : HO} {tg : D} {ks : List D} {vs : List V} {ds : List D} (h : H a = some o) (hd : DicAt o tg ks vs) (rs : Rps K F vs ds) {y : V} {k : D} (ry : Rp K F y k) (hk : keyOk tg k = true) :
    IsD H a ∧ ∃ r, DGet H a y r ∧ ((r = none ∧ look (ks.zip ds) k = none) ∨ ∃ v d, r = some v ∧ look (ks.zip ds) k = some d ∧ Rp K F v d) := by
  cases o with
  | dK kvs =>
    obtain ⟨rfl, rfl, rfl⟩ := hd
    have hk' : flatK k = true := hk
    obtain ⟨key, rfl⟩ := flatK_of hk'
    rw [ry.kD]
    exact ⟨.inl ⟨kvs, .inl h⟩, valV kvs key, DGet.k h, look_val (f := kD) eqv_kD key rs⟩
  | dT kvs =>
    obtain ⟨rfl, rfl, rfl⟩ := hd
    cases k with
    | tuple kk =>
      have hk' : kk.all flatK = true := hk
      obtain ⟨key, rfl⟩ := flatKs_of hk'
      cases ry with
      | tup hb rb =>
        rw [rb.kDs] at hb
        refine ⟨.inr ⟨kvs, .inl h⟩, valV kvs key, DGet.t h (m _ _ hb), ?_⟩
        exact look_val (f := fun k : List Key => PyData.tuple (k.map kD)) (fun a b => by rw [PyData.eqv, eqv_kDs]) key rs
    | _ => cases hk
  | _ => exact hd.elim
theorem dic_isD {H : Hp} {a : Addr} {o : HO} {tg : D} {ks : List D} {vs : List V} (h : H a = some o) (hd : DicAt o tg ks vs) : IsD H a := by
  cases o with
  | dK kvs => exact .inl ⟨kvs, .inl h⟩
  | dT kvs => exact .inr ⟨kvs, .inl h⟩
  | _ => exact hd.elim
section
variable {X : Cx} {E : XK}
theorem d_get2 {o a b : Expr} {mo ma mb : EM} {apos cpos : Pos} (hu : X.A.units + 64 < cLine) (ho : PE X o (rdE X.K X.mg E mo)) (ha : PE X a (rdE X.K X.mg E ma)) (hb : PE X b (rdE X.K X.mg E mb)) (m : M2 X o "get" apos a b cpos := by exact ⟨rfl, rfl, rfl, rfl⟩) :
    PE X (.Call (.Attribute o "get" apos) [a, b] [] cpos) (rdE X.K X.mg E (eGet2 mo ma mb)) := pe_wk (pe_dget2 (by omega) ho ha hb m) fun σ H Q q => by
  obtain ⟨c, ow, e, F, k, ok, po⟩ := q
  refine ⟨c, ow, e, F, k, ok, (PostR.bind po).mono fun d k1 p1 v F1 H1 s1 r1 => ?_⟩
  cases r1 with
  | dic h hd rs =>
    refine ⟨_, rfl, dic_isD (s1.le _ _ h) hd, c, ow, e, F1, k1, ok.into s1, (PostR.bind p1).mono fun y k2 p2 vy F2 H2 s2 r2 => ⟨c, ow, e, F2, k2, (ok.into s1).into s2, (PostR.bind p2).mono fun z k3 p3 vz F3 H3 s3 r3 => ?_⟩⟩
    split at p3
    · rename_i hk
      have m13 := s2.f0.trans s3.f0
      have s13 : Gd X.K ⟨F, H, c.da⟩ F3 H3 k3 := (s1.into s2).into s3
      obtain ⟨_, r, hg, hr⟩ := dic_get s3.le (s3.le _ _ (m13 _ _ h)) hd (rs.mono m13) (r2.mono s3.f0) hk
      refine ⟨r, hg, ?_⟩
      rcases hr with ⟨rfl, e1⟩ | ⟨v, d, rfl, e1, rd⟩
      · rw [e1] at p3
        exact p3 _ F3 H3 s13 r3
      · rw [e1] at p3
        exact p3 _ F3 H3 s13 rd
    · exact p3.elim
  | _ => exact p1.elim
end
end Z
/-! Z, t[::-1] and t[:0:-1] of a tuple. -/
namespace Z
open PySem PySem.Spec PyProof.Rows L2
theorem fm_congr {α β : Type} {f g : α → Option β} : ∀ {l : List α}, (∀ m ∈ l, f m = g m) → l.filterMap f = l.filterMap g
  | [], _ => rfl
  | a :: l, h => by
    rw [List.filterMap_cons, List.filterMap_cons, h a List.mem_cons_self, fm_congr fun m hm => h m (List.mem_cons_of_mem _ hm)]
theorem pick_back {α : Type} (xs : Array α) (d : Nat) : (List.range (xs.size - d)).filterMap (fun (m : Nat) => xs[(((xs.size : Int) - 1) + (m : Int) * (-1)).toNat]?) = (xs.toList.drop d).reverse := by
  have h : ∀ m ∈ List.range (xs.size - d), (fun (m : Nat) => xs[(((xs.size : Int) - 1) + (m : Int) * (-1)).toNat]?) m = (fun m => (xs.toList.drop d).reverse[m]?) m := by
    intro m hm
    rw [List.mem_range] at hm
    have e : (((xs.size : Int) - 1) + (m : Int) * (-1)).toNat = xs.size - 1 - m := by omega
    show xs[(((xs.size : Int) - 1) + (m : Int) * (-1)).toNat]? = (xs.toList.drop d).reverse[m]?
    rw [e, List.getElem?_reverse (by rw [List.length_drop, Array.length_toList]; exact hm), List.getElem?_drop, List.length_drop, Array.length_toList, Array.getElem?_toList]
    congr 1
    omega
  rw [fm_congr h]
  have hl : (xs.toList.drop d).reverse.length = xs.size - d := by simp
  rw [← hl]
  generalize (xs.toList.drop d).reverse = l
  apply List.ext_getElem?
  intro i
  have : ∀ (l : List α), (List.range l.length).filterMap (fun m => l[m]?) = l := by
    intro l
    induction l with
    | nil => rfl
    | cons a l ih =>
      rw [List.length_cons, List.range_succ_eq_map, List.filterMap_cons]
      show a :: _ = _
      rw [List.filterMap_map]
      congr 1
  rw [this]
section
variable {prog : Program} {w : World} {A : Around} {E : Value → Shared → Prop} {s : Shared}
/-- where the slice ends: not told, or 0 -/
def backD (hi : Option Int) : Nat := if hi = none then 0 else 1
theorem adjust_back {hi : Option Int} (h : hi = none ∨ hi = some 0) (n : Nat) : ∃ stop : Int, Builtin.Slice.sliceAdjust none hi (-1) (n : Int) = ((n : Int) - 1, stop) ∧ Builtin.Slice.slicePlaces ((n : Int) - 1) stop (-1) = n - backD hi := by
  rcases h with rfl | rfl
  · refine ⟨-1, by unfold Builtin.Slice.sliceAdjust; simp, ?_⟩
    unfold Builtin.Slice.slicePlaces backD
    simp
    split <;> omega
  · refine ⟨min 0 ((n : Int) - 1), by unfold Builtin.Slice.sliceAdjust; simp, ?_⟩
    unfold Builtin.Slice.slicePlaces backD
    simp
    split <;> omega
theorem sliceApplied_back {sl : Addr} {vu : Value} {t : Tok} {hi : Option Int} {n : Nat} {Q : Int × Int × Nat → Shared → Prop} (hh : hi = none ∨ hi = some 0) (hs : s.heap.IsSliceOf sl .none vu (.int (-1) t)) (pu : IsPart vu hi)
    (h : Q ((n : Int) - 1, -1, n - backD hi) s) : wpAny (model prog w) A (Builtin.Slice.sliceApplied (.ref sl) (pure (n : Int))) Q E s := by
  obtain ⟨os, hos, hcs, hds⟩ := id hs
  obtain ⟨stop, e1, e2⟩ := adjust_back hh n
  unfold Builtin.Slice.sliceApplied Builtin.Slice.sliceFields
  refine wpAny_bind (wpAny_bind (wpAny_field hos hds (x := .none) rfl (wpAny_bind (wpAny_field hos hds (x := vu) rfl (wpAny_bind (wpAny_field hos hds (x := .int (-1) t) rfl (wpAny_pure ?_)))))))
  refine wpAny_bind (slicePart_int ?_)
  show wpAny _ _ (if ((-1 : Int) == 0) = true then _ else _) _ _ s
  rw [if_neg (by decide)]
  refine wpAny_bind (slicePart_none (wpAny_bind (HT.slicePart_ pu (wpAny_bind (wpAny_pure ?_)))))
  show wpAny _ _ (match Builtin.Slice.sliceAdjust none hi (-1) (n : Int) with | (lo, hi) => pure (lo, (-1 : Int), Builtin.Slice.slicePlaces lo hi (-1))) _ _ s
  rw [e1]
  show wpAny _ _ (pure ((n : Int) - 1, (-1 : Int), Builtin.Slice.slicePlaces ((n : Int) - 1) stop (-1))) _ _ s
  rw [e2]
  exact wpAny_pure h
theorem getItem_tuple_back {t sl : Addr} {items : Array Value} {vu : Value} {tk : Tok} {hi : Option Int} {Q : Value → Shared → Prop} (hh : hi = none ∨ hi = some 0) (ht : IsTup s.heap t items) (hs : s.heap.IsSliceOf sl .none vu (.int (-1) tk)) (pu : IsPart vu hi) (hz : items.size ≤ sizeLine)
    (h : Q (.ref s.heap.objs.size) { s with heap := s.heap.push { cls := .type "tuple", data := .seq (items.toList.drop (backD hi)).reverse.toArray } }) : wpAny (model prog w) A (getItem (.ref t) (.ref sl)) Q E s := by
  have htake : (items.toList.drop (backD hi)).reverse.toArray.size ≤ sizeLine := by
    rw [List.size_toArray, List.length_reverse, List.length_drop, Array.length_toList]
    omega
  obtain ⟨os, hos, hcs, hds⟩ := id hs
  have hTs : s.TypeIs (.ref sl) "slice" := ⟨os, hos, hcs⟩
  unfold getItem
  try with_reducible refine wpAny_holding ?_
  first | refine wpAny_bind (wpAny_pure ?_) | skip
  refine wpAny_bind (wpAny_sequenceKey ht.typeIs (by decide) ?_)
  refine wpAny_bind (wpAny_callSpecial?_slot (name := Str.ofString "__getitem__") ht.typeIs PyProof.Rows.slot_tuple_getitem
    (wpAny_call_entry PyProof.Rows.slot_tuple_getitem ht.typeIs entry_tuple_getitem ?_ (args_tuple_getitem _ _)))
  show wpAny _ _ (Builtin.Tuple.tupleItemsOf (.ref t) >>= _) _ _ s
  refine wpAny_bind (tupleItemsOf_ ht (wpAny_bind (wpAny_typeOf hTs ?_)))
  rw [if_pos (by decide)]
  refine wpAny_bind (sliceApplied_back hh hs pu ?_)
  show wpAny _ _ (if (((items.size : Int) - 1) == 0 && (-1 : Int) == 1 && (items.size - backD hi) == items.size) = true then _ else _) _ _ s
  rw [if_neg (by simp), pick_back]
  first
    | exact wpAny_bind (m := Builtin.Tuple.tupleExact _) (wpAny_newObj_type (wpAny_pure ⟨_, rfl, wpAny_pure h⟩) htake)
    | exact wpAny_bind (m := Builtin.Tuple.tupleExact _) (wpAny_newObj_type (wpAny_bind (wpAny_pure (wpAny_pure ⟨_, rfl, wpAny_pure h⟩))) htake)
    | exact wpAny_bind (wpAny_bind (m := Builtin.Tuple.tupleExact _) (wpAny_newObj_type (wpAny_pure (wpAny_pure ⟨_, rfl, wpAny_pure h⟩)) htake))
    | exact wpAny_bind (wpAny_bind (m := Builtin.Tuple.tupleExact _) (wpAny_newObj_type (wpAny_pure ⟨_, rfl, wpAny_pure h⟩) htake))
end
section
variable {X : Cx} {E : XK}
/-- x[::-1] (hi left out), x[:0:-1], x a tuple -/
theorem d_back {a : Expr} {m : EM} {hi : Option Expr} {ho : Option Int} {kk : Nat} {p1 p2 p3 pos : Pos} (hh : ho = none ∨ ho = some 0) (hp : PO X hi (fun _ H Q => Q ho H)) (ha : PE X a (rdE X.K X.mg E m)) :
    PE X (.Subscript a (.Slice none hi (some (.UnaryOp .USub (.Constant (.int 1) kk p1) p2)) p3) pos) (rdE X.K X.mg E (eUn (backT (backD ho)) m)) := by
  refine ⟨fun pins s σ H Q I q => ?_⟩
  obtain ⟨c, ow, e, F, k, ok, po⟩ := q
  refine Subscript_ (thn (ha.run pins s σ H (fun v H1 => ∃ F1 k1 d, Gd X.K ⟨F, H, c.da⟩ F1 H1 k1 ∧ Rp X.K F1 v d ∧ PostR X.K X.mg E c (Res.of (backT (backD ho) d) k1) (GoodE X.K c.da F H Q)) I ⟨c, ow, e, F, k, ok, (PostR.bind po).mono fun d k1 p1 v F1 H1 s1 r1 => ⟨F1, k1, d, s1, r1, p1⟩⟩) fun v s1 ⟨x, H1, I1, r1, F1, k1, d, st1, rd, po1⟩ => ?_)
  obtain ⟨d2, hd, g⟩ := PostR.of po1
  unfold backT at hd
  split at hd
  · cases hd
    cases rd with
    | tup hs rs =>
      rename_i a' xs
      cases r1
      have hst : PO X (some (.UnaryOp .USub (.Constant (.int 1) kk p1) p2)) (tPart (tUn (rU fun i => .int (-i)) (tC (.int 1)))) := po_some (pe_un un_neg pe_int)
      refine wpAny_Slice (thn (po_none.run pins s1 σ H1 (fun o H2 => o = none ∧ H2 = H1) I1 ⟨rfl, rfl⟩) fun vl s2 ⟨l, H2, I2, pl, el, e2⟩ => ?_)
      subst el e2
      refine thn (hp.run pins s2 σ H2 (fun o H3 => o = ho ∧ H3 = H2) I2 ⟨rfl, rfl⟩) fun vu s3 ⟨u, H3, I3, pu, eu, e3⟩ => ?_
      subst eu e3
      refine thn (hst.run pins s3 σ H3 (fun o H4 => o = some (-1) ∧ H4 = H3) I3 ⟨1, rfl, -1, rfl, rfl, rfl⟩) fun vs s4 ⟨o, H4, I4, ps, eo, e4⟩ => ?_
      subst eo e4
      have I5 : Inv X pins σ H4 { s4 with heap := s4.heap.push { cls := .type "slice", data := .fields #[vl, vu, vs] } } := I4.kept (t' := s4.toks) fun b ob q => Heap.get?_push_of_some _ q
      obtain ⟨its, r, ht, hz⟩ := I5.tuple (.inl (.inl (st1.le _ _ hs)))
      cases pl
      cases ps
      rename_i tk
      show wpAny (model X.prog X.w) X.A (subscriptTail a (.Slice none hi (some (.UnaryOp .USub (.Constant (.int 1) kk p1) p2)) p3) (.ref a') (.ref s4.heap.objs.size)) (EP X pins σ Q) X.xe _
      refine tail_any (ops := [.ref a', .ref s4.heap.objs.size]) ht.typeIs PyProof.Rows.slot_tuple_getitem.lookup ?_ (by with_unfolding_all rfl)
      refine getItem_tuple_back hh ht (Heap.IsSliceOf.new _ _ _ _) pu (by rw [List.size_toArray, ← r.length]; exact hz) ?_
      have nw := new_tup st1 ((rs.drop (backD u)).reverse) g _ (I5.hok.fresh (Nat.le_refl _))
      refine ⟨.ref _, _, I5.laid (t' := s4.toks) (o := .tup (xs.drop (backD u)).reverse) (fun b ob q => Heap.get?_push_of_some _ q) (Nat.le_refl _) ?_, rfl, nw⟩
      refine ⟨?_, _, (r.drop (backD u)).reverse, IsTup.new _ _⟩
      rw [List.length_reverse, List.length_drop]
      omega
  · cases hd
end
end Z
/-! Z, further words; where a def stands; the law's deck and the law itself. -/
namespace Z
open PySem PySem.Spec PyProof.Rows L2
section
variable {X : Cx} {E : XK}
theorem pts_wk {es : List Expr} {t t' : TT} (h : PTs X es t) (i : ∀ σ H Q, t' σ H Q → t σ H Q) : PTs X es t' := ⟨fun pins s σ H Q I q => h.run pins s σ H Q I (i _ _ _ q)⟩
theorem t_yes : PTs X [] (rdT X.K X.mg E Z.tYes) := pts_wk pts_nil fun σ H Q q => by
  obtain ⟨c, ow, e, F, k, ok, po⟩ := q
  exact po F H ok.gd.start
theorem t_if1 {a : Expr} {m : TM} (h : PT X a (rdT X.K X.mg E m)) : PTs X [a] (rdT X.K X.mg E m) := pts_one h
theorem t_cmp {op : CmpOp} {f : D → D → Option D} {a b : Expr} {ma mb : EM} {pos : Pos} (ho : OpR X (compareOp op) (rO X.K f)) (ha : PE X a (rdE X.K X.mg E ma)) (hb : PE X b (rdE X.K X.mg E mb)) (hm : behindInMarks op b = false) : PT X (.Compare a [op] [b] pos) (rdT X.K X.mg E (tE (eOp f ma mb))) :=
  pt_wk (pt_cmpR ho ha hb hm) fun σ H Q q => by
    obtain ⟨c, ow, e, F, k, ok, po⟩ := q
    have q2 : rdE X.K X.mg E (eOp f ma mb) σ H (fun x H' => ∃ k, x = .bl k ∧ Q k H') := ⟨c, ow, e, F, k, ok, (PostR.bind po).mono fun d k1 p1 v F1 H1 s1 r1 => by
      obtain ⟨b, hb, g⟩ := PostR.of p1
      unfold trD at hb
      split at hb
      · cases hb
        cases r1
        exact ⟨_, rfl, g F1 H1 s1⟩
      · cases hb⟩
    exact rdE_bind q2 fun _ _ _ z => z
theorem s_set {i : Nat} {st : Stmt} {m : EM} (h : PS X st (tAsg (rdE X.K X.mg E m) (gName i))) : PS X st (rdS X.K X.mg E (sAsg (gN i) m)) := ps_wk h fun D σ H q => by
  obtain ⟨c, ow, e, F, k, ok, po⟩ := q
  refine ⟨c, ow, e, F, k, ok, (PostR.bind po).mono fun d k1 p1 v F1 H1 s1 r1 => ?_⟩
  obtain ⟨e1, he, g1⟩ := PostR.of (PostR.bind p1)
  unfold gN at he
  split at he
  · rename_i hi
    cases he
    exact g1 _ _ F1 H1 s1.f0 ((ok.into s1).put hi r1)
  · cases he
theorem d_rev {a : Expr} {m : EM} {kk : Nat} {p1 p2 p3 pos : Pos} (ha : PE X a (rdE X.K X.mg E m)) : PE X (.Subscript a (.Slice none none (some (.UnaryOp .USub (.Constant (.int 1) kk p1) p2)) p3) pos) (rdE X.K X.mg E (eUn (backT 0) m)) :=
  d_back (ho := none) (.inl rfl) po_none ha
theorem d_rev0 {a : Expr} {m : EM} {k0 kk : Nat} {p0 p1 p2 p3 pos : Pos} (ha : PE X a (rdE X.K X.mg E m)) : PE X (.Subscript a (.Slice none (some (.Constant (.int 0) k0 p0)) (some (.UnaryOp .USub (.Constant (.int 1) kk p1) p2)) p3) pos) (rdE X.K X.mg E (eUn (backT 1) m)) :=
  d_back (ho := some 0) (.inr rfl) (po_wk (po_some pe_int) fun _ _ _ q => ⟨0, rfl, q⟩) ha
end
/-- where a def stands -/
structure DefAt (K : PySem.W.Frag) (mg : Str → Option Value) (x : Str) (st : Stmt) (ps : List Str) where
  f : Addr
  fd : FuncData
  fu : Fun K x x st f fd
  at_ : mg x = some (.ref f)
  b : Binds K fd ps []
theorem d_rev_T : True := trivial
/-! ### the law -/
/-- the deck as it is made -/
def mkDk (ns : List Int) : Dk := { cells := ns, gs := (ns.filter fun i => decide ((10 : Int) ^ 18 ≤ if i < 0 then -i else i)).map fun i => if i < 0 then -i else i, i := 0, n := 0 }
/-- _law_deck's promise: a deck that nothing else knows -/
def spDeck (K : PySem.W.Frag) : Sp := fun vs H Q _ => ∃ (a : Addr) (ns : List Int), vs = [.ref a] ∧ SqL K H a (ns.map V.int) ∧ ns.length ≤ 63 ∧
  ∀ (q : DA) H', H' q.a = some (.lst [.ref q.c, .ref q.g, .int 0, .int 0]) → H' q.g = some (.lst ((mkDk ns).gs.map V.int)) → H' q.c = some (.lst (ns.map V.int)) → q.a ≠ q.g → q.a ≠ q.c → q.g ≠ q.c → Q (.ref q.a) H'
def spLaw (K : PySem.W.Frag) : Sp := fun vs H Q _ => ∃ (a : Addr) (ns : List Int), vs = [.ref a] ∧ SqL K H a (ns.map V.int) ∧ ns.length ≤ 63 ∧ ∀ H', Q (.bl true) H'
section
variable {X : Cx} {E : XK}
/-- the law's body: deck = _law_deck(script), then the rest -/
theorem law_run {K : PySem.W.Frag} {mg : Str → Option Value} {m : SM} {n : Nat} {a : Addr} {ns : List Int} {H : Hp} {Q : VK} {N : List Str} (hN : N.length = n + 2) (hS : SqL K H a (ns.map V.int)) (hl : ns.length ≤ 63) (hQ : ∀ H', Q (.bl true) H')
    (hm : ∃ k', m (.un :: .dk :: List.replicate n .un) (mkDk ns) = .ok (.rt (.bool true)) k') :
    tSeq (tAsg (tCall (spDeck K) [] E0 (tCons (tVar 0) tNil)) (gName 1)) (rdS K mg E0 m) { nx := fun _ H' => Q .non H', rt := Q } (L2.start N [.ref a]) H := by
  refine ⟨.ref a, rfl, a, ns, rfl, hS, hl, fun q H' h1 h2 h3 h4 h5 h6 => ?_⟩
  obtain ⟨k', hm⟩ := hm
  let F : Hp := fun b => if b = q.c then some (.lst (ns.map V.int)) else none
  have hF : ∀ b o, F b = some o → b = q.c ∧ o = .lst (ns.map V.int) := fun b o h => by
    show b = q.c ∧ _
    unfold F at h
    split at h
    · cases h; exact ⟨by assumption, rfl⟩
    · cases h
  have hst : (L2.start N [.ref a]).set 1 (some (.ref q.a)) = some (.ref a) :: some (.ref q.a) :: List.replicate n none := by
    unfold L2.start
    rw [hN]
    rfl
  refine ⟨⟨fun _ => none, fun _ => none, some q⟩, fun _ => [], .un :: .dk :: List.replicate n .un, F, mkDk ns, ⟨⟨fun b o h => ?_, fun q' hq => ?_, fun b o h => ?_, fun b o h => ?_, fun b o h => .inr rfl⟩, ?_, fun i s hs => ?_, fun _ _ _ h => ?_, fun _ _ => rfl⟩, ?_⟩
  · obtain ⟨rfl, rfl⟩ := hF b o h
    exact h3
  · cases hq
    exact ⟨h1, h2, by show F q.c = _; unfold F; rw [if_pos rfl]; rfl, by show F q.a = none; unfold F; rw [if_neg h5], by show F q.g = none; unfold F; rw [if_neg h6], h4⟩
  · cases h
  · cases h
  · rw [hst]
    simp
  · rw [hst]
    match i with
    | 0 => cases hs; rfl
    | 1 => cases hs; exact ⟨rfl, q, rfl, rfl⟩
    | i + 2 =>
      have hs' : (List.replicate n SV.un)[i]? = some s := hs
      rw [List.getElem?_replicate] at hs'
      split at hs'
      · cases hs'; rfl
      · cases hs'
  · cases h
  · rw [hm]
    intro v F' H2 _ _ r
    cases r
    exact hQ H2
theorem cut63 {α : Type} (xs : List V) (h : xs.length ≤ 63) : cutV xs none (some 63) = xs := by
  unfold cutV
  have e1 : HT.sIx xs.length 0 none = 0 := HT.sIx_none _ _
  have e2 : HT.sIx xs.length xs.length (some 63) = xs.length := by
    have := HT.sIx_nat xs.length xs.length 63
    have e : (some ((63 : Nat) : Int)) = some (63 : Int) := rfl
    rw [e] at this
    rw [this]
    omega
  rw [e1, e2]
  simp
/-- the reading of _law_deck's body -/
theorem deck_run {K : PySem.W.Frag} {mg : Str → Option Value} {m : NM} {a : Addr} {ns : List Int} {H : Hp} {Q : VK} (hS : SqL K H a (ns.map V.int)) (hl : ns.length ≤ 63)
    (q : ∀ (q : DA) H', H' q.a = some (.lst [.ref q.c, .ref q.g, .int 0, .int 0]) → H' q.g = some (.lst ((mkDk ns).gs.map V.int)) → H' q.c = some (.lst (ns.map V.int)) → q.a ≠ q.g → q.a ≠ q.c → q.g ≠ q.c → Q (.ref q.a) H')
    (hm : ∀ k, m [.un, .dat (.list (ns.map PyData.int)), .un] k = .ok ((mkDk ns).gs.map PyData.int) k) :
    tSeq (tAsg (tCB (fun xs H Q => ∃ p ys, xs = [.ref p] ∧ (SqL K H p ys ∨ SqT K H p ys) ∧ ∀ l, H l = none → Q (.ref l) (upd H l (.lst ys))) (tCons (tSl (rSlL K) (tVar 0) tNoPart (tPart (tC (.int 63)))) tNil)) (gName 1))
      (tRet (tLst (tCons (tVar 1) (tCons (rdL K mg E0 m) (tCons (tC (.int 0)) (tCons (tC (.int 0)) tNil)))))) { nx := fun _ H' => Q .non H', rt := Q } [some (.ref a), none, none] H := by
  refine ⟨.ref a, rfl, 63, rfl, a, _, rfl, hS, fun p1 hp1 => ⟨p1, _, rfl, .inl (.inl (.inl upd_same)), fun c hc => ?_⟩⟩
  rw [cut63 (α := V) _ (by rw [List.length_map]; exact hl)] at hc ⊢
  have hcp : c ≠ p1 := fun z => by rw [z, upd_same] at hc; cases hc
  let F : Hp := fun b => if b = c then some (.lst (ns.map V.int)) else none
  have hF : ∀ b o, F b = some o → b = c ∧ o = .lst (ns.map V.int) := fun b o h => by
    unfold F at h
    split at h
    · cases h; exact ⟨by assumption, rfl⟩
    · cases h
  refine ⟨.ref c, rfl, ⟨fun _ => none, fun _ => none, none⟩, fun _ => [], [.un, .dat (.list (ns.map PyData.int)), .un], F, mkDk ns, ⟨⟨fun b o h => ?_, fun q' hq => ?_, fun b o h => ?_, fun b o h => ?_, fun b o h => .inr rfl⟩, rfl, fun i s hs => ?_, fun _ _ _ h => ?_, fun _ _ => rfl⟩, ?_⟩
  · obtain ⟨rfl, rfl⟩ := hF b o h
    exact upd_same
  · cases hq
  · cases h
  · cases h
  · match i with
    | 0 => cases hs; rfl
    | 1 => cases hs; exact ⟨rfl, .ref c, rfl, .lst (by show F c = _; unfold F; rw [if_pos rfl]) (Rps.of_ints _)⟩
    | 2 => cases hs; rfl
    | i + 3 => cases hs
  · cases h
  · rw [hm]
    intro g vs F' H3 s3 hg hFg h3 r3
    have e3 := r3.ints
    subst e3
    have c3 : H3 c = some (.lst (ns.map V.int)) := s3.pres c _ upd_same fun ⟨_, z, _⟩ => by cases z
    have gc : g ≠ c := fun z => by
      have hg' : upd (upd H p1 (.lst (ns.map V.int))) c (.lst (ns.map V.int)) g = none := hg
      rw [z, upd_same] at hg'; cases hg'
    refine ⟨by show 4 ≤ sizeLine; decide, fun d hd => ?_⟩
    have dc : d ≠ c := fun z => by rw [z, c3] at hd; cases hd
    have dg : d ≠ g := fun z => by rw [z, h3] at hd; cases hd
    exact q ⟨d, c, g⟩ _ upd_same (by rw [upd_ne (show g ≠ d from fun z => dg z.symm)]; exact h3) (by rw [upd_ne (show c ≠ d from fun z => dc z.symm)]; exact c3) dg dc gc
end
end Z
/-! Z, a dict of lists that a frame fills. -/
namespace Z
open PySem PySem.Spec PyProof.Rows L2
section
variable {X : Cx}
/-- d.setdefault(k, x), d a dict whose keys are tuples -/
def rSetdT : V → List V → Hp → VK → Prop := fun x xs H Q => ∃ (a : Addr) (kvs : List (List L2.Key × V)) (k : List L2.Key) (b : Addr) (d : V), x = .ref a ∧ xs = [.ref b, d] ∧ H a = some (.dT kvs) ∧ H b = some (.tup (k.map kV)) ∧ kvs.length < sizeLine ∧
  (∀ v, valV kvs k = some v → Q v H) ∧ (valV kvs k = none → Q d (upd H a (.dT (putK kvs k d))))
theorem mt_setdT (hu : X.A.units + 1 < cLine) : MtR X "dict.setdefault" rSetdT := by
  intro pins s σ H x xs v us Q I rx rxs h
  obtain ⟨a, kvs, k, b, d, rfl, rfl, ha, hb, hlt, q1, q2⟩ := h
  cases rx
  obtain ⟨u1, u2, rfl, r1, r2⟩ := vals2 rxs
  cases r1
  obtain ⟨z, hd, xs', rel, dd⟩ := dt_of I.hok ha
  have hz : xs'.length ≤ sizeLine := by rw [← Paired.length rel]; exact z
  refine call_setdefault_heap (knd := tupleKind (mixKind X.prog X.w)) (k := k) (tupleKind_room_in1 hu) (key_of I.hok hb) hd dd (fun p hp => ?_) (fun hn h' dd' hs => ?_) hz
  · have r := rel.val k
    rw [hp] at r
    cases ev : valV kvs k with
    | none => rw [ev] at r; exact (show False from r).elim
    | some v0 =>
      rw [ev] at r
      exact ⟨v0, H, I.tok _, r, q1 v0 ev⟩
  · have r := rel.val k
    rw [hn] at r
    have ev : valV kvs k = none := by
      cases ev : valV kvs k with
      | none => rfl
      | some v0 => rw [ev] at r; exact (show False from r).elim
    obtain ⟨o, es, ep, hq, h2, h3, h4, _, h5⟩ := dd'
    have hl : (putK kvs k d).length ≤ sizeLine := by
      have e : (kvs.any fun kv => decide (kv.1 = k)) = false := by
        rw [valV_any, ev]; rfl
      unfold putK
      rw [e, if_neg (by simp), List.length_append]
      show kvs.length + 1 ≤ _
      omega
    have I2 : Inv X pins σ (upd H a (.dT (putK kvs k d))) { s with heap := h', toks := s.toks + (tupleKind (mixKind X.prog X.w)).draws k } :=
      d_write I (by rw [ha]; exact True.intro) hs ⟨o, hq⟩ ⟨hl, hd, _, (rel.put k hb r2).keeps (fun c ys ec => by rw [upd_ne (ne_of ec ha (fun z => nomatch z))]; exact ec), o, es, ep, hq, h2, h3, h4, h5⟩
    exact ⟨d, _, I2, r2, q2 ev⟩
end
section
variable {K : PySem.W.Frag} {F F' H H' : Hp}
theorem eqv_tup (a b : List Key) : PyData.eqv (.tuple (a.map kD)) (.tuple (b.map kD)) = decide (a = b) := by rw [PyData.eqv, eqv_kDs]
theorem Dil.length {kvs : List (List Key × V)} {as : List Addr} {es : List (D × List D)} (h : Dil K F H kvs as es) : kvs.length = es.length := by
  induction h with
  | nil => rfl
  | cons _ _ _ ih => rw [List.length_cons, List.length_cons, ih]
theorem Dil.found (k : List Key) {kvs : List (List Key × V)} {as : List Addr} {es : List (D × List D)} (h : Dil K F H kvs as es) (nd : as.Nodup) {v : V} (hv : valV kvs k = some v) :
    ∃ l vs ds, v = .ref l ∧ l ∈ as ∧ H l = some (.lst vs) ∧ Rps K F vs ds ∧ lookL es (.tuple (k.map kD)) = some ds ∧ (∃ p ∈ es, p.2 = ds) ∧
      ∀ F' H' vs' ds', Same F F' → (∀ a ∈ as, a ≠ l → ∀ o, H a = some o → H' a = some o) → H' l = some (.lst vs') → Rps K F' vs' ds' → Dil K F' H' kvs as (setL (.tuple (k.map kD)) ds' es) := by
  induction h with
  | nil => cases hv
  | @cons k0 a vs ds kvs as es h1 r t ih =>
    by_cases e : k0 = k
    · subst e
      rw [valV_pos (p := (k0, V.ref a)) rfl] at hv
      cases hv
      refine ⟨a, vs, ds, rfl, List.mem_cons_self, h1, r, ?_, ⟨_, List.mem_cons_self, rfl⟩, fun F' H' vs' ds' m hk hl rr => ?_⟩
      · unfold lookL
        simp [List.find?_cons, eqv_tup]
      · rw [setL, eqv_tup]
        simp only [decide_true, if_true]
        exact .cons hl rr (t.step m fun b hb o ho => hk b (List.mem_cons_of_mem _ hb) (fun z => (List.nodup_cons.mp nd).1 (z ▸ hb)) o ho)
    · have e1 : valV ((k0, V.ref a) :: kvs) k = valV kvs k := by simp [valV, List.find?_cons, e]
      rw [e1] at hv
      obtain ⟨l, vs2, ds2, rfl, hl, h2, r2, h3, ⟨p, hp, hp2⟩, h4⟩ := ih (List.nodup_cons.mp nd).2 hv
      refine ⟨l, vs2, ds2, rfl, List.mem_cons_of_mem _ hl, h2, r2, ?_, ⟨p, List.mem_cons_of_mem _ hp, hp2⟩, fun F' H' vs' ds' m hk hl' rr => ?_⟩
      · unfold lookL at h3 ⊢
        rw [List.find?_cons, eqv_tup]
        simp only [e, decide_false]
        exact h3
      · rw [setL, eqv_tup]
        simp only [e, decide_false]
        exact .cons (hk a List.mem_cons_self (fun z => (List.nodup_cons.mp nd).1 (z ▸ hl)) _ h1) (r.mono m) (h4 F' H' vs' ds' m (fun b hb hn => hk b (List.mem_cons_of_mem _ hb) hn) hl' rr)
theorem Dil.missing (k : List Key) {kvs : List (List Key × V)} {as : List Addr} {es : List (D × List D)} (h : Dil K F H kvs as es) (hv : valV kvs k = none) :
    lookL es (.tuple (k.map kD)) = none ∧ ∀ v, putK kvs k v = kvs ++ [(k, v)] := by
  refine ⟨?_, fun v => ?_⟩
  · induction h with
    | nil => rfl
    | @cons k0 a vs ds kvs as es h1 r t ih =>
      by_cases e : k0 = k
      · rw [valV_pos (p := (k0, V.ref a)) e] at hv; cases hv
      · have e1 : valV ((k0, V.ref a) :: kvs) k = valV kvs k := by simp [valV, List.find?_cons, e]
        rw [e1] at hv
        have h3 := ih hv
        unfold lookL at h3 ⊢
        rw [List.find?_cons, eqv_tup]
        simp only [e, decide_false]
        exact h3
  · unfold putK
    rw [valV_any, hv]
    rfl
theorem Dil.snoc {kvs : List (List Key × V)} {as : List Addr} {es : List (D × List D)} (h : Dil K F H kvs as es) {k : List Key} {a : Addr} {vs : List V} {ds : List D} (h1 : H a = some (.lst vs)) (r : Rps K F vs ds) :
    Dil K F H (kvs ++ [(k, .ref a)]) (as ++ [a]) (es ++ [(.tuple (k.map kD), ds)]) := by
  induction h with
  | nil => exact .cons h1 r .nil
  | cons h2 r2 _ ih => exact .cons h2 r2 ih
end
section
variable {X : Cx} {E : XK}
theorem slot_dil {K : PySem.W.Frag} {c : Zc} {ow : Nat → List Addr} {σ : L2.St} {e : Env} {F H : Hp} {k : Dk} {i : Nat} {es : List (D × List D)} (o : Okay K c ow σ e F H k) (h : e[i]? = some (.dil es)) :
    ∃ p kvs as, ow i = p :: as ∧ (p :: as).Nodup ∧ σ[i]? = some (some (.ref p)) ∧ H p = some (.dT kvs) ∧ Dil K F H kvs as es ∧ ∀ q ∈ p :: as, OwnA c F q := o.sl.at_ i _ h
/-- what is made and not known goes to a slot that has its own already -/
theorem Okay.more {K : PySem.W.Frag} {c : Zc} {ow : Nat → List Addr} {σ : L2.St} {e : Env} {F H : Hp} {k : Dk} (s : Okay K c ow σ e F H k) {i : Nat} (hi : i < e.length) {sv : SV} {nw : List Addr} (hn : ∀ q ∈ nw, ∀ j, j ≠ i → q ∉ ow j)
    (h : SlotOk K c F H nw σ[i]? sv) : Okay K c (clr ow i nw) σ (e.set i sv) F H k := by
  refine ⟨s.gd, by rw [List.length_set]; exact s.sl.len, fun j t q => ?_, fun a b x q1 q2 => ?_, fun j hj => ?_⟩
  · unfold clr
    by_cases z : j = i
    · subst z
      rw [List.getElem?_set_self hi] at q
      cases q
      rw [if_pos rfl]
      exact h
    · rw [List.getElem?_set_ne (fun w => z w.symm)] at q
      rw [if_neg z]
      exact s.sl.at_ j t q
  · unfold clr at q1 q2
    by_cases z1 : a = i
    · by_cases z2 : b = i
      · rw [z1, z2]
      · rw [if_pos z1] at q1; rw [if_neg z2] at q2
        exact (hn x q1 b z2 q2).elim
    · by_cases z2 : b = i
      · rw [if_neg z1] at q1; rw [if_pos z2] at q2
        exact (hn x q2 a z1 q1).elim
      · rw [if_neg z1] at q1; rw [if_neg z2] at q2
        exact s.sl.inj a b x q1 q2
  · unfold clr
    rw [List.length_set] at hj
    rw [if_neg (by omega)]
    exact s.sl.out j hj
/-- what is made and in no slot may change -/
theorem Okay.mutX {K : PySem.W.Frag} {c : Zc} {ow : Nat → List Addr} {σ : L2.St} {e : Env} {F H : Hp} {k : Dk} {p : Addr} (o : HO) (s : Okay K c ow σ e F H k) (w : OwnA c F p) (hn : ∀ i, p ∉ ow i) : Okay K c ow σ e F (upd H p o) k :=
  ⟨s.gd.mutX o w, s.sl.len, fun i v q => (s.sl.at_ i v q).step (Same.refl _) (fun a ha x h _ => by rw [upd_ne (show a ≠ p from fun z => hn i (z ▸ ha))]; exact h) fun _ _ _ h => h, s.sl.inj, s.sl.out⟩
/-- a slot's own is let go -/
theorem Okay.drop {K : PySem.W.Frag} {c : Zc} {ow : Nat → List Addr} {σ : L2.St} {e : Env} {F H : Hp} {k : Dk} (s : Okay K c ow σ e F H k) {i : Nat} (hi : i < e.length) : Okay K c (clr ow i []) σ (e.set i .un) F H k :=
  s.more hi (fun q hq => by cases hq) rfl
theorem Okay.skip {K : PySem.W.Frag} {c : Zc} {ow : Nat → List Addr} {σ : L2.St} {e : Env} {F H : Hp} {k : Dk} (s : Okay K c ow σ e F H k) {j : Nat} (hj : j < e.length) (v : Option V) : Okay K c (clr ow j []) (σ.set j v) (e.set j .un) F H k :=
  ⟨s.gd, s.sl.put hj rfl fun q hq => by cases hq⟩
theorem clr_self {ow : Nat → List Addr} {i : Nat} {l : List Addr} : clr ow i l i = l := by unfold clr; rw [if_pos rfl]
theorem clr_ne {ow : Nat → List Addr} {i j : Nat} {l : List Addr} (h : j ≠ i) : clr ow i l j = ow j := by unfold clr; rw [if_neg h]
/-- if t not in x: x.append(t), x the list at l, kept by slot i's dict -/
theorem add_tail {c : Zc} {σ : L2.St} {F H : Hp} {k : Dk} {D : Ends} {l : Addr} {vs : List V} {ds : List Z.D} {v : V} {d : Z.D} {j t : Nat}
    (g : Gd X.K c F H k) (hl : H l = some (.lst vs)) (w : OwnA c F l) (r : Rps X.K F vs ds) (rv : Rp X.K F v d) (hd : dOk d = true) (hds : dOks ds = true) (hlen : ds.length < sizeLine) (hj : σ[j]? = some (some (.ref l))) (ht : σ[t]? = some (some v))
    (q1 : ∀ F' H', Gd X.K ⟨F, H, c.da⟩ F' H' k → ds.any (fun y => PyData.eqv y d) = true → D.nx σ H') (q2 : ∀ F' H', Gd X.K ⟨F, H, c.da⟩ F' H' k → ds.any (fun y => PyData.eqv y d) = false → D.nx σ (upd H' l (.lst (vs ++ [v])))) :
    tIfS (tTest (tOp (rO X.K niD) (tVar t) (tVar j))) (tDrop (tBM X.K "list" rAppend (tVar j) (tCons (tVar t) tNil))) tNext D σ H := by
  have gl : Gd X.K c (upd F l (.lst vs)) H k := g.frz hl w
  have e : niD d (.list ds) = some (.bool (!ds.any fun y => PyData.eqv y d)) := by
    unfold niD memD
    simp only [hd, hds, Bool.and_self, if_true, Option.map_some]
  refine ⟨v, ht, _, hj, c.da, _, k, d, .list ds, _, gl.start, rv.mono (same_new w.1), .lst upd_same (r.mono (same_new w.1)), e, fun z F1 H1 s1 rz => ?_⟩
  cases rz
  obtain ⟨s2, h2⟩ := g.start.lent w.1 s1
  have hl1 : H1 l = some (.lst vs) := s1.pres _ _ hl w.2.2
  refine ⟨_, rfl, ?_⟩
  cases hb : ds.any (fun y => PyData.eqv y d) with
  | true => exact q1 _ H1 s2 hb
  | false => exact ⟨_, hj, .inl ⟨rfl, _, .inl (.inl hl1)⟩, v, ht, l, vs, v, rfl, rfl, hl1, by rw [r.length]; exact hlen, q2 _ H1 s2 hb⟩
/-- x = d.setdefault(key, []); if t not in x: x.append(t) -/
theorem s_addTo {i j t : Nat} {st1 st2 : Stmt} {rest : List Stmt} {m : EM} {u : SM}
    (h1 : PS X st1 (tAsg (tBM X.K "dict" rSetdT (tVar i) (tCons (rdE X.K X.mg E m) (tCons (tLst tNil) tNil))) (gName j)))
    (h2 : PS X st2 (tIfS (tTest (tOp (rO X.K niD) (tVar t) (tVar j))) (tDrop (tBM X.K "list" rAppend (tVar j) (tCons (tVar t) tNil))) tNext)) (h3 : PSs X rest (rdS X.K X.mg E u)) : PSs X (st1 :: st2 :: rest) (rdS X.K X.mg E (sSeq (sAddTo i j t m) u)) :=
  pss_wk (pss_cons h1 (pss_cons h2 h3)) fun D σ H q => by
  obtain ⟨c, ow, e, F, k, ok, po⟩ := q
  have po := PostR.bind po
  unfold sAddTo at po
  split at po
  · rename_i es he
    obtain ⟨p, kvs, as, w1, w2, w3, w4, dd, oo⟩ := slot_dil ok he
    refine ⟨_, w3, .inr (.inr (.inl ⟨rfl, .inr ⟨_, w4⟩⟩)), c, ow, e, F, k, ok, (PostR.bind po).mono fun y k1 p1 vy F1 H1 s1 r1 => ?_⟩
    have ok1 := ok.into s1
    have w5 : H1 p = some (.dT kvs) := s1.pres _ _ w4 (oo p List.mem_cons_self).2.2
    have dd1 : Dil X.K F1 H1 kvs as es := dd.step s1.f0 fun a ha o h => s1.pres _ _ h (oo a (List.mem_cons_of_mem _ ha)).2.2
    have oo1 : ∀ q ∈ p :: as, OwnA c F1 q := fun q hq => (ok1.sl.own (i := i) (by rw [w1]; exact hq)).2
    split at p1
    · rename_i d hd
      split at p1
      · rename_i hc
        simp only [Bool.and_eq_true, decide_eq_true_eq, List.all_eq_true] at hc
        obtain ⟨⟨⟨⟨⟨hk, hd1⟩, hes⟩, hz⟩, hjl⟩, hji, hjt⟩ := hc
        have p2 : PostR X.K X.mg E c (u ((e.set i (.dil (addTo es y d))).set j .un) k1) (GoodS X.K c F D) := p1
        -- the key
        obtain ⟨key, hkey⟩ : ∃ key : List Key, y = .tuple (key.map kD) := by
          cases y with
          | tuple kk =>
            obtain ⟨key, rfl⟩ := flatKs_of (show kk.all flatK = true from hk)
            exact ⟨key, rfl⟩
          | _ => cases hk
        subst hkey
        cases r1 with
        | tup hb rb =>
          rename_i b xs
          rw [rb.kDs] at hb
          refine ⟨Nat.zero_le _, fun l hl => ?_⟩
          have inI : ∀ q ∈ p :: as, q ∈ ow i := fun q hq => by rw [w1]; exact hq
          have nl : ∀ q ∈ p :: as, q ≠ l := fun q hq z => (ok1.sl.own (inI q hq)).1 (z ▸ hl)
          have hlen : σ.length = e.length := ok.sl.len
          have hiL : i < e.length := (List.getElem?_eq_some_iff.mp he).1
          obtain ⟨_, v, hvt, rvt⟩ := ok1.sl.at_ t _ hd
          have okU : Okay X.K c (clr ow i []) σ (e.set i .un) F1 (upd H1 l (.lst [])) k1 := (ok1.drop hiL).newH _ hl
          have notU : ∀ q ∈ p :: as, ∀ x, q ∉ clr ow i [] x := fun q hq x hx => by
            by_cases z : x = i
            · subst z; rw [clr_self] at hx; cases hx
            · rw [clr_ne z] at hx; exact z (ok1.sl.inj x i q hx (inI q hq))
          have lU : ∀ x, l ∉ clr ow i [] x := fun x hx => ((ok1.drop hiL).sl.own hx).1 hl
          have ndl : ¬ isDk c.da l := ok1.gd.dk.not_new hl
          have lOwn : OwnA c F1 l := fresh0 ok1.gd hl
          have p5 : upd H1 l (.lst []) p = some (.dT kvs) := by rw [upd_ne (nl p List.mem_cons_self)]; exact w5
          have stT : ∀ w, (σ.set j (some w))[t]? = some (some v) := fun w => by rw [List.getElem?_set_ne (Ne.symm (Ne.symm hjt))]; exact hvt
          have stJ : ∀ w : V, (σ.set j (some w))[j]? = some (some w) := fun w => List.getElem?_set_self (by rw [hlen]; exact hjl)
          have stI : ∀ w : V, (σ.set j (some w))[i]? = some (some (.ref p)) := fun w => by rw [List.getElem?_set_ne hji]; exact w3
          -- the end: slots i and j as they are told
          have fin : ∀ (w : V) (F2 H2 : Hp) (nw : List Addr) (es2 : List (Z.D × List Z.D)), Okay X.K c (clr ow i []) σ (e.set i .un) F2 H2 k1 → (∀ q ∈ nw, ∀ x, q ∉ clr ow i [] x) → SlotOk X.K c F2 H2 nw (some (some (.ref p))) (.dil es2) → es2 = addTo es (.tuple (key.map kD)) d → Same F1 F2 →
              rdS X.K X.mg E u D (σ.set j (some w)) H2 := fun w F2 H2 nw es2 okE hnw hsl hes2 m12 => by
            have o1 := okE.skip (j := j) (by rw [List.length_set]; exact hjl) (some w)
            have o2 := o1.more (i := i) (by rw [List.length_set, List.length_set]; exact hiL) (sv := .dil es2) (nw := nw) (fun q hq x hx hm => by
              by_cases z : x = j
              · subst z; rw [clr_self] at hm; cases hm
              · rw [clr_ne z] at hm; exact hnw q hq x hm) (by rw [stI]; exact hsl)
            refine ⟨c, _, _, F2, k1, o2, ?_⟩
            have ee : ((e.set i .un).set j .un).set i (.dil es2) = (e.set i (.dil (addTo es (.tuple (key.map kD)) d))).set j .un := by
              rw [hes2, List.set_comm _ _ hji, List.set_set]
            rw [ee]
            exact PostR.wkS p2 (s1.f0.trans m12)
          refine ⟨p, kvs, key, b, .ref l, rfl, rfl, p5, ?_, by rw [dd1.length]; exact hz, fun v0 hv0 => ?_, fun hv0 => ?_⟩
          · rw [upd_ne (show b ≠ l from fun z => by rw [← z, s1.le _ _ hb] at hl; cases hl)]
            exact s1.le _ _ hb
          · obtain ⟨l0, vs0, ds0, rfl, hl0, hh0, rr0, hlook, ⟨pp, hpp, hpe⟩, hset⟩ := dd1.found key (List.nodup_cons.mp w2).2 hv0
            have hin := List.mem_cons_of_mem p hl0
            have hadd : addTo es (.tuple (key.map kD)) d = setL (.tuple (key.map kD)) (addIn ds0 d) es := by unfold addTo; rw [hlook]
            have hdsz := hes pp hpp
            rw [hpe] at hdsz
            have p0 : p ≠ l0 := fun z => (List.nodup_cons.mp w2).1 (z ▸ hl0)
            have up : ∀ q ∈ p :: as, ∀ o, H1 q = some o → upd H1 l (.lst []) q = some o := fun q hq o h => by rw [upd_ne (nl q hq)]; exact h
            have own2 : ∀ F' H', Gd X.K ⟨F1, upd H1 l (.lst []), c.da⟩ F' H' k1 → ∀ q ∈ p :: as, OwnA c F' q := fun F' H' g' q hq => by
              obtain ⟨x1, x2, x3⟩ := oo1 q hq
              refine ⟨g'.stay x1 ?_, x2, x3⟩
              rw [upd_ne (nl q hq)]
              exact (ok1.sl.own (inI q hq)).1
            refine add_tail (ds := ds0) okU.gd (up l0 hin _ hh0) (oo1 l0 hin) rr0 rvt hd1 hdsz.1 hdsz.2 (stJ _) (stT _) (fun F' H' g' hany => ?_) (fun F' H' g' hany => ?_)
            · refine fin _ F' H' (p :: as) _ (okU.into g') notU ⟨p, kvs, as, rfl, w2, rfl, g'.pres _ _ p5 (oo1 p List.mem_cons_self).2.2, hset F' H' vs0 (addIn ds0 d) g'.f0 (fun a ha hne o ho => ?_) (g'.pres _ _ (up l0 hin _ hh0) (oo1 l0 hin).2.2) ?_, own2 F' H' g'⟩ hadd.symm g'.f0
              · exact g'.pres _ _ (up a (List.mem_cons_of_mem _ ha) _ ho) (oo1 a (List.mem_cons_of_mem _ ha)).2.2
              · unfold addIn; rw [hany]; exact rr0.mono g'.f0
            · refine fin _ F' _ (p :: as) _ ((okU.into g').mutX _ (own2 F' H' g' l0 hin) (notU l0 hin)) notU ⟨p, kvs, as, rfl, w2, rfl, ?_, hset F' _ (vs0 ++ [v]) (addIn ds0 d) g'.f0 (fun a ha hne o ho => ?_) upd_same ?_, own2 F' H' g'⟩ hadd.symm g'.f0
              · rw [upd_ne p0]
                exact g'.pres _ _ p5 (oo1 p List.mem_cons_self).2.2
              · rw [upd_ne hne]
                exact g'.pres _ _ (up a (List.mem_cons_of_mem _ ha) _ ho) (oo1 a (List.mem_cons_of_mem _ ha)).2.2
              · unfold addIn; rw [hany]; exact (rr0.mono g'.f0).snoc (rvt.mono g'.f0)
          · obtain ⟨hlook, hput⟩ := dd1.missing key hv0
            have hadd : addTo es (.tuple (key.map kD)) d = es ++ [(.tuple (key.map kD), [d])] := by unfold addTo; rw [hlook]
            have pl : l ≠ p := fun z => nl p List.mem_cons_self z.symm
            have okM := okU.mutX (.dT (kvs ++ [(key, .ref l)])) (oo1 p List.mem_cons_self) (notU p List.mem_cons_self)
            rw [hput]
            refine add_tail (ds := []) (vs := []) okM.gd (by rw [upd_ne pl, upd_same]) lOwn .nil rvt hd1 rfl (by decide) (stJ _) (stT _) (fun F' H' g' hany => by cases hany) (fun F' H' g' hany => ?_)
            have hM : ∀ q ∈ p :: as, q ≠ p → ∀ o, H1 q = some o → upd (upd H1 l (.lst [])) p (.dT (kvs ++ [(key, .ref l)])) q = some o := fun q hq hne o h => by rw [upd_ne hne, upd_ne (nl q hq)]; exact h
            have own2 : ∀ q ∈ p :: (as ++ [l]), OwnA c F' q := fun q hq => by
              by_cases zp : q = p
              · subst zp
                obtain ⟨x1, x2, x3⟩ := oo1 q List.mem_cons_self
                exact ⟨g'.stay x1 (by rw [upd_same]; simp), x2, x3⟩
              · by_cases zl : q = l
                · subst zl
                  exact ⟨g'.stay lOwn.1 (by rw [upd_ne pl, upd_same]; simp), lOwn.2.1, lOwn.2.2⟩
                · have hq' : q ∈ p :: as := by
                    rcases List.mem_cons.mp hq with z | z
                    · exact (zp z).elim
                    · rcases List.mem_append.mp z with y | y
                      · exact List.mem_cons_of_mem _ y
                      · exact (zl (List.mem_singleton.mp y)).elim
                  obtain ⟨x1, x2, x3⟩ := oo1 q hq'
                  exact ⟨g'.stay x1 (by rw [upd_ne zp, upd_ne zl]; exact (ok1.sl.own (inI q hq')).1), x2, x3⟩
            have notU2 : ∀ q ∈ p :: (as ++ [l]), ∀ x, q ∉ clr ow i [] x := fun q hq => by
              rcases List.mem_cons.mp hq with z | z
              · subst z; exact notU q List.mem_cons_self
              · rcases List.mem_append.mp z with y | y
                · exact notU q (List.mem_cons_of_mem _ y)
                · rw [List.mem_singleton.mp y]; exact lU
            have ndup : (p :: (as ++ [l])).Nodup := by
              have h1 := List.nodup_cons.mp w2
              rw [List.nodup_cons, List.nodup_append]
              refine ⟨fun hm => ?_, h1.2, by simp, fun a ha b hb z => ?_⟩
              · rcases List.mem_append.mp hm with y | y
                · exact h1.1 y
                · exact pl (List.mem_singleton.mp y).symm
              · rw [List.mem_singleton.mp hb] at z
                exact nl a (List.mem_cons_of_mem _ ha) z
            refine fin _ F' _ (p :: (as ++ [l])) _ ((okM.into g').mutX _ (own2 l (by simp)) lU) notU2 ⟨p, kvs ++ [(key, .ref l)], as ++ [l], rfl, ndup, rfl, ?_, Dil.snoc (dd1.step g'.f0 fun a ha o ho => ?_) upd_same (.cons (rvt.mono g'.f0) .nil), own2⟩ hadd.symm g'.f0
            · rw [upd_ne (show p ≠ l from fun z => pl z.symm)]
              exact g'.pres _ _ upd_same (oo1 p List.mem_cons_self).2.2
            · have ha' := List.mem_cons_of_mem p ha
              have hap : a ≠ p := fun z => (List.nodup_cons.mp w2).1 (z ▸ ha)
              rw [upd_ne (nl a ha')]
              exact g'.pres _ _ (hM a ha' hap _ ho) (oo1 a ha').2.2
      · exact p1.elim
    · exact p1.elim
  · exact po.elim
theorem s_dil {i : Nat} {st : Stmt} (h : PS X st (tAsg tDNewT (gName i))) : PS X st (rdS X.K X.mg E (sDil i)) := ps_wk h fun D σ H q => by
  obtain ⟨c, ow, e, F, k, ok, po⟩ := q
  unfold sDil at po
  split at po
  · rename_i hi
    intro p hp
    have o1 := ok.newH (.dT []) hp
    refine po (clr ow i [p]) _ F _ (Same.refl _) ⟨o1.gd, o1.sl.put hi ⟨p, [], [], rfl, by simp, rfl, upd_same, .nil, fun q hq => by rw [List.mem_singleton.mp hq]; exact fresh0 ok.gd hp⟩ fun q hq x hx => ?_⟩
    rw [List.mem_singleton.mp hq] at hx
    exact (ok.sl.own hx).1 hp
  · exact po.elim
theorem frzAll {K : PySem.W.Frag} {c : Zc} {ow : Nat → List Addr} {σ : L2.St} {e : Env} {H : Hp} {k : Dk} {kvs : List (List Key × V)} {as : List Addr} {es : List (Z.D × List Z.D)} : ∀ {F : Hp}, Dil K F H kvs as es → Okay K c ow σ e F H k → as.Nodup →
    (∀ q ∈ as, OwnA c F q) → (∀ q ∈ as, ∀ x, q ∉ ow x) → ∃ F', Same F F' ∧ Okay K c ow σ e F' H k ∧ Rps K F' (kvs.map (·.2)) (es.map fun p => PyData.list p.2) ∧ ∀ q, q ∉ as → F' q = F q := by
  induction kvs generalizing as es with
  | nil =>
    intro F d ok _ _ _
    cases d
    exact ⟨F, Same.refl _, ok, .nil, fun _ _ => rfl⟩
  | cons kv kvs ih =>
    intro F d ok nd oo no
    cases d with
    | @cons key a vs ds _ as es h1 r t =>
      have hn := List.nodup_cons.mp nd
      have oa := oo a List.mem_cons_self
      have ok1 := ok.frz h1 oa (no a List.mem_cons_self)
      have m1 : Same F (upd F a (.lst vs)) := same_new oa.1
      obtain ⟨F2, m2, ok2, r2, st⟩ := ih (t.step m1 fun _ _ _ h => h) ok1 hn.2 (fun q hq => by
        obtain ⟨x1, x2, x3⟩ := oo q (List.mem_cons_of_mem _ hq)
        exact ⟨by rw [upd_ne (show q ≠ a from fun z => hn.1 (z ▸ hq))]; exact x1, x2, x3⟩) fun q hq => no q (List.mem_cons_of_mem _ hq)
      refine ⟨F2, m1.trans m2, ok2, .cons (.lst (m2 _ _ upd_same) (r.mono (m1.trans m2))) r2, fun q hq => ?_⟩
      rw [st q (fun z => hq (List.mem_cons_of_mem _ z)), upd_ne (show q ≠ a from fun z => hq (z ▸ List.mem_cons_self))]
theorem Dil.keys {K : PySem.W.Frag} {F H : Hp} {kvs : List (List Key × V)} {as : List Addr} {es : List (Z.D × List Z.D)} (h : Dil K F H kvs as es) : es.map (·.1) = kvs.map fun p => PyData.tuple (p.1.map kD) := by
  induction h with
  | nil => rfl
  | cons _ _ _ ih => rw [List.map_cons, List.map_cons, ih]
theorem zip_es : ∀ es : List (Z.D × List Z.D), (es.map fun p => (p.1, PyData.list p.2)) = (es.map (·.1)).zip (es.map fun p => PyData.list p.2)
  | [] => rfl
  | a :: es => by simp only [List.map_cons, List.zip_cons_cons, zip_es es]
theorem s_frzD {i : Nat} {st : Stmt} {m : SM} (h : PS X st (rdS X.K X.mg E m)) : PS X st (rdS X.K X.mg E (sFrzD i m)) := ps_wk h fun D σ H q => by
  obtain ⟨c, ow, e, F, k, ok, po⟩ := q
  unfold sFrzD at po
  split at po
  · rename_i es he
    obtain ⟨p, kvs, as, w1, w2, w3, w4, dd, oo⟩ := slot_dil ok he
    have hi : i < e.length := (List.getElem?_eq_some_iff.mp he).1
    have hn := List.nodup_cons.mp w2
    have notU : ∀ q ∈ p :: as, ∀ x, q ∉ clr ow i [] x := fun q hq x hx => by
      by_cases z : x = i
      · subst z; rw [clr_self] at hx; cases hx
      · rw [clr_ne z] at hx; exact z (ok.sl.inj x i q hx (by rw [w1]; exact hq))
    obtain ⟨F2, m2, ok2, r2, st⟩ := frzAll dd (ok.drop hi) hn.2 (fun q hq => oo q (List.mem_cons_of_mem _ hq)) fun q hq => notU q (List.mem_cons_of_mem _ hq)
    obtain ⟨x1, x2, x3⟩ := oo p List.mem_cons_self
    have hF2 : F2 p = none := by rw [st p hn.1]; exact x1
    have ok3 := ok2.frz w4 ⟨hF2, x2, x3⟩ (notU p List.mem_cons_self)
    have m3 : Same F2 (upd F2 p (.dT kvs)) := same_new hF2
    have rd : Rp X.K (upd F2 p (.dT kvs)) (.ref p) (.dict ((.bool false, .none) :: es.map fun p => (p.1, .list p.2))) := by
      have z : (es.map fun p => (p.1, PyData.list p.2)) = (kvs.map fun p => PyData.tuple (p.1.map kD)).zip (es.map fun p => PyData.list p.2) := by
        rw [← dd.keys]
        exact zip_es es
      rw [z]
      exact .dic (o := .dT kvs) (vs := kvs.map (·.2)) upd_same ⟨rfl, rfl, rfl⟩ (r2.mono m3)
    have o4 := ok3.more (i := i) (by rw [List.length_set]; exact hi) (sv := .dat (.dict ((.bool false, .none) :: es.map fun p => (p.1, .list p.2)))) (nw := []) (fun q hq => by cases hq) ⟨rfl, _, w3, rd⟩
    rw [List.set_set] at o4
    exact ⟨c, _, _, _, k, o4, PostR.wkS po (m2.trans m3)⟩
  · exact ⟨c, ow, e, F, k, ok, po⟩
end
end Z
/-! Z, for the plain laws: what the words give where nothing goes wrong. -/
namespace Z
open PySem
/-! ### what holds of an answer -/
structure Ok {α : Type} (r : Res α) (P : α → Dk → Prop) : Prop where
  get : ∃ a k, r = .ok a k ∧ P a k
theorem Ok.mono {α : Type} {r : Res α} {P Q : α → Dk → Prop} (h : Ok r P) (i : ∀ a k, P a k → Q a k) : Ok r Q := by
  obtain ⟨a, k, e, p⟩ := h.get
  exact ⟨a, k, e, i a k p⟩
theorem Ok.by' {α : Type} {r : Res α} {P : α → Dk → Prop} {a : α} {k : Dk} (h : r = .ok a k) (p : P a k) : Ok r P := ⟨a, k, h, p⟩
theorem Ok.yes {α : Type} {P : α → Dk → Prop} {a : α} {k : Dk} (h : P a k) : Ok (.ok a k) P := ⟨a, k, rfl, h⟩
theorem Ok.out {α : Type} {P : α → Dk → Prop} {a : α} {k : Dk} (h : Ok (.ok a k) P) : P a k := by
  obtain ⟨a, k, e, p⟩ := h.get
  cases e
  exact p
variable {α β : Type}
@[simp] theorem Ok_ok (a : α) (k : Dk) (P : α → Dk → Prop) : Ok (.ok a k) P ↔ P a k := ⟨Ok.out, Ok.yes⟩
@[simp] theorem Ok_bad (P : α → Dk → Prop) : Ok (.bad : Res α) P ↔ False := ⟨fun h => (by obtain ⟨a, k, e, p⟩ := h.get; cases e), False.elim⟩
@[simp] theorem Ok_exc (c : Str) (p : Option D) (k : Dk) (P : α → Dk → Prop) : Ok (.exc c p k : Res α) P ↔ False := ⟨fun h => (by obtain ⟨a, k, e, p⟩ := h.get; cases e), False.elim⟩
@[simp] theorem Ok_bind (r : Res α) (f : α → Dk → Res β) (P : β → Dk → Prop) : Ok (r.bind f) P ↔ Ok r fun a k => Ok (f a k) P := by cases r <;> simp
@[simp] theorem Ok_of (o : Option α) (k : Dk) (P : α → Dk → Prop) : Ok (Res.of o k) P ↔ ∃ a, o = some a ∧ P a k := by
  cases o with
  | none => simp
  | some a => simp
@[simp] theorem Ok_calm (r : Res α) (P : α → Dk → Prop) : Ok r.calm P ↔ Ok r P := by
  cases r with
  | exc c p k => exact ((Ok_bad P).trans (Ok_exc c p k P).symm)
  | _ => exact Iff.rfl
theorem Ok_if (c : Prop) [Decidable c] (a b : Res α) (P : α → Dk → Prop) : Ok (if c then a else b) P ↔ (c → Ok a P) ∧ (¬c → Ok b P) := by
  by_cases h : c <;> simp [h]
/-! ### data without truth values and dicts, of small depth -/
mutual
def simB : D → Bool
  | .none => true
  | .int _ => true
  | .str _ => true
  | .tuple ds => simBs ds
  | .list ds => simBs ds
  | .bool _ => false
  | .dict _ => false
def simBs : List D → Bool
  | [] => true
  | d :: ds => simB d && simBs ds
end
mutual
theorem simB_plain : ∀ d : D, simB d = true → d.plain = true
  | .none, _ => rfl
  | .int _, _ => rfl
  | .str _, _ => rfl
  | .tuple ds, h => simBs_plain ds h
  | .list ds, h => simBs_plain ds h
  | .bool _, h => by cases h
  | .dict _, h => by cases h
theorem simBs_plain : ∀ ds : List D, simBs ds = true → PyData.plainAll ds = true
  | [], _ => rfl
  | d :: ds, h => by
    rw [simBs, Bool.and_eq_true] at h
    rw [PyData.plainAll, simB_plain d h.1, simBs_plain ds h.2]
    rfl
end
mutual
theorem eqv_sim : ∀ x y : D, simB x = true → simB y = true → (PyData.eqv x y = true ↔ x = y)
  | .none, y, _, hy => by cases y <;> simp [PyData.eqv]
  | .int i, y, _, hy => by
    cases y with
    | bool b => cases hy
    | _ => simp [PyData.eqv]
  | .str s, y, _, hy => by cases y <;> simp [PyData.eqv]
  | .tuple xs, y, hx, hy => by
    cases y with
    | tuple ys => rw [PyData.eqv, eqvs_sim xs ys hx hy]; simp
    | _ => simp [PyData.eqv]
  | .list xs, y, hx, hy => by
    cases y with
    | list ys => rw [PyData.eqv, eqvs_sim xs ys hx hy]; simp
    | _ => simp [PyData.eqv]
  | .bool _, _, h, _ => by cases h
  | .dict _, _, h, _ => by cases h
theorem eqvs_sim : ∀ xs ys : List D, simBs xs = true → simBs ys = true → (PyData.eqvAll xs ys = true ↔ xs = ys)
  | [], ys, _, _ => by cases ys <;> simp [PyData.eqvAll]
  | x :: xs, [], _, _ => by simp [PyData.eqvAll]
  | x :: xs, y :: ys, hx, hy => by
    rw [simBs, Bool.and_eq_true] at hx hy
    rw [PyData.eqvAll, Bool.and_eq_true, eqv_sim x y hx.1 hy.1, eqvs_sim xs ys hx.2 hy.2]
    simp
end
/-- simple, and no deeper than n -/
def Sd (n : Nat) (d : D) : Prop := simB d = true ∧ d.depth ≤ n
theorem Sd.mono {n m : Nat} {d : D} (h : Sd n d) (l : n ≤ m) : Sd m d := ⟨h.1, Nat.le_trans h.2 l⟩
theorem Sd.ok {n : Nat} {d : D} (h : Sd n d) (l : n ≤ 40 := by decide) : dOk d = true := by
  unfold dOk
  rw [simB_plain d h.1, Bool.true_and, decide_eq_true_iff]
  exact Nat.le_trans h.2 l
theorem sd_all {n : Nat} : ∀ ds : List D, (∀ d ∈ ds, Sd n d) → simBs ds = true ∧ PyData.depthAll ds ≤ n
  | [], _ => ⟨rfl, Nat.zero_le _⟩
  | d :: ds, h => by
    have a := h d (.head _)
    have b := sd_all ds fun x m => h x (.tail _ m)
    exact ⟨by rw [simBs, a.1, b.1]; rfl, by rw [PyData.depthAll]; exact Nat.max_le.mpr ⟨a.2, b.2⟩⟩
theorem sd_tup {n : Nat} {ds : List D} (h : ∀ d ∈ ds, Sd n d) : Sd (n + 1) (.tuple ds) := ⟨(sd_all ds h).1, by rw [PyData.depth]; have := (sd_all ds h).2; omega⟩
theorem sd_list {n : Nat} {ds : List D} (h : ∀ d ∈ ds, Sd n d) : Sd (n + 1) (.list ds) := ⟨(sd_all ds h).1, by rw [PyData.depth]; have := (sd_all ds h).2; omega⟩
theorem sd_oks {n : Nat} {ds : List D} (h : ∀ d ∈ ds, Sd n d) (l : n ≤ 40 := by decide) : dOks ds = true := by
  unfold dOks
  rw [simBs_plain ds (sd_all ds h).1, Bool.true_and, decide_eq_true_iff]
  exact Nat.le_trans (sd_all ds h).2 l
theorem sd_int {n : Nat} (i : Int) : Sd n (.int i) := ⟨rfl, Nat.zero_le _⟩
theorem sd_str {n : Nat} (s : Str) : Sd n (.str s) := ⟨rfl, Nat.zero_le _⟩
theorem sd_none {n : Nat} : Sd n .none := ⟨rfl, Nat.zero_le _⟩
theorem sd_flat {n : Nat} {d : D} (h : flatK d = true) : Sd n d := by
  cases d with
  | int i => exact sd_int i
  | str s => exact sd_str s
  | _ => cases h
theorem eqv_iff {n m : Nat} {x y : D} (hx : Sd n x) (hy : Sd m y) : PyData.eqv x y = true ↔ x = y := eqv_sim x y hx.1 hy.1
theorem eqv_no {n m : Nat} {x y : D} (hx : Sd n x) (hy : Sd m y) : PyData.eqv x y = false ↔ x ≠ y := by
  rw [Ne, ← eqv_iff hx hy]; simp
theorem eqD_sd {n m : Nat} {x y : D} (hx : Sd n x) (hy : Sd m y) (l : n ≤ 40 := by decide) (l' : m ≤ 40 := by decide) : eqD x y = some (.bool (PyData.eqv x y)) := by
  unfold eqD; rw [hx.ok l, hy.ok l']; rfl
theorem neD_sd {n m : Nat} {x y : D} (hx : Sd n x) (hy : Sd m y) (l : n ≤ 40 := by decide) (l' : m ≤ 40 := by decide) : neD x y = some (.bool (!PyData.eqv x y)) := by
  unfold neD; rw [hx.ok l, hy.ok l']; rfl
/-- x among ds -/
def hasD (ds : List D) (x : D) : Bool := ds.any fun y => PyData.eqv y x
theorem has_iff {n m : Nat} {ds : List D} {x : D} (h : ∀ d ∈ ds, Sd n d) (hx : Sd m x) : hasD ds x = true ↔ x ∈ ds := by
  unfold hasD
  rw [List.any_eq_true]
  exact ⟨fun ⟨y, hy, e⟩ => by rw [(eqv_iff (h y hy) hx).1 e] at hy; exact hy, fun hm => ⟨x, hm, (eqv_iff hx hx).2 rfl⟩⟩
theorem memD_list {n m : Nat} {ds : List D} {x : D} (h : ∀ d ∈ ds, Sd n d) (hx : Sd m x) (l : n ≤ 40 := by decide) (l' : m ≤ 40 := by decide) : memD x (.list ds) = some (hasD ds x) := by
  unfold memD; simp only [hx.ok l', sd_oks h l]; rfl
theorem memD_tup {n m : Nat} {ds : List D} {x : D} (h : ∀ d ∈ ds, Sd n d) (hx : Sd m x) (l : n ≤ 40 := by decide) (l' : m ≤ 40 := by decide) : memD x (.tuple ds) = some (hasD ds x) := by
  unfold memD; simp only [hx.ok l', sd_oks h l]; rfl
theorem inD_list {n m : Nat} {ds : List D} {x : D} (h : ∀ d ∈ ds, Sd n d) (hx : Sd m x) (l : n ≤ 40 := by decide) (l' : m ≤ 40 := by decide) : inD x (.list ds) = some (.bool (hasD ds x)) := by
  unfold inD; rw [memD_list h hx l l']; rfl
theorem inD_tup {n m : Nat} {ds : List D} {x : D} (h : ∀ d ∈ ds, Sd n d) (hx : Sd m x) (l : n ≤ 40 := by decide) (l' : m ≤ 40 := by decide) : inD x (.tuple ds) = some (.bool (hasD ds x)) := by
  unfold inD; rw [memD_tup h hx l l']; rfl
theorem niD_list {n m : Nat} {ds : List D} {x : D} (h : ∀ d ∈ ds, Sd n d) (hx : Sd m x) (l : n ≤ 40 := by decide) (l' : m ≤ 40 := by decide) : niD x (.list ds) = some (.bool (!hasD ds x)) := by
  unfold niD; rw [memD_list h hx l l']; rfl
theorem niD_tup {n m : Nat} {ds : List D} {x : D} (h : ∀ d ∈ ds, Sd n d) (hx : Sd m x) (l : n ≤ 40 := by decide) (l' : m ≤ 40 := by decide) : niD x (.tuple ds) = some (.bool (!hasD ds x)) := by
  unfold niD; rw [memD_tup h hx l l']; rfl
/-! ### places -/
theorem at_nat {α : Type} (xs : List α) (j : Nat) (h : j < xs.length) : L2.atI xs (j : Int) = some xs[j] := L2.atI_nat (List.getElem?_eq_getElem h)
theorem at_mem {α : Type} {xs : List α} {r : Int} (h0 : 0 ≤ r) (h1 : r < xs.length) : ∃ x, x ∈ xs ∧ L2.atI xs r = some x := by
  obtain ⟨j, rfl⟩ : ∃ j : Nat, r = (j : Int) := ⟨r.toNat, by omega⟩
  have hj : j < xs.length := by omega
  exact ⟨xs[j], List.getElem_mem hj, at_nat xs j hj⟩
@[simp] theorem at_0 {α : Type} (a : α) (xs : List α) : L2.atI (a :: xs) 0 = some a := L2.atI_nat (xs := a :: xs) (j := 0) rfl
@[simp] theorem at_1 {α : Type} (a b : α) (xs : List α) : L2.atI (a :: b :: xs) 1 = some b := L2.atI_nat (xs := a :: b :: xs) (j := 1) rfl
@[simp] theorem at_2 {α : Type} (a b c : α) (xs : List α) : L2.atI (a :: b :: c :: xs) 2 = some c := L2.atI_nat (xs := a :: b :: c :: xs) (j := 2) rfl
theorem cut_all {α : Type} (xs : List α) : cutL xs none none = xs := by
  unfold cutL
  rw [HT.sIx_none, HT.sIx_none]; simp
theorem cut_from {α : Type} (xs : List α) (n : Nat) : cutL xs (some (n : Int)) none = xs.drop n := by
  unfold cutL
  rw [HT.sIx_none, HT.sIx_nat, List.take_of_length_le (by rw [List.length_drop]; omega)]
  by_cases h : n ≤ xs.length
  · rw [Nat.min_eq_left h]
  · rw [List.drop_of_length_le (by omega), List.drop_of_length_le (by omega)]
theorem cut_to {α : Type} (xs : List α) (n : Nat) : cutL xs none (some (n : Int)) = xs.take n := by
  unfold cutL
  rw [HT.sIx_none, HT.sIx_nat, List.drop_zero, Nat.sub_zero]
  by_cases h : n ≤ xs.length
  · rw [Nat.min_eq_left h]
  · rw [Nat.min_eq_right (by omega), List.take_of_length_le (Nat.le_refl _), List.take_of_length_le (by omega)]
theorem cut_1 {α : Type} (a : α) (xs : List α) : cutL (a :: xs) (some 1) none = xs := cut_from (a :: xs) 1
theorem cut_mem {α : Type} {xs : List α} {lo hi : Option Int} {x : α} (h : x ∈ cutL xs lo hi) : x ∈ xs := List.mem_of_mem_drop (List.mem_of_mem_take h)
theorem cut_len {α : Type} (xs : List α) (lo hi : Option Int) : (cutL xs lo hi).length ≤ xs.length := by
  unfold cutL
  rw [List.length_take, List.length_drop]
  omega
/-! ### loops -/
theorem forL_ok {g : Tg} {b : SM} (J : List D → Env → Dk → Prop) (R : Out → Dk → Prop)
    (step : ∀ d ds e k, J (d :: ds) e k → ∃ e1, g d e = some e1 ∧ Ok (b e1 k) fun o k' => match o with
      | .nx e2 => J ds e2 k'
      | .ct e2 => J ds e2 k'
      | .bk e2 => R (.nx e2) k'
      | .rt x => R (.rt x) k')
    (done : ∀ e k, J [] e k → R (.nx e) k) : ∀ ds e k, J ds e k → Ok (forL g b ds e k) R
  | [], e, k, h => ⟨_, _, rfl, done e k h⟩
  | d :: ds, e, k, h => by
    obtain ⟨e1, h1, h2⟩ := step d ds e k h
    unfold forL
    rw [h1]
    simp only [Res.of_some, Res.bind_ok, Ok_bind]
    refine h2.mono fun o k' p => ?_
    cases o with
    | nx e2 => exact forL_ok J R step done ds e2 k' p
    | ct e2 => exact forL_ok J R step done ds e2 k' p
    | bk e2 => exact .yes p
    | rt x => exact .yes p
theorem lcL_ok {vs : List Nat} {g : Tg} {t : TM} {a : EM} {e : Env} (J : List D → List D → Dk → Prop)
    (step : ∀ d ds acc k, J (d :: ds) acc k → ∃ e1, g d (wipeE e vs) = some e1 ∧ Ok (t e1 k) fun c k' => match c with
      | true => Ok (a e1 k') fun x k2 => acc.length < sizeLine ∧ J ds (acc ++ [x]) k2
      | false => J ds acc k') : ∀ ds acc k, J ds acc k → Ok (lcL vs g t a e ds acc k) fun r k' => J [] r k'
  | [], acc, k, h => ⟨_, _, rfl, h⟩
  | d :: ds, acc, k, h => by
    obtain ⟨e1, h1, h2⟩ := step d ds acc k h
    unfold lcL
    rw [h1]
    simp only [Res.of_some, Res.bind_ok, Ok_bind]
    refine h2.mono fun c k' p => ?_
    cases c with
    | false => exact lcL_ok J step ds acc k' p
    | true =>
      simp only [if_pos, Ok_bind]
      refine Ok.mono p fun x k2 q => ?_
      rw [if_pos q.1]
      exact lcL_ok J step ds _ k2 q.2
theorem whileN_mono {t : TM} {b : SM} : ∀ (n : Nat) (e : Env) (k : Dk), whileN t b n e k ≠ .bad → ∀ m, n ≤ m → whileN t b m e k = whileN t b n e k
  | 0, _, _, h, _, _ => absurd rfl h
  | n + 1, e, k, h, 0, hm => by omega
  | n + 1, e, k, h, m + 1, hm => by
    have ih := whileN_mono (t := t) (b := b) n
    unfold whileN at h ⊢
    cases ht : t e k with
    | bad => rfl
    | exc _ _ _ => rfl
    | ok c k1 =>
      rw [ht] at h
      simp only [Res.bind_ok] at h ⊢
      cases c with
      | false => rfl
      | true =>
        simp only [if_pos] at h ⊢
        cases hb : b e k1 with
        | bad => rfl
        | exc _ _ _ => rfl
        | ok o k2 =>
          rw [hb] at h
          simp only [Res.bind_ok] at h ⊢
          cases o with
          | nx e2 => exact ih e2 k2 h m (by omega)
          | ct e2 => exact ih e2 k2 h m (by omega)
          | bk e2 => rfl
          | rt x => rfl
theorem sWhile_eq {t : TM} {b : SM} {n : Nat} {e : Env} {k : Dk} (h : whileN t b n e k ≠ .bad) : sWhile t b e k = whileN t b n e k := by
  have hx : ∃ n, whileN t b n e k ≠ .bad := ⟨n, h⟩
  unfold sWhile
  rw [dif_pos hx]
  rcases Nat.le_total (Classical.choose hx) n with l | l
  · exact (whileN_mono _ e k (Classical.choose_spec hx) n l).symm
  · exact whileN_mono n e k h _ l
/-- J n e k: the state before a turn, n what is left -/
theorem whileN_ok {t : TM} {b : SM} (J : Nat → Env → Dk → Prop) (R : Out → Dk → Prop)
    (step : ∀ n e k, J n e k → Ok (t e k) fun c k1 => match c with
      | false => R (.nx e) k1
      | true => Ok (b e k1) fun o k2 => match o with
        | .nx e2 => ∃ m, m < n ∧ J m e2 k2
        | .ct e2 => ∃ m, m < n ∧ J m e2 k2
        | .bk e2 => R (.nx e2) k2
        | .rt x => R (.rt x) k2) : ∀ n e k, J n e k → Ok (whileN t b (n + 1) e k) R := by
  intro n
  induction n using Nat.strongRecOn with
  | _ n ih =>
    intro e k h
    have s := step n e k h
    unfold whileN
    simp only [Ok_bind]
    refine s.mono fun c k1 p => ?_
    cases c with
    | false => exact .yes p
    | true =>
      simp only [if_pos, Ok_bind]
      refine Ok.mono p fun o k2 q => ?_
      have go : ∀ e2, (∃ m, m < n ∧ J m e2 k2) → Ok (whileN t b n e2 k2) R := fun e2 ⟨m, lm, hj⟩ => by
        obtain ⟨a, k3, he, hr⟩ := (ih m lm e2 k2 hj).get
        rw [whileN_mono (m + 1) e2 k2 (by rw [he]; intro z; cases z) n (by omega), he]
        exact .yes hr
      cases o with
      | nx e2 => exact go e2 q
      | ct e2 => exact go e2 q
      | bk e2 => exact .yes q
      | rt x => exact .yes q
theorem while_ok {t : TM} {b : SM} (J : Nat → Env → Dk → Prop) (R : Out → Dk → Prop)
    (step : ∀ n e k, J n e k → Ok (t e k) fun c k1 => match c with
      | false => R (.nx e) k1
      | true => Ok (b e k1) fun o k2 => match o with
        | .nx e2 => ∃ m, m < n ∧ J m e2 k2
        | .ct e2 => ∃ m, m < n ∧ J m e2 k2
        | .bk e2 => R (.nx e2) k2
        | .rt x => R (.rt x) k2) (n : Nat) (e : Env) (k : Dk) (h : J n e k) : Ok (sWhile t b e k) R := by
  have w := whileN_ok J R step n e k h
  rw [sWhile_eq (n := n + 1)]
  · exact w
  · intro z; rw [z, Ok_bad] at w; exact w
/-! ### the words, unfolded -/
@[simp] theorem r_eVar (i : Nat) (e : Env) (k : Dk) : eVar i e k = (match e[i]? with
  | some (.dat d) => .ok d k
  | _ => .bad) := rfl
@[simp] theorem r_eC (d : D) (e : Env) (k : Dk) : eC d e k = (.ok d k) := rfl
@[simp] theorem r_eOp (f : D → D → Option D) (a b : EM) (e : Env) (k : Dk) : eOp f a b e k = ((a e k).bind fun x k1 => (b e k1).bind fun y k2 => Res.of (f x y) k2) := rfl
@[simp] theorem r_eUn (f : D → Option D) (a : EM) (e : Env) (k : Dk) : eUn f a e k = ((a e k).bind fun x k1 => Res.of (f x) k1) := rfl
@[simp] theorem r_eIf (t : TM) (a b : EM) (e : Env) (k : Dk) : eIf t a b e k = ((t e k).bind fun c k1 => if c then a e k1 else b e k1) := rfl
@[simp] theorem r_eAnd (a b : EM) (e : Env) (k : Dk) : eAnd a b e k = ((a e k).bind fun x k1 => match x with
  | .bool true => b e k1
  | .bool false => .ok (.bool false) k1
  | _ => .bad) := rfl
@[simp] theorem r_eOr (a b : EM) (e : Env) (k : Dk) : eOr a b e k = ((a e k).bind fun x k1 => match x with
  | .bool false => b e k1
  | .bool true => .ok (.bool true) k1
  | _ => .bad) := rfl
@[simp] theorem r_eNot (a : EM) (e : Env) (k : Dk) : eNot a e k = ((a e k).bind fun x k1 => match x with
  | .bool b => .ok (.bool (!b)) k1
  | _ => .bad) := rfl
@[simp] theorem r_tE (a : EM) (e : Env) (k : Dk) : tE a e k = ((a e k).bind fun x k1 => Res.of (trD x) k1) := rfl
@[simp] theorem r_tAnd (a b : TM) (e : Env) (k : Dk) : tAnd a b e k = ((a e k).bind fun x k1 => if x then b e k1 else .ok false k1) := rfl
@[simp] theorem r_tOr (a b : TM) (e : Env) (k : Dk) : tOr a b e k = ((a e k).bind fun x k1 => if x then .ok true k1 else b e k1) := rfl
@[simp] theorem r_tNot (a : TM) (e : Env) (k : Dk) : tNot a e k = ((a e k).bind fun x k1 => .ok (!x) k1) := rfl
@[simp] theorem r_tYes (e : Env) (k : Dk) : tYes  e k = (.ok true k) := rfl
@[simp] theorem r_nNil (e : Env) (k : Dk) : nNil  e k = (.ok [] k) := rfl
@[simp] theorem r_nCons (a : EM) (r : NM) (e : Env) (k : Dk) : nCons a r e k = ((a e k).bind fun x k1 => (r e k1).bind fun xs k2 => .ok (x :: xs) k2) := rfl
@[simp] theorem r_eTup (r : NM) (e : Env) (k : Dk) : eTup r e k = ((r e k).bind fun xs k1 => if xs.length ≤ sizeLine then .ok (.tuple xs) k1 else .bad) := rfl
@[simp] theorem r_eNew (r : NM) (e : Env) (k : Dk) : eNew r e k = ((r e k).bind fun xs k1 => .ok (.list xs) k1) := rfl
@[simp] theorem r_nLst (r : NM) (e : Env) (k : Dk) : nLst r e k = ((r e k).bind fun xs k1 => if xs.length ≤ sizeLine then .ok xs k1 else .bad) := rfl
@[simp] theorem r_aNil (e : Env) (k : Dk) : aNil  e k = (.ok [] k) := rfl
@[simp] theorem r_aCons (a : EM) (r : AM) (e : Env) (k : Dk) : aCons a r e k = ((a e k).bind fun x k1 => (r e k1).bind fun xs k2 => .ok (.dat x :: xs) k2) := rfl
@[simp] theorem r_aDk (i : Nat) (r : AM) (e : Env) (k : Dk) : aDk i r e k = (match e[i]? with
  | some .dk => (r e k).bind fun xs k2 => .ok (.dk :: xs) k2
  | _ => .bad) := rfl
@[simp] theorem r_eCall (f : Fn) (r : AM) (e : Env) (k : Dk) : eCall f r e k = ((r e k).bind fun ds k1 => (f ds k1).calm) := rfl
@[simp] theorem r_oNone (e : Env) (k : Dk) : oNone  e k = (.ok none k) := rfl
@[simp] theorem r_oSome (a : EM) (e : Env) (k : Dk) : oSome a e k = ((a e k).bind fun x k1 => match x with
  | .int i => .ok (some i) k1
  | _ => .bad) := rfl
@[simp] theorem r_eSl (f : D → Option Int → Option Int → Option D) (a : EM) (lo hi : Env → Dk → Res (Option Int)) (e : Env) (k : Dk) : eSl f a lo hi e k = ((a e k).bind fun x k1 => (lo e k1).bind fun l k2 => (hi e k2).bind fun h k3 => Res.of (f x l h) k3) := rfl
@[simp] theorem r_nSl (a : EM) (lo hi : Env → Dk → Res (Option Int)) (e : Env) (k : Dk) : nSl a lo hi e k = ((a e k).bind fun x k1 => (lo e k1).bind fun l k2 => (hi e k2).bind fun h k3 => match x with
  | .list ds => .ok (cutL ds l h) k3
  | _ => .bad
) := rfl
@[simp] theorem r_sNil (e : Env) (k : Dk) : sNil  e k = (.ok (.nx e) k) := rfl
@[simp] theorem r_sSeq (a b : SM) (e : Env) (k : Dk) : sSeq a b e k = ((a e k).bind fun o k1 => o.seq k1 b) := rfl
@[simp] theorem r_sAsg (g : Tg) (a : EM) (e : Env) (k : Dk) : sAsg g a e k = ((a e k).bind fun x k1 => (Res.of (g x e) k1).bind fun e1 k2 => .ok (.nx e1) k2) := rfl
@[simp] theorem r_sPar (i j : Nat) (a b : EM) (e : Env) (k : Dk) : sPar i j a b e k = ((a e k).bind fun x k1 => (b e k1).bind fun y k2 => if i < e.length ∧ j < e.length then .ok (.nx ((e.set i (.dat x)).set j (.dat y))) k2 else .bad) := rfl
@[simp] theorem r_sOwn (i : Nat) (a : NM) (e : Env) (k : Dk) : sOwn i a e k = ((a e k).bind fun xs k1 => if i < e.length then .ok (.nx (e.set i (.own xs))) k1 else .bad) := rfl
@[simp] theorem r_sApp (i : Nat) (a : EM) (e : Env) (k : Dk) : sApp i a e k = (match e[i]? with
  | some (.own ds) => (a e k).bind fun x k1 => if ds.length < sizeLine then .ok (.nx (e.set i (.own (ds ++ [x])))) k1 else .bad
  | _ => .bad) := rfl
@[simp] theorem r_sFrz (i : Nat) (m : SM) (e : Env) (k : Dk) : sFrz i m e k = (match e[i]? with
  | some (.own ds) => m (e.set i (.dat (.list ds))) k
  | _ => m e k) := rfl
@[simp] theorem r_eBor (i : Nat) (m : EM) (e : Env) (k : Dk) : eBor i m e k = (match e[i]? with
  | some (.own ds) => (m (e.set i (.dat (.list ds))) k).bind fun d k1 => if tupD d then .ok d k1 else .bad
  | _ => m e k) := rfl
@[simp] theorem r_tBor (i : Nat) (m : TM) (e : Env) (k : Dk) : tBor i m e k = (match e[i]? with
  | some (.own ds) => m (e.set i (.dat (.list ds))) k
  | _ => m e k) := rfl
@[simp] theorem r_nBor (i : Nat) (m : NM) (e : Env) (k : Dk) : nBor i m e k = (match e[i]? with
  | some (.own ds) => (m (e.set i (.dat (.list ds))) k).bind fun d k1 => if tupDs d then .ok d k1 else .bad
  | _ => m e k) := rfl
@[simp] theorem r_sIf (t : TM) (a b : SM) (e : Env) (k : Dk) : sIf t a b e k = ((t e k).bind fun c k1 => if c then a e k1 else b e k1) := rfl
@[simp] theorem r_sRet (a : EM) (e : Env) (k : Dk) : sRet a e k = ((a e k).bind fun x k1 => .ok (.rt x) k1) := rfl
@[simp] theorem r_sRetN (e : Env) (k : Dk) : sRetN  e k = (.ok (.rt .none) k) := rfl
@[simp] theorem r_sExp (a : EM) (e : Env) (k : Dk) : sExp a e k = ((a e k).bind fun _ k1 => .ok (.nx e) k1) := rfl
@[simp] theorem r_sFor (it : IM) (g : Tg) (b : SM) (e : Env) (k : Dk) : sFor it g b e k = ((it e k).bind fun ds k1 => forL g b ds e k1) := rfl
@[simp] theorem r_iSeq (a : EM) (e : Env) (k : Dk) : iSeq a e k = ((a e k).bind fun x k1 => match x with
  | .list ds => .ok ds k1
  | .tuple ds => .ok ds k1
  | _ => .bad) := rfl
def rangeR (x : D) (k : Dk) : Res (List D) := iRange (eC x) [] k
@[simp] theorem r_iRange (a : EM) (e : Env) (k : Dk) : iRange a e k = (a e k).bind rangeR := Eq.trans rfl rfl
theorem rangeR_ok {n : Int} (h0 : 0 ≤ n) (h : n ≤ 1000000) (k : Dk) : rangeR (.int n) k = .ok ((List.range n.toNat).map fun (j : Nat) => PyData.int j) k := if_pos ⟨by omega, by omega⟩
@[simp] theorem rangeR_nat {n : Nat} (h : n ≤ 1000000) (k : Dk) : rangeR (.int n) k = .ok ((List.range n).map fun (j : Nat) => PyData.int j) k := by
  rw [rangeR_ok (by omega) (by omega)]; rfl
@[simp] theorem r_iEnum (a : EM) (e : Env) (k : Dk) : iEnum a e k = ((a e k).bind fun x k1 => match x with
  | .list ds => .ok (enumFrom 0 ds) k1
  | .tuple ds => .ok (enumFrom 0 ds) k1
  | _ => .bad) := rfl
@[simp] theorem r_nLc (vs : List Nat) (it : IM) (g : Tg) (t : TM) (a : EM) (e : Env) (k : Dk) : nLc vs it g t a e k = ((it e k).bind fun ds k1 => lcL vs g t a e ds [] k1) := rfl
@[simp] theorem r_eFn (f : List D → Option D) (r : NM) (e : Env) (k : Dk) : eFn f r e k = ((r e k).bind fun ds k1 => Res.of (f ds) k1) := rfl
@[simp] theorem r_nFn (f : List D → Option (List D)) (r : NM) (e : Env) (k : Dk) : nFn f r e k = ((r e k).bind fun ds k1 => Res.of (f ds) k1) := rfl
@[simp] theorem r_nOp (f : D → D → Option (List D)) (a b : EM) (e : Env) (k : Dk) : nOp f a b e k = ((a e k).bind fun x k1 => (b e k1).bind fun y k2 => Res.of (f x y) k2) := rfl
@[simp] theorem r_eJoin (a b : EM) (e : Env) (k : Dk) : eJoin a b e k = ((a e k).bind fun x k1 => match x with
  | .str _ => (b e k1).bind fun y k2 => Res.of (joinD x y) k2
  | _ => .bad) := rfl
@[simp] theorem r_eDk0 (i : Nat) (e : Env) (k : Dk) : eDk0 i e k = (if isDkAt e i then .ok (.list (k.cells.map PyData.int)) k else .bad) := rfl
@[simp] theorem r_eDk2 (i : Nat) (e : Env) (k : Dk) : eDk2 i e k = (if isDkAt e i then .ok (.int k.i) k else .bad) := rfl
@[simp] theorem r_eDk3 (i : Nat) (e : Env) (k : Dk) : eDk3 i e k = (if isDkAt e i then .ok (.int k.n) k else .bad) := rfl
@[simp] theorem r_eDkL (i : Nat) (e : Env) (k : Dk) : eDkL i e k = (if isDkAt e i then .ok (.int k.gs.length) k else .bad) := rfl
@[simp] theorem r_eDkG (i : Nat) (e : Env) (k : Dk) : eDkG i e k = (if isDkAt e i then Res.of (k.gs[k.i]?.map PyData.int) k else .bad) := rfl
@[simp] theorem r_sDkG (i : Nat) (a : EM) (e : Env) (k : Dk) : sDkG i a e k = (if isDkAt e i then (a e k).bind fun x k1 => match x with
  | .int v => if k1.i < k1.gs.length then .ok (.nx e) { k1 with gs := k1.gs.set k1.i v } else .bad
  | _ => .bad else .bad) := rfl
@[simp] theorem r_sDk2 (i : Nat) (a : EM) (e : Env) (k : Dk) : sDk2 i a e k = (if isDkAt e i then (a e k).bind fun x k1 => match x with
  | .int v => if 0 ≤ v then .ok (.nx e) { k1 with i := v.toNat } else .bad
  | _ => .bad else .bad) := rfl
@[simp] theorem r_sDk3 (i : Nat) (a : EM) (e : Env) (k : Dk) : sDk3 i a e k = (if isDkAt e i then (a e k).bind fun x k1 => match x with
  | .int v => if 0 ≤ v then .ok (.nx e) { k1 with n := v.toNat } else .bad
  | _ => .bad else .bad) := rfl
@[simp] theorem r_eGet2 (a b x : EM) (e : Env) (k : Dk) : eGet2 a b x e k = ((a e k).bind fun d k1 => match d with
  | .dict ((tg, _) :: kvs) => (b e k1).bind fun y k2 => (x e k2).bind fun z k3 => if keyOk tg y then .ok ((look kvs y).getD z) k3 else .bad
  | _ => .bad) := rfl
@[simp] theorem r_sAddTo (i j t : Nat) (a : EM) (e : Env) (k : Dk) : sAddTo i j t a e k = (match e[i]? with
  | some (.dil es) => (a e k).bind fun y k1 => match e[t]? with
    | some (.dat d) => if keyOk (.bool false) y && dOk d && es.all (fun p => dOks p.2 && decide (p.2.length < sizeLine)) && decide (es.length < sizeLine) && decide (j < e.length) && decide (j ≠ i ∧ j ≠ t) then .ok (.nx ((e.set i (.dil (addTo es y d))).set j .un)) k1 else .bad
    | _ => .bad
  | _ => .bad) := rfl
@[simp] theorem r_sDil (i : Nat) (e : Env) (k : Dk) : sDil i e k = (if i < e.length then .ok (.nx (e.set i (.dil []))) k else .bad) := rfl
@[simp] theorem r_sFrzD (i : Nat) (m : SM) (e : Env) (k : Dk) : sFrzD i m e k = (match e[i]? with
  | some (.dil es) => m (e.set i (.dat (.dict ((.bool false, .none) :: es.map fun p => (p.1, .list p.2))))) k
  | _ => m e k) := rfl
/-! ### the words over numbers and truth -/
@[simp] theorem gN_run (i : Nat) (d : D) (e : Env) : gN i d e = if i < e.length then some (e.set i (.dat d)) else none := rfl
@[simp] theorem gT_run (gs : List Tg) (ds : List D) (e : Env) : gT gs (.tuple ds) e = gAll gs ds e := rfl
@[simp] theorem gAll_nil (e : Env) : gAll [] [] e = some e := rfl
@[simp] theorem gAll_cons (g : Tg) (gs : List Tg) (d : D) (ds : List D) (e : Env) : gAll (g :: gs) (d :: ds) e = (g d e).bind fun e1 => gAll gs ds e1 := rfl
@[simp] theorem addD_int (i j : Int) : addD (.int i) (.int j) = some (.int (i + j)) := rfl
@[simp] theorem subD_int (i j : Int) : subD (.int i) (.int j) = some (.int (i - j)) := rfl
@[simp] theorem ltD_int (i j : Int) : ltD (.int i) (.int j) = some (.bool (decide (i < j))) := rfl
@[simp] theorem leD_int (i j : Int) : leD (.int i) (.int j) = some (.bool (decide (i ≤ j))) := rfl
@[simp] theorem gtD_int (i j : Int) : gtD (.int i) (.int j) = some (.bool (decide (j < i))) := rfl
@[simp] theorem geD_int (i j : Int) : geD (.int i) (.int j) = some (.bool (decide (j ≤ i))) := rfl
@[simp] theorem negD_int (i : Int) : negD (.int i) = some (.int (-i)) := rfl
@[simp] theorem trD_bool (b : Bool) : trD (.bool b) = some b := rfl
theorem mulD_int {i j : Int} (h : i.natAbs < 18446744073709551616) : mulD (.int i) (.int j) = some (.int (i * j)) := if_pos h
theorem modD_int {i j : Int} (h : 0 < j) : modD (.int i) (.int j) = some (.int (i % j)) := if_pos h
theorem fdivD_int {i j : Int} (h : 0 < j) (h2 : j < 1073741824) : fdivD (.int i) (.int j) = some (.int (i / j)) := if_pos ⟨h, h2⟩
theorem powD_int {i j : Int} (h : 0 ≤ j) (h1 : j ≤ 1000000) (h2 : i.natAbs < 18446744073709551616) : powD (.int i) (.int j) = some (.int (i ^ j.toNat)) := if_pos ⟨h, h1, h2⟩
theorem eqD_int (i j : Int) : eqD (.int i) (.int j) = some (.bool (i == j)) := by rw [eqD_sd (n := 0) (m := 0) (sd_int _) (sd_int _), PyData.eqv]
theorem neD_int (i j : Int) : neD (.int i) (.int j) = some (.bool (!(i == j))) := by rw [neD_sd (n := 0) (m := 0) (sd_int _) (sd_int _), PyData.eqv]
theorem eqD_str (i j : Str) : eqD (.str i) (.str j) = some (.bool (i == j)) := by rw [eqD_sd (n := 0) (m := 0) (sd_str _) (sd_str _), PyData.eqv]
theorem neD_str (i j : Str) : neD (.str i) (.str j) = some (.bool (!(i == j))) := by rw [neD_sd (n := 0) (m := 0) (sd_str _) (sd_str _), PyData.eqv]
@[simp] theorem fLen_list (ds : List D) : fLen [.list ds] = some (.int ds.length) := rfl
@[simp] theorem fLen_tup (ds : List D) : fLen [.tuple ds] = some (.int ds.length) := rfl
@[simp] theorem fInt_bool (b : Bool) : fInt [.bool b] = some (.int (if b then 1 else 0)) := rfl
@[simp] theorem fAbs_int (i : Int) : fAbs [.int i] = some (.int (if i < 0 then -i else i)) := rfl
@[simp] theorem fTuple_list (xs : List D) : fTuple [.list xs] = some (.tuple xs) := rfl
@[simp] theorem fTuple_tup (xs : List D) : fTuple [.tuple xs] = some (.tuple xs) := rfl
@[simp] theorem fList_list (xs : List D) : fList [.list xs] = some xs := rfl
@[simp] theorem fList_tup (xs : List D) : fList [.tuple xs] = some xs := rfl
@[simp] theorem ixD_list (ds : List D) (j : Int) : ixD (.list ds) (.int j) = L2.atI ds j := rfl
@[simp] theorem ixD_tup (ds : List D) (j : Int) : ixD (.tuple ds) (.int j) = L2.atI ds j := rfl
@[simp] theorem cutD_list (ds : List D) (l h : Option Int) : cutD (.list ds) l h = some (.list (cutL ds l h)) := rfl
@[simp] theorem cutD_tup (ds : List D) (l h : Option Int) : cutD (.tuple ds) l h = some (.tuple (cutL ds l h)) := rfl
@[simp] theorem isD_none (d : D) : isD d .none = some (isND d) := rfl
@[simp] theorem isntD_none (d : D) : isntD d .none = some (notND d) := rfl
@[simp] theorem sz_le {n : Nat} (h : n ≤ 1000) : (n ≤ sizeLine) = True := eq_true (Nat.le_trans h (by unfold sizeLine; omega))
@[simp] theorem sz_lt {n : Nat} (h : n ≤ 1000) : (n < sizeLine) = True := eq_true (Nat.lt_of_le_of_lt h (by unfold sizeLine; omega))
theorem mulD_list {ds : List D} {k : Int} (h : ds.length ≤ 1000) (h1 : -1000 ≤ k) (h2 : k ≤ 1000) : mulD (.list ds) (.int k) = some (.list (List.replicate k.toNat ds).flatten) := if_pos ⟨h1, h2, h⟩
theorem addD_list {a b : List D} (h : a.length + b.length ≤ sizeLine) : addD (.list a) (.list b) = some (.list (a ++ b)) := if_pos h
theorem addD_tup {a b : List D} (h : a.length + b.length ≤ sizeLine) : addD (.tuple a) (.tuple b) = some (.tuple (a ++ b)) := if_pos h
theorem mem_addIn {ds : List D} {d x : D} (h : x ∈ addIn ds d) : x ∈ ds ∨ x = d := by
  unfold addIn at h
  split at h
  · exact .inl h
  · simpa using h
theorem addIn_len (ds : List D) (d : D) : (addIn ds d).length ≤ ds.length + 1 := by
  unfold addIn
  split <;> simp
/-! ### texts -/
theorem len_app (a b : Str) : (a ++ b).length = a.length + b.length := by
  show (Str.append a b).cps.size = _
  unfold Str.append
  rw [Array.size_append]
  rfl
theorem len_cut (z : Str) (lo hi : Option Int) : (L2.cutS z lo hi).length ≤ z.length := by
  unfold L2.cutS
  show (List.toArray _).size ≤ z.cps.size
  rw [List.size_toArray, List.length_take, List.length_drop]
  have : z.cps.toList.length = z.cps.size := Array.length_toList
  omega
theorem len_fold (x : Array Nat) : ∀ (n : Nat) (acc : Array Nat), ((List.replicate n x).foldl (· ++ ·) acc).size = acc.size + n * x.size
  | 0, acc => by simp
  | n + 1, acc => by
    rw [List.replicate_succ, List.foldl_cons, len_fold x n, Array.size_append, Nat.add_mul]
    omega
theorem len_mul (x : Str) (n : Int) : (Txt.mul x n).length ≤ x.length * n.toNat := by
  unfold Txt.mul
  split
  · exact Nat.zero_le _
  · split
    · rename_i h1 h2
      have : 1 ≤ n.toNat := by omega
      exact Nat.le_mul_of_pos_right _ this
    · show ((List.replicate n.toNat x.cps).foldl (· ++ ·) #[]).size ≤ _
      rw [len_fold]
      simp [Str.length, Nat.mul_comm]
theorem len_join (a : Str) : ∀ ys : List Str, (Str.join a ys).length ≤ (ys.map (·.length)).sum + ys.length * a.length
  | [] => Nat.zero_le _
  | [y] => by simp [Str.join]
  | y :: z :: ys => by
    have ih := len_join a (z :: ys)
    rw [Str.join]
    · rw [len_app, len_app]
      simp only [List.map_cons, List.sum_cons, List.length_cons, Nat.add_mul] at ih ⊢
      omega
    · simp
theorem len_joinT (a : Str) (ys : List Str) : (Txt.join a ys).length ≤ (ys.map (·.length)).sum + ys.length * a.length := by
  rw [show Txt.join a ys = Str.join a ys from PySem.StrLaws.glued_eq_join a ys]
  exact len_join a ys
theorem texts_of : ∀ (ds : List D) (n : Nat), (∀ d ∈ ds, ∃ s : Str, d = .str s ∧ s.length ≤ n) → ∃ ys, textsD ds = some ys ∧ ys.length = ds.length ∧ (ys.map (·.length)).sum ≤ n * ds.length
  | [], n, _ => ⟨[], rfl, rfl, by simp⟩
  | d :: ds, n, h => by
    obtain ⟨s, rfl, hs⟩ := h d (.head _)
    obtain ⟨ys, e, hl, hm⟩ := texts_of ds n fun x m => h x (.tail _ m)
    refine ⟨s :: ys, ?_, by simp [hl], ?_⟩
    · rw [textsD, e]; rfl
    · simp only [List.map_cons, List.sum_cons, List.length_cons, Nat.mul_add]
      omega
theorem addD_str {a b : Str} (h : a.length + b.length ≤ sizeLine) : addD (.str a) (.str b) = some (.str (a ++ b)) := if_pos h
theorem mulD_str {s : Str} {k : Int} (h : s.length ≤ 1000) (h1 : -1000 ≤ k) (h2 : k ≤ 1000) : mulD (.str s) (.int k) = some (.str (Txt.mul s k)) := if_pos ⟨h, h1, h2⟩
theorem cutD_str {s : Str} {l h : Option Int} (hs : s.length ≤ sizeLine) : cutD (.str s) l h = some (.str (L2.cutS s l h)) := if_pos hs
theorem lenD_str {s : Str} (hs : s.length ≤ sizeLine) : fLen [.str s] = some (.int s.length) := if_pos hs
theorem ixD_str {s : Str} {j : Int} (hs : s.length ≤ sizeLine) (h0 : 0 ≤ j) (h1 : j < s.length) : ∃ c : Nat, c ∈ s.cps.toList ∧ ixD (.str s) (.int j) = some (.str ⟨#[c]⟩) := by
  obtain ⟨x, hx, ex⟩ := at_mem (xs := s.cps.toList) h0 (by rw [Array.length_toList]; exact h1)
  exact ⟨x, hx, by unfold ixD; simp only [if_pos hs, ex]; rfl⟩
theorem joinD_str {a : Str} {ds : List D} {n m : Nat} (h : ∀ d ∈ ds, ∃ s : Str, d = .str s ∧ s.length ≤ n) (hl : ds.length ≤ m) (hm : n * m + m * a.length ≤ 16777216) : ∃ s : Str, joinD (.str a) (.list ds) = some (.str s) ∧ s.length ≤ n * m + m * a.length := by
  obtain ⟨ys, e, h1, h2⟩ := texts_of ds n h
  have b1 : n * ds.length ≤ n * m := Nat.mul_le_mul_left _ hl
  have b2 : ds.length * a.length ≤ m * a.length := Nat.mul_le_mul_right _ hl
  refine ⟨_, by unfold joinD; simp only [e]; rw [if_pos (by rw [h1]; omega)], Nat.le_trans (len_joinT a ys) (by rw [h1]; omega)⟩
theorem forall_mem_2 {α : Type} {a b : α} {P : α → Prop} (ha : P a) (hb : P b) : ∀ d ∈ [a, b], P d := by
  intro d h
  simp only [List.mem_cons, List.not_mem_nil, or_false] at h
  rcases h with rfl | rfl <;> assumption
/-! ### comprehensions that only look -/
theorem lcL_pure {vs : List Nat} {g : Tg} {t : TM} {a : EM} {e : Env} (p : D → Bool) (f : D → D) (k : Dk) : ∀ (ds acc : List D),
    (∀ d ∈ ds, ∃ e1, g d (wipeE e vs) = some e1 ∧ t e1 k = .ok (p d) k ∧ (p d = true → a e1 k = .ok (f d) k)) → acc.length + ds.length ≤ sizeLine →
    lcL vs g t a e ds acc k = .ok (acc ++ (ds.filter p).map f) k
  | [], acc, _, _ => by simp [lcL]
  | d :: ds, acc, h, hl => by
    obtain ⟨e1, h1, h2, h3⟩ := h d (.head _)
    have hl' : acc.length + ds.length + 1 ≤ sizeLine := by simpa [Nat.add_assoc] using hl
    have rec_ := lcL_pure (vs := vs) (g := g) (t := t) (a := a) (e := e) p f k ds
    unfold lcL
    rw [h1]
    simp only [Res.of_some, Res.bind_ok, h2]
    by_cases hp : p d = true
    · rw [if_pos hp, h3 hp]
      simp only [Res.bind_ok]
      rw [if_pos (by omega), rec_ (acc ++ [f d]) (fun d' m => h d' (.tail _ m)) (by simp only [List.length_append, List.length_cons, List.length_nil]; omega)]
      simp [List.filter_cons, hp]
    · rw [if_neg hp, rec_ acc (fun d' m => h d' (.tail _ m)) (by omega)]
      simp [List.filter_cons, hp]
theorem deck_pure (ns : List Int) (hl : ns.length ≤ 63) (k : Dk) : nLc [2] (iSeq (eVar 1)) (gN 2) (tE (eOp geD (eFn fAbs (nCons (eVar 2) nNil)) (eOp powD (eC (.int 10)) (eC (.int 18))))) (eFn fAbs (nCons (eVar 2) nNil)) [.un, .dat (.list (ns.map PyData.int)), .un] k
    = .ok (((ns.filter fun i => decide ((10 : Int) ^ 18 ≤ if i < 0 then -i else i)).map fun i => if i < 0 then -i else i).map PyData.int) k := by
  let p : D → Bool := fun d => match d with
    | .int i => decide ((10 : Int) ^ 18 ≤ if i < 0 then -i else i)
    | _ => false
  let f : D → D := fun d => match d with
    | .int i => .int (if i < 0 then -i else i)
    | d => d
  have e := lcL_pure (vs := [2]) (g := gN 2) (t := tE (eOp geD (eFn fAbs (nCons (eVar 2) nNil)) (eOp powD (eC (.int 10)) (eC (.int 18))))) (a := eFn fAbs (nCons (eVar 2) nNil)) (e := [.un, .dat (.list (ns.map PyData.int)), .un]) p f k (ns.map PyData.int) [] (fun d hd => by
    obtain ⟨i, _, rfl⟩ := List.mem_map.1 hd
    refine ⟨_, rfl, ?_, fun _ => rfl⟩
    rfl) (by simp [sizeLine]; omega)
  have e2 : nLc [2] (iSeq (eVar 1)) (gN 2) (tE (eOp geD (eFn fAbs (nCons (eVar 2) nNil)) (eOp powD (eC (.int 10)) (eC (.int 18))))) (eFn fAbs (nCons (eVar 2) nNil)) [.un, .dat (.list (ns.map PyData.int)), .un] k = lcL [2] (gN 2) (tE (eOp geD (eFn fAbs (nCons (eVar 2) nNil)) (eOp powD (eC (.int 10)) (eC (.int 18))))) (eFn fAbs (nCons (eVar 2) nNil)) [.un, .dat (.list (ns.map PyData.int)), .un] (ns.map PyData.int) [] k := rfl
  rw [e2, e]
  congr 1
  rw [List.nil_append, List.filter_map, List.map_map, List.map_map]
  rfl
end Z
/-! The mirrors: what each def computes, over data. Printed by gen.py. -/
namespace Y
open PySem Z
/-- slots: 0 row, 1 place -/
noncomputable def m_sort_at : SM :=
    (sSeq (sIf (tE (eOp eqD (eFn fLen (nCons (eVar 0) nNil)) (eC (.int 2))))
    (sRet (eTup (nCons (eOp ixD (eVar 0) (eC (.int 0))) nNil)))
    sNil)
    (sRet (eTup (nCons (eOp ixD (eVar 0) (eC (.int 0))) (nCons (eVar 1) nNil)))))
noncomputable def F_sort_at : Fn := run 2 0 m_sort_at
/-- slots: 0 lines, 1 found, 2 line, 3 place, 4 term, 5 terms -/
noncomputable def m_members : SM :=
    (sSeq (sDil 1)
    (sSeq (sFor (iSeq (eVar 0)) (gN 2)
    (sFor (iEnum (eSl cutD (eVar 2) (oSome (eC (.int 1))) oNone)) (gT [(gN 3), (gN 4)])
    (sSeq (sAddTo 1 5 4 (eCall F_sort_at (aCons (eVar 2) (aCons (eVar 3) aNil)))) sNil)))
    (sFrzD 1 (sRet (eVar 1)))))
noncomputable def F_members : Fn := run 1 5 m_members
/-- slots: 0 lines, 1 turn, 2 pairs, 3 role, 4 side, 5 line, 6 x, 7 y -/
noncomputable def m_pairs_of : SM :=
    (sSeq (sAsg (gT [(gN 3), (gN 4)]) (eVar 1))
    (sSeq (sAsg (gN 2) (eNew (nLc [5] (iSeq (eVar 0)) (gN 5) (tAnd (tE (eOp eqD (eFn fLen (nCons (eVar 5) nNil)) (eC (.int 3)))) (tE (eOp eqD (eOp ixD (eVar 5) (eC (.int 0))) (eVar 3)))) (eSl cutD (eVar 5) (oSome (eC (.int 1))) oNone))))
    (sSeq (sIf (tE (eOp eqD (eVar 4) (eC (.int 0))))
    (sRet (eVar 2))
    sNil)
    (sRet (eNew (nLc [6, 7] (iSeq (eVar 2)) (gT [(gN 6), (gN 7)]) tYes (eTup (nCons (eVar 7) (nCons (eVar 6) nNil)))))))))
noncomputable def F_pairs_of : Fn := run 2 6 m_pairs_of
/-- slots: 0 rule, 1 sorts, 2 others, 3 term, 4 word, 5 one, 6 other -/
noncomputable def m_sort_breach : SM :=
    (sSeq (sAsg (gT [(gN 4), (gN 5), (gN 6)]) (eVar 0))
    (sSeq (sAsg (gN 2) (eGet2 (eVar 1) (eVar 6) (eNew (nLst nNil))))
    (sSeq (sFor (iSeq (eGet2 (eVar 1) (eVar 5) (eNew (nLst nNil)))) (gN 3)
    (sIf (tE (eOp eqD (eOp inD (eVar 3) (eVar 2)) (eOp eqD (eVar 4) (eC (.str "apart")))))
    (sRet (eTup (nCons (eVar 3) nNil)))
    sNil))
    (sRet (eC .none)))))
noncomputable def F_sort_breach : Fn := run 2 5 m_sort_breach
/-- slots: 0 rule, 1 lines, 2 others, 3 pair, 4 word, 5 one, 6 other -/
noncomputable def m_pair_breach : SM :=
    (sSeq (sAsg (gT [(gN 4), (gN 5), (gN 6)]) (eVar 0))
    (sSeq (sAsg (gN 2) (eCall F_pairs_of (aCons (eVar 1) (aCons (eVar 6) aNil))))
    (sSeq (sFor (iSeq (eCall F_pairs_of (aCons (eVar 1) (aCons (eVar 5) aNil)))) (gN 3)
    (sIf (tE (eOp eqD (eOp inD (eVar 3) (eVar 2)) (eOp eqD (eVar 4) (eC (.str "away")))))
    (sRet (eVar 3))
    sNil))
    (sRet (eC .none)))))
noncomputable def F_pair_breach : Fn := run 2 5 m_pair_breach
/-- slots: 0 rules, 1 lines, 2 sorts, 3 number, 4 rule, 5 terms -/
noncomputable def m_breach : SM :=
    (sSeq (sAsg (gN 2) (eCall F_members (aCons (eVar 1) aNil)))
    (sSeq (sFor (iEnum (eVar 0)) (gT [(gN 3), (gN 4)])
    (sSeq (sIf (tE (eOp inD (eOp ixD (eVar 4) (eC (.int 0))) (eTup (nCons (eC (.str "within")) (nCons (eC (.str "apart")) nNil)))))
    (sAsg (gN 5) (eCall F_sort_breach (aCons (eVar 4) (aCons (eVar 2) aNil))))
    (sAsg (gN 5) (eCall F_pair_breach (aCons (eVar 4) (aCons (eVar 1) aNil)))))
    (sIf (tE (eOp isntD (eVar 5) (eC .none)))
    (sRet (eTup (nCons (eVar 3) (nCons (eVar 5) nNil))))
    sNil)))
    (sRet (eC .none))))
noncomputable def F_breach : Fn := run 2 4 m_breach
/-- slots: 0 rules, 1 lines -/
noncomputable def m_keeps : SM :=
    (sRet (eOp isD (eCall F_breach (aCons (eVar 0) (aCons (eVar 1) aNil))) (eC .none)))
noncomputable def F_keeps : Fn := run 2 0 m_keeps
/-- slots: 0 script, 1 k -/
noncomputable def m_law_cell : SM :=
    (sSeq (sIf (tE (eOp eqD (eFn fLen (nCons (eVar 0) nNil)) (eC (.int 0))))
    (sRet (eOp addD (eOp mulD (eC (.int 7)) (eVar 1)) (eC (.int 3))))
    sNil)
    (sRet (eFn fAbs (nCons (eOp ixD (eVar 0) (eOp modD (eVar 1) (eFn fLen (nCons (eVar 0) nNil)))) nNil))))
noncomputable def F_law_cell : Fn := run 2 0 m_law_cell
/-- slots: 0 deck, 1 many, 2 number, 3 cell -/
noncomputable def m_law_take : SM :=
    (sSeq (sWhile (tE (eOp ltD (eDk2 0) (eDkL 0)))
    (sSeq (sAsg (gN 3) (eDkG 0))
    (sSeq (sIf (tE (eOp gtD (eVar 3) (eC (.int 0))))
    (sSeq (sDkG 0 (eOp fdivD (eVar 3) (eVar 1)))
    (sRet (eOp modD (eVar 3) (eVar 1))))
    sNil)
    (sDk2 0 (eOp addD (eDk2 0) (eC (.int 1)))))))
    (sSeq (sDk3 0 (eOp addD (eDk3 0) (eC (.int 1))))
    (sSeq (sAsg (gN 2) (eOp addD (eOp mulD (eOp addD (eOp modD (eCall F_law_cell (aCons (eDk0 0) (aCons (eDk3 0) aNil))) (eC (.int 1000003))) (eC (.int 5))) (eOp addD (eDk3 0) (eC (.int 2)))) (eOp mulD (eC (.int 7919)) (eDk3 0))))
    (sRet (eOp modD (eOp fdivD (eOp modD (eOp powD (eVar 2) (eC (.int 5))) (eC (.int 2147483647))) (eC (.int 13))) (eVar 1))))))
noncomputable def F_law_take : Fn := run 2 2 m_law_take
/-- slots: 0 deck, 1 some -/
noncomputable def m_law_pick : SM :=
    (sRet (eOp ixD (eVar 1) (eCall F_law_take (aDk 0 (aCons (eFn fLen (nCons (eVar 1) nNil)) aNil)))))
noncomputable def F_law_pick : Fn := run 2 0 m_law_pick
/-- slots: 0 deck, 1 many, 2 letters, 3 stem, 4 cut, 5 begin, 6 found, 7 turn, 8 name -/
noncomputable def m_law_names : SM :=
    (sSeq (sAsg (gN 2) (eC (.str "abcdefghijklmnopqrstuvwxyz")))
    (sSeq (sAsg (gN 3) (eJoin (eC (.str "")) (eNew (nLc [7] (iRange (eCall F_law_pick (aDk 0 (aCons (eNew (nLst (nCons (eC (.int 0)) (nCons (eC (.int 1)) (nCons (eC (.int 2)) (nCons (eC (.int 4)) nNil)))))) aNil)))) (gN 7) tYes (eCall F_law_pick (aDk 0 (aCons (eVar 2) aNil)))))))
    (sSeq (sAsg (gN 4) (eCall F_law_take (aDk 0 (aCons (eOp addD (eFn fLen (nCons (eVar 3) nNil)) (eC (.int 1))) aNil))))
    (sSeq (sAsg (gN 5) (eCall F_law_take (aDk 0 (aCons (eC (.int 26)) aNil))))
    (sSeq (sOwn 6 (nLst nNil))
    (sSeq (sFor (iRange (eVar 1)) (gN 7)
    (sSeq (sAsg (gN 8) (eOp addD (eOp addD (eSl cutD (eVar 3) oNone (oSome (eVar 4))) (eOp ixD (eVar 2) (eOp modD (eOp addD (eVar 5) (eOp mulD (eC (.int 7)) (eVar 7))) (eC (.int 26))))) (eSl cutD (eVar 3) (oSome (eVar 4)) oNone)))
    (sApp 6 (eOp addD (eVar 8) (eOp mulD (eC (.str "e")) (eOp addD (eCall F_law_pick (aDk 0 (aCons (eNew (nLst (nCons (eC (.int 0)) (nCons (eC (.int 0)) (nCons (eC (.int 0)) (nCons (eC (.int 3)) nNil)))))) aNil))) (eFn fInt (nCons (eOp inD (eVar 8) (eTup (nCons (eC (.str "if")) (nCons (eC (.str "and")) nNil)))) nNil))))))))
    (sFrz 6 (sRet (eVar 6)))))))))
noncomputable def F_law_names : Fn := run 2 7 m_law_names
/-- slots: 0 deck, 1 names -/
noncomputable def m_law_words : SM :=
    (sSeq (sAsg (gN 1) (eCall F_law_names (aDk 0 (aCons (eC (.int 8)) aNil))))
    (sSeq (sIf (tE (eOp eqD (eCall F_law_take (aDk 0 (aCons (eC (.int 3)) aNil))) (eC (.int 0))))
    (sRet (eNew (nLst (nCons (eSl cutD (eVar 1) oNone (oSome (eC (.int 3)))) (nCons (eNew (nLst (nCons (eOp ixD (eVar 1) (eC (.int 0))) (nCons (eOp ixD (eVar 1) (eC (.int 4))) nNil)))) (nCons (eNew (nLst (nCons (eOp ixD (eVar 1) (eC (.int 0))) (nCons (eOp ixD (eVar 1) (eC (.int 6))) (nCons (eOp ixD (eVar 1) (eC (.int 7))) nNil))))) nNil))))))
    sNil)
    (sRet (eNew (nLst (nCons (eSl cutD (eVar 1) oNone (oSome (eC (.int 3)))) (nCons (eSl cutD (eVar 1) (oSome (eC (.int 3))) (oSome (eC (.int 5)))) (nCons (eSl cutD (eVar 1) (oSome (eC (.int 5))) oNone) nNil))))))))
noncomputable def F_law_words : Fn := run 1 1 m_law_words
/-- slots: 0 deck, 1 words -/
noncomputable def m_law_turn : SM :=
    (sRet (eTup (nCons (eCall F_law_pick (aDk 0 (aCons (eOp ixD (eVar 1) (eC (.int 1))) aNil))) (nCons (eCall F_law_take (aDk 0 (aCons (eC (.int 2)) aNil))) nNil))))
noncomputable def F_law_turn : Fn := run 2 0 m_law_turn
/-- slots: 0 deck, 1 words -/
noncomputable def m_law_sort : SM :=
    (sSeq (sIf (tE (eOp eqD (eCall F_law_take (aDk 0 (aCons (eC (.int 2)) aNil))) (eC (.int 0))))
    (sRet (eTup (nCons (eCall F_law_pick (aDk 0 (aCons (eOp ixD (eVar 1) (eC (.int 0))) aNil))) nNil)))
    sNil)
    (sRet (eCall F_law_turn (aDk 0 (aCons (eVar 1) aNil)))))
noncomputable def F_law_sort : Fn := run 2 0 m_law_sort
/-- slots: 0 deck, 1 words, 2 which -/
noncomputable def m_law_rule : SM :=
    (sSeq (sAsg (gN 2) (eCall F_law_take (aDk 0 (aCons (eC (.int 8)) aNil))))
    (sSeq (sIf (tE (eOp ltD (eVar 2) (eC (.int 4))))
    (sRet (eTup (nCons (eC (.str "within")) (nCons (eCall F_law_sort (aDk 0 (aCons (eVar 1) aNil))) (nCons (eCall F_law_sort (aDk 0 (aCons (eVar 1) aNil))) nNil)))))
    sNil)
    (sSeq (sIf (tE (eOp ltD (eVar 2) (eC (.int 6))))
    (sRet (eTup (nCons (eC (.str "along")) (nCons (eCall F_law_turn (aDk 0 (aCons (eVar 1) aNil))) (nCons (eCall F_law_turn (aDk 0 (aCons (eVar 1) aNil))) nNil)))))
    sNil)
    (sSeq (sIf (tE (eOp eqD (eVar 2) (eC (.int 6))))
    (sRet (eTup (nCons (eC (.str "apart")) (nCons (eCall F_law_sort (aDk 0 (aCons (eVar 1) aNil))) (nCons (eCall F_law_sort (aDk 0 (aCons (eVar 1) aNil))) nNil)))))
    sNil)
    (sRet (eTup (nCons (eC (.str "away")) (nCons (eCall F_law_turn (aDk 0 (aCons (eVar 1) aNil))) (nCons (eCall F_law_turn (aDk 0 (aCons (eVar 1) aNil))) nNil)))))))))
noncomputable def F_law_rule : Fn := run 2 1 m_law_rule
/-- slots: 0 deck, 1 words, 2 many, 3 found, 4 turn, 5 rule -/
noncomputable def m_law_rules : SM :=
    (sSeq (sOwn 3 (nLst nNil))
    (sSeq (sFor (iRange (eVar 2)) (gN 4)
    (sSeq (sAsg (gN 5) (eCall F_law_rule (aDk 0 (aCons (eVar 1) aNil))))
    (sIf (tBor 3 (tE (eOp niD (eVar 5) (eVar 3))))
    (sApp 3 (eVar 5))
    sNil)))
    (sFrz 3 (sRet (eFn fTuple (nCons (eVar 3) nNil))))))
noncomputable def F_law_rules : Fn := run 3 3 m_law_rules
/-- slots: 0 deck, 1 words, 2 terms -/
noncomputable def m_law_line : SM :=
    (sSeq (sIf (tE (eOp eqD (eCall F_law_take (aDk 0 (aCons (eC (.int 2)) aNil))) (eC (.int 0))))
    (sRet (eTup (nCons (eCall F_law_pick (aDk 0 (aCons (eOp ixD (eVar 1) (eC (.int 0))) aNil))) (nCons (eCall F_law_pick (aDk 0 (aCons (eVar 2) aNil))) nNil))))
    sNil)
    (sRet (eTup (nCons (eCall F_law_pick (aDk 0 (aCons (eOp ixD (eVar 1) (eC (.int 1))) aNil))) (nCons (eCall F_law_pick (aDk 0 (aCons (eVar 2) aNil))) (nCons (eCall F_law_pick (aDk 0 (aCons (eVar 2) aNil))) nNil))))))
noncomputable def F_law_line : Fn := run 3 0 m_law_line
/-- slots: 0 deck, 1 words, 2 terms, 3 many, 4 found, 5 turn, 6 line -/
noncomputable def m_law_lines : SM :=
    (sSeq (sOwn 4 (nLst nNil))
    (sSeq (sFor (iRange (eVar 3)) (gN 5)
    (sSeq (sAsg (gN 6) (eCall F_law_line (aDk 0 (aCons (eVar 1) (aCons (eVar 2) aNil)))))
    (sIf (tBor 4 (tE (eOp niD (eVar 6) (eVar 4))))
    (sApp 4 (eVar 6))
    sNil)))
    (sFrz 4 (sRet (eFn fTuple (nCons (eVar 4) nNil))))))
noncomputable def F_law_lines : Fn := run 4 3 m_law_lines
/-- slots: 0 lines, 1 sort, 2 found, 3 line, 4 term -/
noncomputable def m_law_of_sort : SM :=
    (sSeq (sAsg (gN 2) (eNew (nLst nNil)))
    (sSeq (sFor (iSeq (eVar 0)) (gN 3)
    (sSeq (sIf (tAnd (tE (eOp eqD (eFn fLen (nCons (eVar 1) nNil)) (eC (.int 1)))) (tAnd (tE (eOp eqD (eFn fLen (nCons (eVar 3) nNil)) (eC (.int 2)))) (tE (eOp eqD (eOp ixD (eVar 3) (eC (.int 0))) (eOp ixD (eVar 1) (eC (.int 0)))))))
    (sAsg (gN 2) (eOp addD (eVar 2) (eOp mulD (eNew (nLst (nCons (eOp ixD (eVar 3) (eC (.int 1))) nNil))) (eFn fInt (nCons (eOp niD (eOp ixD (eVar 3) (eC (.int 1))) (eVar 2)) nNil)))))
    sNil)
    (sIf (tAnd (tE (eOp eqD (eFn fLen (nCons (eVar 1) nNil)) (eC (.int 2)))) (tAnd (tE (eOp eqD (eFn fLen (nCons (eVar 3) nNil)) (eC (.int 3)))) (tE (eOp eqD (eOp ixD (eVar 3) (eC (.int 0))) (eOp ixD (eVar 1) (eC (.int 0)))))))
    (sSeq (sAsg (gN 4) (eOp ixD (eVar 3) (eOp addD (eC (.int 1)) (eOp ixD (eVar 1) (eC (.int 1))))))
    (sAsg (gN 2) (eOp addD (eVar 2) (eOp mulD (eNew (nLst (nCons (eVar 4) nNil))) (eFn fInt (nCons (eOp niD (eVar 4) (eVar 2)) nNil))))))
    sNil)))
    (sRet (eVar 2))))
noncomputable def F_law_of_sort : Fn := run 2 3 m_law_of_sort
/-- slots: 0 lines, 1 turn, 2 found, 3 line -/
noncomputable def m_law_pairs : SM :=
    (sSeq (sOwn 2 (nLst nNil))
    (sSeq (sFor (iSeq (eVar 0)) (gN 3)
    (sIf (tAnd (tE (eOp eqD (eFn fLen (nCons (eVar 3) nNil)) (eC (.int 3)))) (tE (eOp eqD (eOp ixD (eVar 3) (eC (.int 0))) (eOp ixD (eVar 1) (eC (.int 0))))))
    (sApp 2 (eTup (nCons (eOp ixD (eVar 3) (eOp addD (eC (.int 1)) (eOp ixD (eVar 1) (eC (.int 1))))) (nCons (eOp ixD (eVar 3) (eOp subD (eC (.int 2)) (eOp ixD (eVar 1) (eC (.int 1))))) nNil))))
    sNil))
    (sFrz 2 (sRet (eVar 2)))))
noncomputable def F_law_pairs : Fn := run 2 2 m_law_pairs
/-- slots: 0 lines, 1 rule, 2 among, 3 word, 4 one, 5 other, 6 ones, 7 others, 8 part -/
noncomputable def m_law_is_so : SM :=
    (sSeq (sAsg (gT [(gN 3), (gN 4), (gN 5)]) (eVar 1))
    (sSeq (sIf (tE (eOp inD (eVar 3) (eTup (nCons (eC (.str "within")) (nCons (eC (.str "apart")) nNil)))))
    (sAsg (gT [(gN 6), (gN 7)]) (eTup (nCons (eCall F_law_of_sort (aCons (eVar 0) (aCons (eVar 4) aNil))) (nCons (eCall F_law_of_sort (aCons (eVar 0) (aCons (eVar 5) aNil))) nNil))))
    (sAsg (gT [(gN 6), (gN 7)]) (eTup (nCons (eCall F_law_pairs (aCons (eVar 0) (aCons (eVar 4) aNil))) (nCons (eCall F_law_pairs (aCons (eVar 0) (aCons (eVar 5) aNil))) nNil)))))
    (sSeq (sAsg (gN 2) (eNew (nLc [8] (iSeq (eVar 6)) (gN 8) tYes (eOp inD (eVar 8) (eVar 7)))))
    (sRet (eOp niD (eOp inD (eVar 3) (eTup (nCons (eC (.str "apart")) (nCons (eC (.str "away")) nNil)))) (eVar 2))))))
noncomputable def F_law_is_so : Fn := run 2 7 m_law_is_so
/-- slots: 0 deck, 1 lines, 2 rule, 3 terms, 4 word, 5 one, 6 other, 7 there, 8 term, 9 x, 10 y, 11 partner -/
noncomputable def m_law_missing : SM :=
    (sSeq (sAsg (gT [(gN 4), (gN 5), (gN 6)]) (eVar 2))
    (sSeq (sIf (tE (eOp eqD (eVar 4) (eC (.str "along"))))
    (sSeq (sAsg (gN 7) (eCall F_law_pairs (aCons (eVar 1) (aCons (eVar 6) aNil))))
    (sFor (iSeq (eCall F_law_pairs (aCons (eVar 1) (aCons (eVar 5) aNil)))) (gT [(gN 9), (gN 10)])
    (sIf (tE (eOp niD (eTup (nCons (eVar 9) (nCons (eVar 10) nNil))) (eVar 7)))
    (sRet (eOp ixD (eNew (nLst (nCons (eTup (nCons (eOp ixD (eVar 6) (eC (.int 0))) (nCons (eVar 9) (nCons (eVar 10) nNil)))) (nCons (eTup (nCons (eOp ixD (eVar 6) (eC (.int 0))) (nCons (eVar 10) (nCons (eVar 9) nNil)))) nNil)))) (eOp ixD (eVar 6) (eC (.int 1)))))
    sNil)))
    sNil)
    (sSeq (sIf (tE (eOp eqD (eVar 4) (eC (.str "within"))))
    (sSeq (sAsg (gN 7) (eCall F_law_of_sort (aCons (eVar 1) (aCons (eVar 6) aNil))))
    (sFor (iSeq (eCall F_law_of_sort (aCons (eVar 1) (aCons (eVar 5) aNil)))) (gN 8)
    (sSeq (sIf (tAnd (tE (eOp niD (eVar 8) (eVar 7))) (tE (eOp eqD (eFn fLen (nCons (eVar 6) nNil)) (eC (.int 1)))))
    (sRet (eTup (nCons (eOp ixD (eVar 6) (eC (.int 0))) (nCons (eVar 8) nNil))))
    sNil)
    (sIf (tE (eOp niD (eVar 8) (eVar 7)))
    (sSeq (sAsg (gN 11) (eCall F_law_pick (aDk 0 (aCons (eVar 3) aNil))))
    (sRet (eOp ixD (eNew (nLst (nCons (eTup (nCons (eOp ixD (eVar 6) (eC (.int 0))) (nCons (eVar 8) (nCons (eVar 11) nNil)))) (nCons (eTup (nCons (eOp ixD (eVar 6) (eC (.int 0))) (nCons (eVar 11) (nCons (eVar 8) nNil)))) nNil)))) (eOp ixD (eVar 6) (eC (.int 1))))))
    sNil))))
    sNil)
    (sRet (eC .none)))))
noncomputable def F_law_missing : Fn := run 4 8 m_law_missing
/-- slots: 0 deck, 1 rules, 2 lines, 3 terms, 4 found, 5 again, 6 rule, 7 line -/
noncomputable def m_law_closed : SM :=
    (sSeq (sOwn 4 (nFn fList (nCons (eVar 2) nNil)))
    (sSeq (sAsg (gN 5) (eC (.bool true)))
    (sSeq (sWhile (tE (eVar 5))
    (sSeq (sAsg (gN 5) (eC (.bool false)))
    (sFor (iSeq (eVar 1)) (gN 6)
    (sSeq (sAsg (gN 7) (eBor 4 (eCall F_law_missing (aDk 0 (aCons (eVar 4) (aCons (eVar 6) (aCons (eVar 3) aNil)))))))
    (sIf (tE (eOp isntD (eVar 7) (eC .none)))
    (sSeq (sApp 4 (eVar 7))
    (sAsg (gN 5) (eC (.bool true))))
    sNil)))))
    (sFrz 4 (sRet (eFn fTuple (nCons (eVar 4) nNil)))))))
noncomputable def F_law_closed : Fn := run 4 4 m_law_closed
/-- slots: 0 lines, 1 rule, 2 terms, 3 word, 4 one, 5 other, 6 is_of, 7 term -/
noncomputable def m_law_breaks : SM :=
    (sSeq (sAsg (gT [(gN 3), (gN 4), (gN 5)]) (eVar 1))
    (sSeq (sIf (tOr (tNot (tE (eUn (isiD PyData.isTuple) (eVar 2)))) (tE (eOp neD (eFn fLen (nCons (eVar 2) nNil)) (eOp addD (eC (.int 1)) (eFn fInt (nCons (eOp inD (eVar 3) (eTup (nCons (eC (.str "along")) (nCons (eC (.str "away")) nNil)))) nNil))))))
    (sRet (eC (.bool false)))
    sNil)
    (sSeq (sIf (tE (eOp neD (eNew (nLc [7] (iSeq (eVar 2)) (gN 7) (tE (eUn (isiD PyData.isBool) (eVar 7))) (eVar 7))) (eNew (nLst nNil))))
    (sRet (eC (.bool false)))
    sNil)
    (sSeq (sIf (tE (eOp inD (eVar 3) (eTup (nCons (eC (.str "within")) (nCons (eC (.str "apart")) nNil)))))
    (sSeq (sAsg (gN 6) (eOp inD (eOp ixD (eVar 2) (eC (.int 0))) (eCall F_law_of_sort (aCons (eVar 0) (aCons (eVar 4) aNil)))))
    (sRet (eAnd (eVar 6) (eOp eqD (eOp inD (eOp ixD (eVar 2) (eC (.int 0))) (eCall F_law_of_sort (aCons (eVar 0) (aCons (eVar 5) aNil)))) (eOp eqD (eVar 3) (eC (.str "apart")))))))
    sNil)
    (sRet (eAnd (eOp inD (eVar 2) (eCall F_law_pairs (aCons (eVar 0) (aCons (eVar 4) aNil)))) (eOp eqD (eOp inD (eVar 2) (eCall F_law_pairs (aCons (eVar 0) (aCons (eVar 5) aNil)))) (eOp eqD (eVar 3) (eC (.str "away"))))))))))
noncomputable def F_law_breaks : Fn := run 3 5 m_law_breaks
/-- slots: 0 rules, 1 lines, 2 wrong, 3 found, 4 is_kept, 5 number, 6 rule -/
noncomputable def m_law_is_right : SM :=
    (sSeq (sAsg (gN 2) (eNew (nLc [5, 6] (iEnum (eVar 0)) (gT [(gN 5), (gN 6)]) (tNot (tE (eCall F_law_is_so (aCons (eVar 1) (aCons (eVar 6) aNil))))) (eVar 5))))
    (sSeq (sAsg (gN 3) (eCall F_breach (aCons (eVar 0) (aCons (eVar 1) aNil))))
    (sSeq (sAsg (gN 4) (eCall F_keeps (aCons (eVar 0) (aCons (eVar 1) aNil))))
    (sSeq (sIf (tOr (tNot (tE (eUn (isiD PyData.isBool) (eVar 4)))) (tE (eOp neD (eVar 4) (eOp eqD (eVar 2) (eNew (nLst nNil))))))
    (sRet (eC (.bool false)))
    sNil)
    (sSeq (sIf (tE (eOp eqD (eVar 2) (eNew (nLst nNil))))
    (sRet (eOp isD (eVar 3) (eC .none)))
    sNil)
    (sSeq (sIf (tOr (tNot (tE (eUn (isiD PyData.isTuple) (eVar 3)))) (tOr (tE (eOp neD (eFn fLen (nCons (eVar 3) nNil)) (eC (.int 2)))) (tOr (tE (eOp neD (eOp ixD (eVar 3) (eC (.int 0))) (eOp ixD (eVar 2) (eC (.int 0))))) (tE (eUn (isiD PyData.isBool) (eOp ixD (eVar 3) (eC (.int 0))))))))
    (sRet (eC (.bool false)))
    sNil)
    (sRet (eCall F_law_breaks (aCons (eVar 1) (aCons (eOp ixD (eVar 0) (eOp ixD (eVar 2) (eC (.int 0)))) (aCons (eOp ixD (eVar 3) (eC (.int 1))) aNil)))))))))))
noncomputable def F_law_is_right : Fn := run 2 5 m_law_is_right
/-- slots: 0 script, 1 deck, 2 is_closed, 3 words, 4 rules, 5 terms, 6 lines, 7 more, 8 others, 9 at, 10 some, 11 line -/
noncomputable def m_law : SM :=
    (sSeq (sAsg (gN 2) (eOp gtD (eCall F_law_take (aDk 1 (aCons (eC (.int 3)) aNil))) (eC (.int 0))))
    (sSeq (sAsg (gN 3) (eCall F_law_words (aDk 1 aNil)))
    (sSeq (sAsg (gN 4) (eCall F_law_rules (aDk 1 (aCons (eVar 3) (aCons (eCall F_law_pick (aDk 1 (aCons (eNew (nLst (nCons (eC (.int 0)) (nCons (eC (.int 1)) (nCons (eC (.int 3)) (nCons (eC (.int 6)) nNil)))))) aNil))) aNil)))))
    (sSeq (sAsg (gN 5) (eOp addD (eOp ixD (eVar 3) (eC (.int 2))) (eNew (nLst (nCons (eC (.int 0)) (nCons (eOp addD (eC (.int 1)) (eCall F_law_take (aDk 1 (aCons (eC (.int 1000)) aNil)))) nNil))))))
    (sSeq (sAsg (gN 6) (eCall F_law_lines (aDk 1 (aCons (eVar 3) (aCons (eVar 5) (aCons (eCall F_law_pick (aDk 1 (aCons (eNew (nLst (nCons (eC (.int 0)) (nCons (eC (.int 1)) (nCons (eC (.int 4)) (nCons (eC (.int 10)) nNil)))))) aNil))) aNil))))))
    (sSeq (sIf (tE (eVar 2))
    (sAsg (gN 6) (eCall F_law_closed (aDk 1 (aCons (eVar 4) (aCons (eVar 6) (aCons (eVar 5) aNil))))))
    sNil)
    (sSeq (sAsg (gN 7) (eCall F_law_line (aDk 1 (aCons (eVar 3) (aCons (eVar 5) aNil)))))
    (sSeq (sAsg (gN 8) (eOp addD (eFn fTuple (nCons (eNew (nLc [11] (iSeq (eVar 6)) (gN 11) (tE (eOp neD (eVar 11) (eVar 7))) (eVar 11))) nNil)) (eTup (nCons (eVar 7) nNil))))
    (sSeq (sAsg (gN 9) (eCall F_law_take (aDk 1 (aCons (eOp addD (eFn fLen (nCons (eVar 6) nNil)) (eC (.int 1))) aNil))))
    (sSeq (sFor (iSeq (eNew (nLst (nCons (eVar 6) (nCons (eUn (backT 0) (eVar 6)) (nCons (eVar 8) (nCons (eOp addD (eSl cutD (eVar 6) oNone (oSome (eVar 9))) (eSl cutD (eVar 6) (oSome (eOp addD (eVar 9) (eC (.int 1)))) oNone)) (nCons (eOp addD (eSl cutD (eVar 6) (oSome (eVar 9)) oNone) (eSl cutD (eVar 6) oNone (oSome (eVar 9)))) nNil)))))))) (gN 10)
    (sIf (tNot (tE (eCall F_law_is_right (aCons (eVar 4) (aCons (eVar 10) aNil)))))
    (sRet (eC (.bool false)))
    sNil))
    (sRet (eAnd (eCall F_law_is_right (aCons (eVar 4) (aCons (eVar 6) aNil))) (eCall F_law_is_right (aCons (eUn (backT 0) (eVar 4)) (aCons (eVar 6) aNil)))))))))))))))
end Y
/-! The walks: each def hands back what its mirror tells. Printed by gen.py. -/
namespace Y
open PySem PySem.Spec PyProof.Rows L2 Z
open PySem.SeqAt
def topS (i : Nat) : Stmt := PySem.Challenge.pw_ledquestions_k44_keeps_and_breach.main.body.getD i (.Pass ⟨0, 0, 0, 0⟩)
abbrev s_sort_at : Stmt := topS 1
abbrev N_sort_at : List Str := ["row", "place"]
theorem sc_sort_at : FnScope N_sort_at ["row", "place"] (defScope s_sort_at) := ⟨rfl, rfl, rfl, by decide +kernel, rfl, by decide +kernel, by decide +kernel⟩
abbrev s_members : Stmt := topS 3
abbrev N_members : List Str := ["lines", "found", "line", "place", "term", "terms"]
theorem sc_members : FnScope N_members ["lines"] (defScope s_members) := ⟨rfl, rfl, rfl, by decide +kernel, rfl, by decide +kernel, by decide +kernel⟩
abbrev s_pairs_of : Stmt := topS 4
abbrev N_pairs_of : List Str := ["lines", "turn", "pairs", "role", "side", "line", "x", "y"]
theorem sc_pairs_of : FnScope N_pairs_of ["lines", "turn"] (defScope s_pairs_of) := ⟨rfl, rfl, rfl, by decide +kernel, rfl, by decide +kernel, by decide +kernel⟩
abbrev s_sort_breach : Stmt := topS 5
abbrev N_sort_breach : List Str := ["rule", "sorts", "others", "term", "word", "one", "other"]
theorem sc_sort_breach : FnScope N_sort_breach ["rule", "sorts"] (defScope s_sort_breach) := ⟨rfl, rfl, rfl, by decide +kernel, rfl, by decide +kernel, by decide +kernel⟩
abbrev s_pair_breach : Stmt := topS 6
abbrev N_pair_breach : List Str := ["rule", "lines", "others", "pair", "word", "one", "other"]
theorem sc_pair_breach : FnScope N_pair_breach ["rule", "lines"] (defScope s_pair_breach) := ⟨rfl, rfl, rfl, by decide +kernel, rfl, by decide +kernel, by decide +kernel⟩
abbrev s_breach : Stmt := topS 7
abbrev N_breach : List Str := ["rules", "lines", "sorts", "number", "rule", "terms"]
theorem sc_breach : FnScope N_breach ["rules", "lines"] (defScope s_breach) := ⟨rfl, rfl, rfl, by decide +kernel, rfl, by decide +kernel, by decide +kernel⟩
abbrev s_keeps : Stmt := topS 8
abbrev N_keeps : List Str := ["rules", "lines"]
theorem sc_keeps : FnScope N_keeps ["rules", "lines"] (defScope s_keeps) := ⟨rfl, rfl, rfl, by decide +kernel, rfl, by decide +kernel, by decide +kernel⟩
abbrev s_law_cell : Stmt := topS 10
abbrev N_law_cell : List Str := ["script", "k"]
theorem sc_law_cell : FnScope N_law_cell ["script", "k"] (defScope s_law_cell) := ⟨rfl, rfl, rfl, by decide +kernel, rfl, by decide +kernel, by decide +kernel⟩
abbrev s_law_deck : Stmt := topS 11
abbrev N_law_deck : List Str := ["script", "cells", "cell"]
theorem sc_law_deck : FnScope N_law_deck ["script"] (defScope s_law_deck) := ⟨rfl, rfl, rfl, by decide +kernel, rfl, by decide +kernel, by decide +kernel⟩
abbrev s_law_take : Stmt := topS 12
abbrev N_law_take : List Str := ["deck", "many", "number", "cell"]
theorem sc_law_take : FnScope N_law_take ["deck", "many"] (defScope s_law_take) := ⟨rfl, rfl, rfl, by decide +kernel, rfl, by decide +kernel, by decide +kernel⟩
abbrev s_law_pick : Stmt := topS 13
abbrev N_law_pick : List Str := ["deck", "some"]
theorem sc_law_pick : FnScope N_law_pick ["deck", "some"] (defScope s_law_pick) := ⟨rfl, rfl, rfl, by decide +kernel, rfl, by decide +kernel, by decide +kernel⟩
abbrev s_law_names : Stmt := topS 14
abbrev N_law_names : List Str := ["deck", "many", "letters", "stem", "cut", "begin", "found", "turn", "name"]
theorem sc_law_names : FnScope N_law_names ["deck", "many"] (defScope s_law_names) := ⟨rfl, rfl, rfl, by decide +kernel, rfl, by decide +kernel, by decide +kernel⟩
abbrev s_law_words : Stmt := topS 15
abbrev N_law_words : List Str := ["deck", "names"]
theorem sc_law_words : FnScope N_law_words ["deck"] (defScope s_law_words) := ⟨rfl, rfl, rfl, by decide +kernel, rfl, by decide +kernel, by decide +kernel⟩
abbrev s_law_turn : Stmt := topS 16
abbrev N_law_turn : List Str := ["deck", "words"]
theorem sc_law_turn : FnScope N_law_turn ["deck", "words"] (defScope s_law_turn) := ⟨rfl, rfl, rfl, by decide +kernel, rfl, by decide +kernel, by decide +kernel⟩
abbrev s_law_sort : Stmt := topS 17
abbrev N_law_sort : List Str := ["deck", "words"]
theorem sc_law_sort : FnScope N_law_sort ["deck", "words"] (defScope s_law_sort) := ⟨rfl, rfl, rfl, by decide +kernel, rfl, by decide +kernel, by decide +kernel⟩
abbrev s_law_rule : Stmt := topS 18
abbrev N_law_rule : List Str := ["deck", "words", "which"]
theorem sc_law_rule : FnScope N_law_rule ["deck", "words"] (defScope s_law_rule) := ⟨rfl, rfl, rfl, by decide +kernel, rfl, by decide +kernel, by decide +kernel⟩
abbrev s_law_rules : Stmt := topS 19
abbrev N_law_rules : List Str := ["deck", "words", "many", "found", "turn", "rule"]
theorem sc_law_rules : FnScope N_law_rules ["deck", "words", "many"] (defScope s_law_rules) := ⟨rfl, rfl, rfl, by decide +kernel, rfl, by decide +kernel, by decide +kernel⟩
abbrev s_law_line : Stmt := topS 20
abbrev N_law_line : List Str := ["deck", "words", "terms"]
theorem sc_law_line : FnScope N_law_line ["deck", "words", "terms"] (defScope s_law_line) := ⟨rfl, rfl, rfl, by decide +kernel, rfl, by decide +kernel, by decide +kernel⟩
abbrev s_law_lines : Stmt := topS 21
abbrev N_law_lines : List Str := ["deck", "words", "terms", "many", "found", "turn", "line"]
theorem sc_law_lines : FnScope N_law_lines ["deck", "words", "terms", "many"] (defScope s_law_lines) := ⟨rfl, rfl, rfl, by decide +kernel, rfl, by decide +kernel, by decide +kernel⟩
abbrev s_law_of_sort : Stmt := topS 22
abbrev N_law_of_sort : List Str := ["lines", "sort", "found", "line", "term"]
theorem sc_law_of_sort : FnScope N_law_of_sort ["lines", "sort"] (defScope s_law_of_sort) := ⟨rfl, rfl, rfl, by decide +kernel, rfl, by decide +kernel, by decide +kernel⟩
abbrev s_law_pairs : Stmt := topS 23
abbrev N_law_pairs : List Str := ["lines", "turn", "found", "line"]
theorem sc_law_pairs : FnScope N_law_pairs ["lines", "turn"] (defScope s_law_pairs) := ⟨rfl, rfl, rfl, by decide +kernel, rfl, by decide +kernel, by decide +kernel⟩
abbrev s_law_is_so : Stmt := topS 24
abbrev N_law_is_so : List Str := ["lines", "rule", "among", "word", "one", "other", "ones", "others", "part"]
theorem sc_law_is_so : FnScope N_law_is_so ["lines", "rule"] (defScope s_law_is_so) := ⟨rfl, rfl, rfl, by decide +kernel, rfl, by decide +kernel, by decide +kernel⟩
abbrev s_law_missing : Stmt := topS 25
abbrev N_law_missing : List Str := ["deck", "lines", "rule", "terms", "word", "one", "other", "there", "term", "x", "y", "partner"]
theorem sc_law_missing : FnScope N_law_missing ["deck", "lines", "rule", "terms"] (defScope s_law_missing) := ⟨rfl, rfl, rfl, by decide +kernel, rfl, by decide +kernel, by decide +kernel⟩
abbrev s_law_closed : Stmt := topS 26
abbrev N_law_closed : List Str := ["deck", "rules", "lines", "terms", "found", "again", "rule", "line"]
theorem sc_law_closed : FnScope N_law_closed ["deck", "rules", "lines", "terms"] (defScope s_law_closed) := ⟨rfl, rfl, rfl, by decide +kernel, rfl, by decide +kernel, by decide +kernel⟩
abbrev s_law_breaks : Stmt := topS 27
abbrev N_law_breaks : List Str := ["lines", "rule", "terms", "word", "one", "other", "is_of", "term"]
theorem sc_law_breaks : FnScope N_law_breaks ["lines", "rule", "terms"] (defScope s_law_breaks) := ⟨rfl, rfl, rfl, by decide +kernel, rfl, by decide +kernel, by decide +kernel⟩
abbrev s_law_is_right : Stmt := topS 28
abbrev N_law_is_right : List Str := ["rules", "lines", "wrong", "found", "is_kept", "number", "rule"]
theorem sc_law_is_right : FnScope N_law_is_right ["rules", "lines"] (defScope s_law_is_right) := ⟨rfl, rfl, rfl, by decide +kernel, rfl, by decide +kernel, by decide +kernel⟩
abbrev s_law : Stmt := topS 29
abbrev N_law : List Str := ["script", "deck", "is_closed", "words", "rules", "terms", "lines", "more", "others", "at", "some", "line"]
theorem sc_law : FnScope N_law ["script"] (defScope s_law) := ⟨rfl, rfl, rfl, by decide +kernel, rfl, by decide +kernel, by decide +kernel⟩
/-- what the top has left: where each def stands, which names are the built-ins -/
structure Tx (K : PySem.W.Frag) (mg : Str → Option Value) where
  d_sort_at : DefAt K mg "sort_at" s_sort_at ["row", "place"]
  d_members : DefAt K mg "members" s_members ["lines"]
  d_pairs_of : DefAt K mg "pairs_of" s_pairs_of ["lines", "turn"]
  d_sort_breach : DefAt K mg "sort_breach" s_sort_breach ["rule", "sorts"]
  d_pair_breach : DefAt K mg "pair_breach" s_pair_breach ["rule", "lines"]
  d_breach : DefAt K mg "breach" s_breach ["rules", "lines"]
  d_keeps : DefAt K mg "keeps" s_keeps ["rules", "lines"]
  d_law_cell : DefAt K mg "_law_cell" s_law_cell ["script", "k"]
  d_law_deck : DefAt K mg "_law_deck" s_law_deck ["script"]
  d_law_take : DefAt K mg "_law_take" s_law_take ["deck", "many"]
  d_law_pick : DefAt K mg "_law_pick" s_law_pick ["deck", "some"]
  d_law_names : DefAt K mg "_law_names" s_law_names ["deck", "many"]
  d_law_words : DefAt K mg "_law_words" s_law_words ["deck"]
  d_law_turn : DefAt K mg "_law_turn" s_law_turn ["deck", "words"]
  d_law_sort : DefAt K mg "_law_sort" s_law_sort ["deck", "words"]
  d_law_rule : DefAt K mg "_law_rule" s_law_rule ["deck", "words"]
  d_law_rules : DefAt K mg "_law_rules" s_law_rules ["deck", "words", "many"]
  d_law_line : DefAt K mg "_law_line" s_law_line ["deck", "words", "terms"]
  d_law_lines : DefAt K mg "_law_lines" s_law_lines ["deck", "words", "terms", "many"]
  d_law_of_sort : DefAt K mg "_law_of_sort" s_law_of_sort ["lines", "sort"]
  d_law_pairs : DefAt K mg "_law_pairs" s_law_pairs ["lines", "turn"]
  d_law_is_so : DefAt K mg "_law_is_so" s_law_is_so ["lines", "rule"]
  d_law_missing : DefAt K mg "_law_missing" s_law_missing ["deck", "lines", "rule", "terms"]
  d_law_closed : DefAt K mg "_law_closed" s_law_closed ["deck", "rules", "lines", "terms"]
  d_law_breaks : DefAt K mg "_law_breaks" s_law_breaks ["lines", "rule", "terms"]
  d_law_is_right : DefAt K mg "_law_is_right" s_law_is_right ["rules", "lines"]
  z_abs : mg "abs" = none
  z_bool : mg "bool" = none
  z_enumerate : mg "enumerate" = none
  z_int : mg "int" = none
  z_isinstance : mg "isinstance" = none
  z_len : mg "len" = none
  z_list : mg "list" = none
  z_range : mg "range" = none
  z_tuple : mg "tuple" = none
section
variable {P : Program} {w : World} {K : PySem.W.Frag} {mg : Str → Option Value} {base : Heap}
theorem ok_sort_at (T : Tx K mg) : FnOk P w K mg base CX0 1 T.d_sort_at.f T.d_sort_at.fd ["row", "place"] (spZ K mg 2 F_sort_at) :=
  fn_ok (k := 0) T.d_sort_at.fu sc_sort_at fun cdv A outer s H E hr =>
    (s_cons (s_if (t_cmp (z_eq hr.units) (d_b c_len (by rfl) T.z_len (by decide +kernel) (n_cons (d_var (pv 0)) n_nil)) d_int (nomark _))
    (s_one (s_ret (d_tup (n_cons (d_ix (d_var (pv 0)) d_int (fun _ _ => rfl)) n_nil))))
    s_nil)
    (s_one (s_ret (d_tup (n_cons (d_ix (d_var (pv 0)) d_int (fun _ _ => rfl)) (n_cons (d_var (pv 1)) n_nil))))))
theorem ok_members (T : Tx K mg) : FnOk P w K mg base CX0 2 T.d_members.f T.d_members.fd ["lines"] (spZ K mg 1 F_members) :=
  fn_ok (k := 1) T.d_members.fu sc_members fun cdv A outer s H E hr =>
    (s_cons (s_dil (ps_set (i := 1) sc_members.nd rfl (by first | exact Or.inl rfl | exact Or.inr rfl) pe_dnewT))
    (s_cons (s_for PassesOwn.never rfl (i_seq (d_var (pv 0))) (g_name (pg_name (i := 2) sc_members.nd rfl (by first | exact Or.inl rfl | exact Or.inr rfl)))
    (s_one (s_for PassesOwn.never rfl (i_enum (by rfl) T.z_enumerate (n_cons (d_sl (d_var (pv 2)) (o_some d_int) o_none) n_nil)) (g_tup rfl (g_cons (g_name (pg_name (i := 3) sc_members.nd rfl (by first | exact Or.inl rfl | exact Or.inr rfl))) (g_cons (g_name (pg_name (i := 4) sc_members.nd rfl (by first | exact Or.inl rfl | exact Or.inr rfl))) g_nil)))
    (s_addTo (ps_set (i := 5) sc_members.nd rfl (by first | exact Or.inl rfl | exact Or.inr rfl) (pe_bm PySem.F.plainAttrs_dict PySem.F.slot_dict_setdefault PySem.F.type_dict_setdefault (mt_setdT (hu_of hr)) (pv 1) (pa_cons (d_call (ok_sort_at T) (hr.mono (by decide)) (by rfl) T.d_sort_at.at_ T.d_sort_at.fu.kp T.d_sort_at.b run_len (a_cons (d_var (pv 2)) (a_cons (d_var (pv 3)) a_nil))) (pa_cons (pe_lst pa_nil) pa_nil))))
    (ps_if (pt_cmpR (z_ni hr.units) (pv 4) (pv 5) (by rfl)) (pss_one (ps_expr (pe_bm PySem.F.plainAttrs_list PySem.F.slot_list_append PySem.F.type_list_append mt_append (pv 5) (pa_cons (pv 4) pa_nil)))) pss_nil)
    s_nil))))
    (s_one (s_frzD (i := 1) (s_ret (d_var (pv 1)))))))
theorem ok_pairs_of (T : Tx K mg) : FnOk P w K mg base CX0 1 T.d_pairs_of.f T.d_pairs_of.fd ["lines", "turn"] (spZ K mg 2 F_pairs_of) :=
  fn_ok (k := 0) T.d_pairs_of.fu sc_pairs_of fun cdv A outer s H E hr =>
    (s_cons (s_asg (d_var (pv 1)) (g_tup rfl (g_cons (g_name (pg_name (i := 3) sc_pairs_of.nd rfl (by first | exact Or.inl rfl | exact Or.inr rfl))) (g_cons (g_name (pg_name (i := 4) sc_pairs_of.nd rfl (by first | exact Or.inl rfl | exact Or.inr rfl))) g_nil))))
    (s_cons (s_new (s_lc (own := [("line", 5)]) (i := 2) rfl sc_pairs_of.nd rfl rfl (sw_true rfl rfl rfl (by decide +kernel)) (i_seq (d_var (pv 0))) (blkOk_by (own := [("line", 5)]) (N := N_pairs_of) (sc := defScope s_pairs_of) (by decide +kernel)) (fun _ _ _ _ _ => (g_name (pg_name (i := 5) sc_pairs_of.nd rfl (by first | exact Or.inl rfl | exact Or.inr rfl)))) (fun _ _ _ _ _ => (t_if1 (PW.pt (w_and (t_cmp (z_eq hr.units) (d_b c_len (by rfl) T.z_len (by decide +kernel) (n_cons (d_var (pv 5)) n_nil)) d_int (nomark _)) (w_and1 (t_cmp (z_eq hr.units) (d_ix (d_var (pv 5)) d_int (fun _ _ => rfl)) (d_var (pv 3)) (nomark _))))))) (fun _ _ _ _ _ => (d_sl (d_var (pv 5)) (o_some d_int) o_none)) (by decide)))
    (s_cons (s_if (t_cmp (z_eq hr.units) (d_var (pv 4)) d_int (nomark _))
    (s_one (s_ret (d_var (pv 2))))
    s_nil)
    (s_one (s_ret (d_new (l_lc (own := [("x", 6), ("y", 7)]) rfl sc_pairs_of.nd (i_seq (d_var (pv 2))) (blkOk_by (own := [("x", 6), ("y", 7)]) (N := N_pairs_of) (sc := defScope s_pairs_of) (by decide +kernel)) (fun _ _ _ _ _ => (g_tup rfl (g_cons (g_name (pg_name (i := 6) sc_pairs_of.nd rfl (by first | exact Or.inl rfl | exact Or.inr rfl))) (g_cons (g_name (pg_name (i := 7) sc_pairs_of.nd rfl (by first | exact Or.inl rfl | exact Or.inr rfl))) g_nil)))) (fun _ _ _ _ _ => (t_yes)) (fun _ _ _ _ _ => (d_tup (n_cons (d_var (pv 7)) (n_cons (d_var (pv 6)) n_nil)))) (by decide))))))))
theorem ok_sort_breach (T : Tx K mg) : FnOk P w K mg base CX0 1 T.d_sort_breach.f T.d_sort_breach.fd ["rule", "sorts"] (spZ K mg 2 F_sort_breach) :=
  fn_ok (k := 0) T.d_sort_breach.fu sc_sort_breach fun cdv A outer s H E hr =>
    (s_cons (s_asg (d_var (pv 0)) (g_tup rfl (g_cons (g_name (pg_name (i := 4) sc_sort_breach.nd rfl (by first | exact Or.inl rfl | exact Or.inr rfl))) (g_cons (g_name (pg_name (i := 5) sc_sort_breach.nd rfl (by first | exact Or.inl rfl | exact Or.inr rfl))) (g_cons (g_name (pg_name (i := 6) sc_sort_breach.nd rfl (by first | exact Or.inl rfl | exact Or.inr rfl))) g_nil)))))
    (s_cons (s_set (ps_set (i := 2) sc_sort_breach.nd rfl (by first | exact Or.inl rfl | exact Or.inr rfl) (d_get2 hr.units (d_var (pv 1)) (d_var (pv 6)) (d_new (l_lst n_nil)))))
    (s_cons (s_for PassesOwn.never rfl (i_seq (d_get2 hr.units (d_var (pv 1)) (d_var (pv 5)) (d_new (l_lst n_nil)))) (g_name (pg_name (i := 3) sc_sort_breach.nd rfl (by first | exact Or.inl rfl | exact Or.inr rfl)))
    (s_one (s_if (t_cmp (z_eq hr.units) (d_cmp (z_in hr.units) (d_var (pv 3)) (d_var (pv 2)) (by rfl)) (d_cmp (z_eq hr.units) (d_var (pv 4)) d_str (nomark _)) (nomark _))
    (s_one (s_ret (d_tup (n_cons (d_var (pv 3)) n_nil))))
    s_nil)))
    (s_one (s_ret d_non)))))
theorem ok_pair_breach (T : Tx K mg) : FnOk P w K mg base CX0 2 T.d_pair_breach.f T.d_pair_breach.fd ["rule", "lines"] (spZ K mg 2 F_pair_breach) :=
  fn_ok (k := 1) T.d_pair_breach.fu sc_pair_breach fun cdv A outer s H E hr =>
    (s_cons (s_asg (d_var (pv 0)) (g_tup rfl (g_cons (g_name (pg_name (i := 4) sc_pair_breach.nd rfl (by first | exact Or.inl rfl | exact Or.inr rfl))) (g_cons (g_name (pg_name (i := 5) sc_pair_breach.nd rfl (by first | exact Or.inl rfl | exact Or.inr rfl))) (g_cons (g_name (pg_name (i := 6) sc_pair_breach.nd rfl (by first | exact Or.inl rfl | exact Or.inr rfl))) g_nil)))))
    (s_cons (s_set (ps_set (i := 2) sc_pair_breach.nd rfl (by first | exact Or.inl rfl | exact Or.inr rfl) (d_call (ok_pairs_of T) (hr.mono (by decide)) (by rfl) T.d_pairs_of.at_ T.d_pairs_of.fu.kp T.d_pairs_of.b run_len (a_cons (d_var (pv 1)) (a_cons (d_var (pv 6)) a_nil)))))
    (s_cons (s_for PassesOwn.never rfl (i_seq (d_call (ok_pairs_of T) (hr.mono (by decide)) (by rfl) T.d_pairs_of.at_ T.d_pairs_of.fu.kp T.d_pairs_of.b run_len (a_cons (d_var (pv 1)) (a_cons (d_var (pv 5)) a_nil)))) (g_name (pg_name (i := 3) sc_pair_breach.nd rfl (by first | exact Or.inl rfl | exact Or.inr rfl)))
    (s_one (s_if (t_cmp (z_eq hr.units) (d_cmp (z_in hr.units) (d_var (pv 3)) (d_var (pv 2)) (by rfl)) (d_cmp (z_eq hr.units) (d_var (pv 4)) d_str (nomark _)) (nomark _))
    (s_one (s_ret (d_var (pv 3))))
    s_nil)))
    (s_one (s_ret d_non)))))
theorem ok_breach (T : Tx K mg) : FnOk P w K mg base CX0 3 T.d_breach.f T.d_breach.fd ["rules", "lines"] (spZ K mg 2 F_breach) :=
  fn_ok (k := 2) T.d_breach.fu sc_breach fun cdv A outer s H E hr =>
    (s_cons (s_set (ps_set (i := 2) sc_breach.nd rfl (by first | exact Or.inl rfl | exact Or.inr rfl) (d_call (ok_members T) (hr.mono (by decide)) (by rfl) T.d_members.at_ T.d_members.fu.kp T.d_members.b run_len (a_cons (d_var (pv 1)) a_nil))))
    (s_cons (s_for PassesOwn.never rfl (i_enum (by rfl) T.z_enumerate (n_cons (d_var (pv 0)) n_nil)) (g_tup rfl (g_cons (g_name (pg_name (i := 3) sc_breach.nd rfl (by first | exact Or.inl rfl | exact Or.inr rfl))) (g_cons (g_name (pg_name (i := 4) sc_breach.nd rfl (by first | exact Or.inl rfl | exact Or.inr rfl))) g_nil)))
    (s_cons (s_if (t_cmp (z_in hr.units) (d_ix (d_var (pv 4)) d_int (fun _ _ => rfl)) (d_tup (n_cons d_str (n_cons d_str n_nil))) (by rfl))
    (s_one (s_set (ps_set (i := 5) sc_breach.nd rfl (by first | exact Or.inl rfl | exact Or.inr rfl) (d_call (ok_sort_breach T) (hr.mono (by decide)) (by rfl) T.d_sort_breach.at_ T.d_sort_breach.fu.kp T.d_sort_breach.b run_len (a_cons (d_var (pv 4)) (a_cons (d_var (pv 2)) a_nil))))))
    (s_one (s_set (ps_set (i := 5) sc_breach.nd rfl (by first | exact Or.inl rfl | exact Or.inr rfl) (d_call (ok_pair_breach T) (hr.mono (by decide)) (by rfl) T.d_pair_breach.at_ T.d_pair_breach.fu.kp T.d_pair_breach.b run_len (a_cons (d_var (pv 4)) (a_cons (d_var (pv 1)) a_nil)))))))
    (s_one (s_if (t_cmp z_isnt (d_var (pv 5)) d_non (nomark _))
    (s_one (s_ret (d_tup (n_cons (d_var (pv 3)) (n_cons (d_var (pv 5)) n_nil)))))
    s_nil))))
    (s_one (s_ret d_non))))
theorem ok_keeps (T : Tx K mg) : FnOk P w K mg base CX0 4 T.d_keeps.f T.d_keeps.fd ["rules", "lines"] (spZ K mg 2 F_keeps) :=
  fn_ok (k := 3) T.d_keeps.fu sc_keeps fun cdv A outer s H E hr =>
    (s_one (s_ret (d_cmp z_is (d_call (ok_breach T) (hr.mono (by decide)) (by rfl) T.d_breach.at_ T.d_breach.fu.kp T.d_breach.b run_len (a_cons (d_var (pv 0)) (a_cons (d_var (pv 1)) a_nil))) d_non (nomark _))))
theorem ok_law_cell (T : Tx K mg) : FnOk P w K mg base CX0 1 T.d_law_cell.f T.d_law_cell.fd ["script", "k"] (spZ K mg 2 F_law_cell) :=
  fn_ok (k := 0) T.d_law_cell.fu sc_law_cell fun cdv A outer s H E hr =>
    (s_cons (s_if (t_cmp (z_eq hr.units) (d_b c_len (by rfl) T.z_len (by decide +kernel) (n_cons (d_var (pv 0)) n_nil)) d_int (nomark _))
    (s_one (s_ret (d_op z_add (d_op z_mul d_int (d_var (pv 1))) d_int)))
    s_nil)
    (s_one (s_ret (d_b c_abs (by rfl) T.z_abs (by decide +kernel) (n_cons (d_ix (d_var (pv 0)) (d_op z_mod (d_var (pv 1)) (d_b c_len (by rfl) T.z_len (by decide +kernel) (n_cons (d_var (pv 0)) n_nil))) (fun _ _ => rfl)) n_nil)))))
theorem deck_gs (ns : List Int) (hl : ns.length ≤ 63) (k : Dk) : (nLc [2] (iSeq (eVar 1)) (gN 2) (tE (eOp geD (eFn fAbs (nCons (eVar 2) nNil)) (eOp powD (eC (.int 10)) (eC (.int 18))))) (eFn fAbs (nCons (eVar 2) nNil))) [.un, .dat (.list (ns.map PyData.int)), .un] k = .ok ((mkDk ns).gs.map PyData.int) k := by
  exact deck_pure ns hl k
theorem ok_law_deck (T : Tx K mg) : FnOk P w K mg base CX0 1 T.d_law_deck.f T.d_law_deck.fd ["script"] (spDeck K) := by
  refine T.d_law_deck.fu.ok sc_law_deck (fun vs H Q E h => by obtain ⟨a, ns, rfl, _⟩ := h; rfl) (fun cdv A outer s H vs Q E hr h => ?_)
  obtain ⟨a, ns, rfl, hS, hl, q⟩ := h
  refine ⟨_, pss_cons (ps_set (i := 1) sc_law_deck.nd rfl (by first | exact Or.inl rfl | exact Or.inr rfl) (pe_callTy call_list_of (by rfl) T.z_list (by decide +kernel) (pa_cons (pe_slice sl_list (pv 0) po_none (po_some pe_int)) pa_nil)))
    (pss_one (ps_ret (pe_lst (pa_cons (pv 1) (pa_cons (l_lc (E := E0) rfl sc_law_deck.nd (i_seq (d_var (pv 1))) (blkOk_by (own := [("cell", 2)]) (N := N_law_deck) (sc := defScope s_law_deck) (by decide +kernel)) (fun _ _ _ _ _ => (g_name (pg_name (i := 2) sc_law_deck.nd rfl (by first | exact Or.inl rfl | exact Or.inr rfl)))) (fun _ _ _ _ _ => (t_if1 (t_cmp z_ge (d_b c_abs (by rfl) T.z_abs (by decide +kernel) (n_cons (d_var (pv 2)) n_nil)) (d_op z_pow d_int d_int) (nomark _)))) (fun _ _ _ _ _ => (d_b c_abs (by rfl) T.z_abs (by decide +kernel) (n_cons (d_var (pv 2)) n_nil))) (by decide)) (pa_cons pe_int (pa_cons pe_int pa_nil))))))), ?_⟩
  exact deck_run hS hl q (deck_gs ns hl)

theorem ok_law_take (T : Tx K mg) : FnOk P w K mg base CX0 2 T.d_law_take.f T.d_law_take.fd ["deck", "many"] (spZ K mg 2 F_law_take) :=
  fn_ok (k := 1) T.d_law_take.fu sc_law_take fun cdv A outer s H E hr =>
    (s_cons (s_while PassesOwn.never (t_cmp z_lt (d_dk2 (pe_ix ix_list (pv 0) pe_int (fun _ _ => rfl))) (d_dkL (pe_callB call_len_seq (by rfl) T.z_len PySem.boot_len (pa_cons (pe_ix ix_list (pv 0) pe_int (fun _ _ => rfl)) pa_nil))) (nomark _))
    (s_cons (s_set (ps_set (i := 3) sc_law_take.nd rfl (by first | exact Or.inl rfl | exact Or.inr rfl) (d_dkG (pe_ix ix_list (pe_ix ix_list (pv 0) pe_int (fun _ _ => rfl)) (pe_ix ix_list (pv 0) pe_int (fun _ _ => rfl)) (fun _ _ => rfl)))))
    (s_cons (s_if (t_cmp z_gt (d_var (pv 3)) d_int (nomark _))
    (s_cons (s_dkG (ps_asg (d_op z_fdiv (d_var (pv 3)) (d_var (pv 1))) (pg_sub (pe_ix ix_list (pv 0) pe_int (fun _ _ => rfl)) (pe_ix ix_list (pv 0) pe_int (fun _ _ => rfl)) set_list)))
    (s_one (s_ret (d_op z_mod (d_var (pv 3)) (d_var (pv 1))))))
    s_nil)
    (s_one (s_dk2 (ps_asg (d_op z_add (d_dk2 (pe_ix ix_list (pv 0) pe_int (fun _ _ => rfl))) d_int) (pg_sub (pv 0) pe_int set_list)))))))
    (s_cons (s_dk3 (ps_asg (d_op z_add (d_dk3 (pe_ix ix_list (pv 0) pe_int (fun _ _ => rfl))) d_int) (pg_sub (pv 0) pe_int set_list)))
    (s_cons (s_set (ps_set (i := 2) sc_law_take.nd rfl (by first | exact Or.inl rfl | exact Or.inr rfl) (d_op z_add (d_op z_mul (d_op z_add (d_op z_mod (d_call (ok_law_cell T) (hr.mono (by decide)) (by rfl) T.d_law_cell.at_ T.d_law_cell.fu.kp T.d_law_cell.b run_len (a_cons (d_dk0 (pe_ix ix_list (pv 0) pe_int (fun _ _ => rfl))) (a_cons (d_dk3 (pe_ix ix_list (pv 0) pe_int (fun _ _ => rfl))) a_nil))) d_int) d_int) (d_op z_add (d_dk3 (pe_ix ix_list (pv 0) pe_int (fun _ _ => rfl))) d_int)) (d_op z_mul d_int (d_dk3 (pe_ix ix_list (pv 0) pe_int (fun _ _ => rfl)))))))
    (s_one (s_ret (d_op z_mod (d_op z_fdiv (d_op z_mod (d_op z_pow (d_var (pv 2)) d_int) d_int) d_int) (d_var (pv 1))))))))
theorem ok_law_pick (T : Tx K mg) : FnOk P w K mg base CX0 3 T.d_law_pick.f T.d_law_pick.fd ["deck", "some"] (spZ K mg 2 F_law_pick) :=
  fn_ok (k := 2) T.d_law_pick.fu sc_law_pick fun cdv A outer s H E hr =>
    (s_one (s_ret (d_ix (d_var (pv 1)) (d_call (ok_law_take T) (hr.mono (by decide)) (by rfl) T.d_law_take.at_ T.d_law_take.fu.kp T.d_law_take.b run_len (a_dk (pv 0) (a_cons (d_b c_len (by rfl) T.z_len (by decide +kernel) (n_cons (d_var (pv 1)) n_nil)) a_nil))) (fun _ _ => rfl))))
theorem ok_law_names (T : Tx K mg) : FnOk P w K mg base CX0 4 T.d_law_names.f T.d_law_names.fd ["deck", "many"] (spZ K mg 2 F_law_names) :=
  fn_ok (k := 3) T.d_law_names.fu sc_law_names fun cdv A outer s H E hr =>
    (s_cons (s_set (ps_set (i := 2) sc_law_names.nd rfl (by first | exact Or.inl rfl | exact Or.inr rfl) d_str))
    (s_cons (s_set (ps_set (i := 3) sc_law_names.nd rfl (by first | exact Or.inl rfl | exact Or.inr rfl) (d_join d_str (d_new (l_lc (own := [("turn", 7)]) rfl sc_law_names.nd (i_range (by rfl) T.z_range (n_cons (d_call (ok_law_pick T) (hr.mono (by decide)) (by rfl) T.d_law_pick.at_ T.d_law_pick.fu.kp T.d_law_pick.b run_len (a_dk (pv 0) (a_cons (d_new (l_lst (n_cons d_int (n_cons d_int (n_cons d_int (n_cons d_int n_nil)))))) a_nil))) n_nil)) (blkOk_by (own := [("turn", 7)]) (N := N_law_names) (sc := defScope s_law_names) (by decide +kernel)) (fun _ _ _ _ _ => (g_name (pg_name (i := 7) sc_law_names.nd rfl (by first | exact Or.inl rfl | exact Or.inr rfl)))) (fun _ _ _ _ _ => (t_yes)) (fun _ _ _ _ _ => (d_call (ok_law_pick T) (hr.mono (by decide)) (by rfl) T.d_law_pick.at_ T.d_law_pick.fu.kp T.d_law_pick.b run_len (a_dk (pv 0) (a_cons (d_var (pv 2)) a_nil)))) (by decide))))))
    (s_cons (s_set (ps_set (i := 4) sc_law_names.nd rfl (by first | exact Or.inl rfl | exact Or.inr rfl) (d_call (ok_law_take T) (hr.mono (by decide)) (by rfl) T.d_law_take.at_ T.d_law_take.fu.kp T.d_law_take.b run_len (a_dk (pv 0) (a_cons (d_op z_add (d_b c_len (by rfl) T.z_len (by decide +kernel) (n_cons (d_var (pv 3)) n_nil)) d_int) a_nil)))))
    (s_cons (s_set (ps_set (i := 5) sc_law_names.nd rfl (by first | exact Or.inl rfl | exact Or.inr rfl) (d_call (ok_law_take T) (hr.mono (by decide)) (by rfl) T.d_law_take.at_ T.d_law_take.fu.kp T.d_law_take.b run_len (a_dk (pv 0) (a_cons d_int a_nil)))))
    (s_cons (s_own (ps_set (i := 6) sc_law_names.nd rfl (by first | exact Or.inl rfl | exact Or.inr rfl) (l_lst n_nil)))
    (s_cons (s_for PassesOwn.never rfl (i_range (by rfl) T.z_range (n_cons (d_var (pv 1)) n_nil)) (g_name (pg_name (i := 7) sc_law_names.nd rfl (by first | exact Or.inl rfl | exact Or.inr rfl)))
    (s_cons (s_set (ps_set (i := 8) sc_law_names.nd rfl (by first | exact Or.inl rfl | exact Or.inr rfl) (d_op z_add (d_op z_add (d_sl (d_var (pv 3)) o_none (o_some (d_var (pv 4)))) (d_ix (d_var (pv 2)) (d_op z_mod (d_op z_add (d_var (pv 5)) (d_op z_mul d_int (d_var (pv 7)))) d_int) (fun _ _ => rfl))) (d_sl (d_var (pv 3)) (o_some (d_var (pv 4))) o_none))))
    (s_one (s_app (ps_expr (pe_bm PySem.F.plainAttrs_list PySem.F.slot_list_append PySem.F.type_list_append mt_append (pv 6) (pa_cons (d_op z_add (d_var (pv 8)) (d_op z_mul d_str (d_op z_add (d_call (ok_law_pick T) (hr.mono (by decide)) (by rfl) T.d_law_pick.at_ T.d_law_pick.fu.kp T.d_law_pick.b run_len (a_dk (pv 0) (a_cons (d_new (l_lst (n_cons d_int (n_cons d_int (n_cons d_int (n_cons d_int n_nil)))))) a_nil))) (d_ty c_int (by rfl) T.z_int (by decide +kernel) (n_cons (d_cmp (z_in hr.units) (d_var (pv 8)) (d_tup (n_cons d_str (n_cons d_str n_nil))) (by rfl)) n_nil))))) pa_nil)))))))
    (s_one (s_frz1 (i := 6) (s_ret (d_var (pv 6)))))))))))
theorem ok_law_words (T : Tx K mg) : FnOk P w K mg base CX0 5 T.d_law_words.f T.d_law_words.fd ["deck"] (spZ K mg 1 F_law_words) :=
  fn_ok (k := 4) T.d_law_words.fu sc_law_words fun cdv A outer s H E hr =>
    (s_cons (s_set (ps_set (i := 1) sc_law_words.nd rfl (by first | exact Or.inl rfl | exact Or.inr rfl) (d_call (ok_law_names T) (hr.mono (by decide)) (by rfl) T.d_law_names.at_ T.d_law_names.fu.kp T.d_law_names.b run_len (a_dk (pv 0) (a_cons d_int a_nil)))))
    (s_cons (s_if (t_cmp (z_eq hr.units) (d_call (ok_law_take T) (hr.mono (by decide)) (by rfl) T.d_law_take.at_ T.d_law_take.fu.kp T.d_law_take.b run_len (a_dk (pv 0) (a_cons d_int a_nil))) d_int (nomark _))
    (s_one (s_ret (d_new (l_lst (n_cons (d_sl (d_var (pv 1)) o_none (o_some d_int)) (n_cons (d_new (l_lst (n_cons (d_ix (d_var (pv 1)) d_int (fun _ _ => rfl)) (n_cons (d_ix (d_var (pv 1)) d_int (fun _ _ => rfl)) n_nil)))) (n_cons (d_new (l_lst (n_cons (d_ix (d_var (pv 1)) d_int (fun _ _ => rfl)) (n_cons (d_ix (d_var (pv 1)) d_int (fun _ _ => rfl)) (n_cons (d_ix (d_var (pv 1)) d_int (fun _ _ => rfl)) n_nil))))) n_nil)))))))
    s_nil)
    (s_one (s_ret (d_new (l_lst (n_cons (d_sl (d_var (pv 1)) o_none (o_some d_int)) (n_cons (d_sl (d_var (pv 1)) (o_some d_int) (o_some d_int)) (n_cons (d_sl (d_var (pv 1)) (o_some d_int) o_none) n_nil)))))))))
theorem ok_law_turn (T : Tx K mg) : FnOk P w K mg base CX0 4 T.d_law_turn.f T.d_law_turn.fd ["deck", "words"] (spZ K mg 2 F_law_turn) :=
  fn_ok (k := 3) T.d_law_turn.fu sc_law_turn fun cdv A outer s H E hr =>
    (s_one (s_ret (d_tup (n_cons (d_call (ok_law_pick T) (hr.mono (by decide)) (by rfl) T.d_law_pick.at_ T.d_law_pick.fu.kp T.d_law_pick.b run_len (a_dk (pv 0) (a_cons (d_ix (d_var (pv 1)) d_int (fun _ _ => rfl)) a_nil))) (n_cons (d_call (ok_law_take T) (hr.mono (by decide)) (by rfl) T.d_law_take.at_ T.d_law_take.fu.kp T.d_law_take.b run_len (a_dk (pv 0) (a_cons d_int a_nil))) n_nil)))))
theorem ok_law_sort (T : Tx K mg) : FnOk P w K mg base CX0 5 T.d_law_sort.f T.d_law_sort.fd ["deck", "words"] (spZ K mg 2 F_law_sort) :=
  fn_ok (k := 4) T.d_law_sort.fu sc_law_sort fun cdv A outer s H E hr =>
    (s_cons (s_if (t_cmp (z_eq hr.units) (d_call (ok_law_take T) (hr.mono (by decide)) (by rfl) T.d_law_take.at_ T.d_law_take.fu.kp T.d_law_take.b run_len (a_dk (pv 0) (a_cons d_int a_nil))) d_int (nomark _))
    (s_one (s_ret (d_tup (n_cons (d_call (ok_law_pick T) (hr.mono (by decide)) (by rfl) T.d_law_pick.at_ T.d_law_pick.fu.kp T.d_law_pick.b run_len (a_dk (pv 0) (a_cons (d_ix (d_var (pv 1)) d_int (fun _ _ => rfl)) a_nil))) n_nil))))
    s_nil)
    (s_one (s_ret (d_call (ok_law_turn T) (hr.mono (by decide)) (by rfl) T.d_law_turn.at_ T.d_law_turn.fu.kp T.d_law_turn.b run_len (a_dk (pv 0) (a_cons (d_var (pv 1)) a_nil))))))
theorem ok_law_rule (T : Tx K mg) : FnOk P w K mg base CX0 6 T.d_law_rule.f T.d_law_rule.fd ["deck", "words"] (spZ K mg 2 F_law_rule) :=
  fn_ok (k := 5) T.d_law_rule.fu sc_law_rule fun cdv A outer s H E hr =>
    (s_cons (s_set (ps_set (i := 2) sc_law_rule.nd rfl (by first | exact Or.inl rfl | exact Or.inr rfl) (d_call (ok_law_take T) (hr.mono (by decide)) (by rfl) T.d_law_take.at_ T.d_law_take.fu.kp T.d_law_take.b run_len (a_dk (pv 0) (a_cons d_int a_nil)))))
    (s_cons (s_if (t_cmp z_lt (d_var (pv 2)) d_int (nomark _))
    (s_one (s_ret (d_tup (n_cons d_str (n_cons (d_call (ok_law_sort T) (hr.mono (by decide)) (by rfl) T.d_law_sort.at_ T.d_law_sort.fu.kp T.d_law_sort.b run_len (a_dk (pv 0) (a_cons (d_var (pv 1)) a_nil))) (n_cons (d_call (ok_law_sort T) (hr.mono (by decide)) (by rfl) T.d_law_sort.at_ T.d_law_sort.fu.kp T.d_law_sort.b run_len (a_dk (pv 0) (a_cons (d_var (pv 1)) a_nil))) n_nil))))))
    s_nil)
    (s_cons (s_if (t_cmp z_lt (d_var (pv 2)) d_int (nomark _))
    (s_one (s_ret (d_tup (n_cons d_str (n_cons (d_call (ok_law_turn T) (hr.mono (by decide)) (by rfl) T.d_law_turn.at_ T.d_law_turn.fu.kp T.d_law_turn.b run_len (a_dk (pv 0) (a_cons (d_var (pv 1)) a_nil))) (n_cons (d_call (ok_law_turn T) (hr.mono (by decide)) (by rfl) T.d_law_turn.at_ T.d_law_turn.fu.kp T.d_law_turn.b run_len (a_dk (pv 0) (a_cons (d_var (pv 1)) a_nil))) n_nil))))))
    s_nil)
    (s_cons (s_if (t_cmp (z_eq hr.units) (d_var (pv 2)) d_int (nomark _))
    (s_one (s_ret (d_tup (n_cons d_str (n_cons (d_call (ok_law_sort T) (hr.mono (by decide)) (by rfl) T.d_law_sort.at_ T.d_law_sort.fu.kp T.d_law_sort.b run_len (a_dk (pv 0) (a_cons (d_var (pv 1)) a_nil))) (n_cons (d_call (ok_law_sort T) (hr.mono (by decide)) (by rfl) T.d_law_sort.at_ T.d_law_sort.fu.kp T.d_law_sort.b run_len (a_dk (pv 0) (a_cons (d_var (pv 1)) a_nil))) n_nil))))))
    s_nil)
    (s_one (s_ret (d_tup (n_cons d_str (n_cons (d_call (ok_law_turn T) (hr.mono (by decide)) (by rfl) T.d_law_turn.at_ T.d_law_turn.fu.kp T.d_law_turn.b run_len (a_dk (pv 0) (a_cons (d_var (pv 1)) a_nil))) (n_cons (d_call (ok_law_turn T) (hr.mono (by decide)) (by rfl) T.d_law_turn.at_ T.d_law_turn.fu.kp T.d_law_turn.b run_len (a_dk (pv 0) (a_cons (d_var (pv 1)) a_nil))) n_nil))))))))))
theorem ok_law_rules (T : Tx K mg) : FnOk P w K mg base CX0 7 T.d_law_rules.f T.d_law_rules.fd ["deck", "words", "many"] (spZ K mg 3 F_law_rules) :=
  fn_ok (k := 6) T.d_law_rules.fu sc_law_rules fun cdv A outer s H E hr =>
    (s_cons (s_own (ps_set (i := 3) sc_law_rules.nd rfl (by first | exact Or.inl rfl | exact Or.inr rfl) (l_lst n_nil)))
    (s_cons (s_for PassesOwn.never rfl (i_range (by rfl) T.z_range (n_cons (d_var (pv 2)) n_nil)) (g_name (pg_name (i := 4) sc_law_rules.nd rfl (by first | exact Or.inl rfl | exact Or.inr rfl)))
    (s_cons (s_set (ps_set (i := 5) sc_law_rules.nd rfl (by first | exact Or.inl rfl | exact Or.inr rfl) (d_call (ok_law_rule T) (hr.mono (by decide)) (by rfl) T.d_law_rule.at_ T.d_law_rule.fu.kp T.d_law_rule.b run_len (a_dk (pv 0) (a_cons (d_var (pv 1)) a_nil)))))
    (s_one (s_if (t_bor 3 (t_cmp (z_ni hr.units) (d_var (pv 5)) (d_var (pv 3)) (by rfl)))
    (s_one (s_app (ps_expr (pe_bm PySem.F.plainAttrs_list PySem.F.slot_list_append PySem.F.type_list_append mt_append (pv 3) (pa_cons (d_var (pv 5)) pa_nil)))))
    s_nil))))
    (s_one (s_frz1 (i := 3) (s_ret (d_ty c_tuple (by rfl) T.z_tuple (by decide +kernel) (n_cons (d_var (pv 3)) n_nil)))))))
theorem ok_law_line (T : Tx K mg) : FnOk P w K mg base CX0 4 T.d_law_line.f T.d_law_line.fd ["deck", "words", "terms"] (spZ K mg 3 F_law_line) :=
  fn_ok (k := 3) T.d_law_line.fu sc_law_line fun cdv A outer s H E hr =>
    (s_cons (s_if (t_cmp (z_eq hr.units) (d_call (ok_law_take T) (hr.mono (by decide)) (by rfl) T.d_law_take.at_ T.d_law_take.fu.kp T.d_law_take.b run_len (a_dk (pv 0) (a_cons d_int a_nil))) d_int (nomark _))
    (s_one (s_ret (d_tup (n_cons (d_call (ok_law_pick T) (hr.mono (by decide)) (by rfl) T.d_law_pick.at_ T.d_law_pick.fu.kp T.d_law_pick.b run_len (a_dk (pv 0) (a_cons (d_ix (d_var (pv 1)) d_int (fun _ _ => rfl)) a_nil))) (n_cons (d_call (ok_law_pick T) (hr.mono (by decide)) (by rfl) T.d_law_pick.at_ T.d_law_pick.fu.kp T.d_law_pick.b run_len (a_dk (pv 0) (a_cons (d_var (pv 2)) a_nil))) n_nil)))))
    s_nil)
    (s_one (s_ret (d_tup (n_cons (d_call (ok_law_pick T) (hr.mono (by decide)) (by rfl) T.d_law_pick.at_ T.d_law_pick.fu.kp T.d_law_pick.b run_len (a_dk (pv 0) (a_cons (d_ix (d_var (pv 1)) d_int (fun _ _ => rfl)) a_nil))) (n_cons (d_call (ok_law_pick T) (hr.mono (by decide)) (by rfl) T.d_law_pick.at_ T.d_law_pick.fu.kp T.d_law_pick.b run_len (a_dk (pv 0) (a_cons (d_var (pv 2)) a_nil))) (n_cons (d_call (ok_law_pick T) (hr.mono (by decide)) (by rfl) T.d_law_pick.at_ T.d_law_pick.fu.kp T.d_law_pick.b run_len (a_dk (pv 0) (a_cons (d_var (pv 2)) a_nil))) n_nil)))))))
theorem ok_law_lines (T : Tx K mg) : FnOk P w K mg base CX0 5 T.d_law_lines.f T.d_law_lines.fd ["deck", "words", "terms", "many"] (spZ K mg 4 F_law_lines) :=
  fn_ok (k := 4) T.d_law_lines.fu sc_law_lines fun cdv A outer s H E hr =>
    (s_cons (s_own (ps_set (i := 4) sc_law_lines.nd rfl (by first | exact Or.inl rfl | exact Or.inr rfl) (l_lst n_nil)))
    (s_cons (s_for PassesOwn.never rfl (i_range (by rfl) T.z_range (n_cons (d_var (pv 3)) n_nil)) (g_name (pg_name (i := 5) sc_law_lines.nd rfl (by first | exact Or.inl rfl | exact Or.inr rfl)))
    (s_cons (s_set (ps_set (i := 6) sc_law_lines.nd rfl (by first | exact Or.inl rfl | exact Or.inr rfl) (d_call (ok_law_line T) (hr.mono (by decide)) (by rfl) T.d_law_line.at_ T.d_law_line.fu.kp T.d_law_line.b run_len (a_dk (pv 0) (a_cons (d_var (pv 1)) (a_cons (d_var (pv 2)) a_nil))))))
    (s_one (s_if (t_bor 4 (t_cmp (z_ni hr.units) (d_var (pv 6)) (d_var (pv 4)) (by rfl)))
    (s_one (s_app (ps_expr (pe_bm PySem.F.plainAttrs_list PySem.F.slot_list_append PySem.F.type_list_append mt_append (pv 4) (pa_cons (d_var (pv 6)) pa_nil)))))
    s_nil))))
    (s_one (s_frz1 (i := 4) (s_ret (d_ty c_tuple (by rfl) T.z_tuple (by decide +kernel) (n_cons (d_var (pv 4)) n_nil)))))))
theorem ok_law_of_sort (T : Tx K mg) : FnOk P w K mg base CX0 1 T.d_law_of_sort.f T.d_law_of_sort.fd ["lines", "sort"] (spZ K mg 2 F_law_of_sort) :=
  fn_ok (k := 0) T.d_law_of_sort.fu sc_law_of_sort fun cdv A outer s H E hr =>
    (s_cons (s_set (ps_set (i := 2) sc_law_of_sort.nd rfl (by first | exact Or.inl rfl | exact Or.inr rfl) (d_new (l_lst n_nil))))
    (s_cons (s_for PassesOwn.never rfl (i_seq (d_var (pv 0))) (g_name (pg_name (i := 3) sc_law_of_sort.nd rfl (by first | exact Or.inl rfl | exact Or.inr rfl)))
    (s_cons (s_if (PW.pt (w_and (t_cmp (z_eq hr.units) (d_b c_len (by rfl) T.z_len (by decide +kernel) (n_cons (d_var (pv 1)) n_nil)) d_int (nomark _)) (w_and (t_cmp (z_eq hr.units) (d_b c_len (by rfl) T.z_len (by decide +kernel) (n_cons (d_var (pv 3)) n_nil)) d_int (nomark _)) (w_and1 (t_cmp (z_eq hr.units) (d_ix (d_var (pv 3)) d_int (fun _ _ => rfl)) (d_ix (d_var (pv 1)) d_int (fun _ _ => rfl)) (nomark _))))))
    (s_one (s_set (ps_set (i := 2) sc_law_of_sort.nd rfl (by first | exact Or.inl rfl | exact Or.inr rfl) (d_op z_add (d_var (pv 2)) (d_op z_mul (d_new (l_lst (n_cons (d_ix (d_var (pv 3)) d_int (fun _ _ => rfl)) n_nil))) (d_ty c_int (by rfl) T.z_int (by decide +kernel) (n_cons (d_cmp (z_ni hr.units) (d_ix (d_var (pv 3)) d_int (fun _ _ => rfl)) (d_var (pv 2)) (by rfl)) n_nil)))))))
    s_nil)
    (s_one (s_if (PW.pt (w_and (t_cmp (z_eq hr.units) (d_b c_len (by rfl) T.z_len (by decide +kernel) (n_cons (d_var (pv 1)) n_nil)) d_int (nomark _)) (w_and (t_cmp (z_eq hr.units) (d_b c_len (by rfl) T.z_len (by decide +kernel) (n_cons (d_var (pv 3)) n_nil)) d_int (nomark _)) (w_and1 (t_cmp (z_eq hr.units) (d_ix (d_var (pv 3)) d_int (fun _ _ => rfl)) (d_ix (d_var (pv 1)) d_int (fun _ _ => rfl)) (nomark _))))))
    (s_cons (s_set (ps_set (i := 4) sc_law_of_sort.nd rfl (by first | exact Or.inl rfl | exact Or.inr rfl) (d_ix (d_var (pv 3)) (d_op z_add d_int (d_ix (d_var (pv 1)) d_int (fun _ _ => rfl))) (fun _ _ => rfl))))
    (s_one (s_set (ps_set (i := 2) sc_law_of_sort.nd rfl (by first | exact Or.inl rfl | exact Or.inr rfl) (d_op z_add (d_var (pv 2)) (d_op z_mul (d_new (l_lst (n_cons (d_var (pv 4)) n_nil))) (d_ty c_int (by rfl) T.z_int (by decide +kernel) (n_cons (d_cmp (z_ni hr.units) (d_var (pv 4)) (d_var (pv 2)) (by rfl)) n_nil))))))))
    s_nil))))
    (s_one (s_ret (d_var (pv 2))))))
theorem ok_law_pairs (T : Tx K mg) : FnOk P w K mg base CX0 1 T.d_law_pairs.f T.d_law_pairs.fd ["lines", "turn"] (spZ K mg 2 F_law_pairs) :=
  fn_ok (k := 0) T.d_law_pairs.fu sc_law_pairs fun cdv A outer s H E hr =>
    (s_cons (s_own (ps_set (i := 2) sc_law_pairs.nd rfl (by first | exact Or.inl rfl | exact Or.inr rfl) (l_lst n_nil)))
    (s_cons (s_for PassesOwn.never rfl (i_seq (d_var (pv 0))) (g_name (pg_name (i := 3) sc_law_pairs.nd rfl (by first | exact Or.inl rfl | exact Or.inr rfl)))
    (s_one (s_if (PW.pt (w_and (t_cmp (z_eq hr.units) (d_b c_len (by rfl) T.z_len (by decide +kernel) (n_cons (d_var (pv 3)) n_nil)) d_int (nomark _)) (w_and1 (t_cmp (z_eq hr.units) (d_ix (d_var (pv 3)) d_int (fun _ _ => rfl)) (d_ix (d_var (pv 1)) d_int (fun _ _ => rfl)) (nomark _)))))
    (s_one (s_app (ps_expr (pe_bm PySem.F.plainAttrs_list PySem.F.slot_list_append PySem.F.type_list_append mt_append (pv 2) (pa_cons (d_tup (n_cons (d_ix (d_var (pv 3)) (d_op z_add d_int (d_ix (d_var (pv 1)) d_int (fun _ _ => rfl))) (fun _ _ => rfl)) (n_cons (d_ix (d_var (pv 3)) (d_op z_sub d_int (d_ix (d_var (pv 1)) d_int (fun _ _ => rfl))) (fun _ _ => rfl)) n_nil))) pa_nil)))))
    s_nil)))
    (s_one (s_frz1 (i := 2) (s_ret (d_var (pv 2)))))))
theorem ok_law_is_so (T : Tx K mg) : FnOk P w K mg base CX0 2 T.d_law_is_so.f T.d_law_is_so.fd ["lines", "rule"] (spZ K mg 2 F_law_is_so) :=
  fn_ok (k := 1) T.d_law_is_so.fu sc_law_is_so fun cdv A outer s H E hr =>
    (s_cons (s_asg (d_var (pv 1)) (g_tup rfl (g_cons (g_name (pg_name (i := 3) sc_law_is_so.nd rfl (by first | exact Or.inl rfl | exact Or.inr rfl))) (g_cons (g_name (pg_name (i := 4) sc_law_is_so.nd rfl (by first | exact Or.inl rfl | exact Or.inr rfl))) (g_cons (g_name (pg_name (i := 5) sc_law_is_so.nd rfl (by first | exact Or.inl rfl | exact Or.inr rfl))) g_nil)))))
    (s_cons (s_if (t_cmp (z_in hr.units) (d_var (pv 3)) (d_tup (n_cons d_str (n_cons d_str n_nil))) (by rfl))
    (s_one (s_asg (d_tup (n_cons (d_call (ok_law_of_sort T) (hr.mono (by decide)) (by rfl) T.d_law_of_sort.at_ T.d_law_of_sort.fu.kp T.d_law_of_sort.b run_len (a_cons (d_var (pv 0)) (a_cons (d_var (pv 4)) a_nil))) (n_cons (d_call (ok_law_of_sort T) (hr.mono (by decide)) (by rfl) T.d_law_of_sort.at_ T.d_law_of_sort.fu.kp T.d_law_of_sort.b run_len (a_cons (d_var (pv 0)) (a_cons (d_var (pv 5)) a_nil))) n_nil))) (g_tup rfl (g_cons (g_name (pg_name (i := 6) sc_law_is_so.nd rfl (by first | exact Or.inl rfl | exact Or.inr rfl))) (g_cons (g_name (pg_name (i := 7) sc_law_is_so.nd rfl (by first | exact Or.inl rfl | exact Or.inr rfl))) g_nil)))))
    (s_one (s_asg (d_tup (n_cons (d_call (ok_law_pairs T) (hr.mono (by decide)) (by rfl) T.d_law_pairs.at_ T.d_law_pairs.fu.kp T.d_law_pairs.b run_len (a_cons (d_var (pv 0)) (a_cons (d_var (pv 4)) a_nil))) (n_cons (d_call (ok_law_pairs T) (hr.mono (by decide)) (by rfl) T.d_law_pairs.at_ T.d_law_pairs.fu.kp T.d_law_pairs.b run_len (a_cons (d_var (pv 0)) (a_cons (d_var (pv 5)) a_nil))) n_nil))) (g_tup rfl (g_cons (g_name (pg_name (i := 6) sc_law_is_so.nd rfl (by first | exact Or.inl rfl | exact Or.inr rfl))) (g_cons (g_name (pg_name (i := 7) sc_law_is_so.nd rfl (by first | exact Or.inl rfl | exact Or.inr rfl))) g_nil))))))
    (s_cons (s_new (s_lc (own := [("part", 8)]) (i := 2) rfl sc_law_is_so.nd rfl rfl (sw_true rfl rfl rfl (by decide +kernel)) (i_seq (d_var (pv 6))) (blkOk_by (own := [("part", 8)]) (N := N_law_is_so) (sc := defScope s_law_is_so) (by decide +kernel)) (fun _ _ _ _ _ => (g_name (pg_name (i := 8) sc_law_is_so.nd rfl (by first | exact Or.inl rfl | exact Or.inr rfl)))) (fun _ _ _ _ _ => (t_yes)) (fun _ _ _ _ _ => (d_cmp (z_in hr.units) (d_var (pv 8)) (d_var (pv 7)) (by rfl))) (by decide)))
    (s_one (s_ret (d_cmp (z_ni hr.units) (d_cmp (z_in hr.units) (d_var (pv 3)) (d_tup (n_cons d_str (n_cons d_str n_nil))) (by rfl)) (d_var (pv 2)) (by rfl)))))))
theorem ok_law_missing (T : Tx K mg) : FnOk P w K mg base CX0 4 T.d_law_missing.f T.d_law_missing.fd ["deck", "lines", "rule", "terms"] (spZ K mg 4 F_law_missing) :=
  fn_ok (k := 3) T.d_law_missing.fu sc_law_missing fun cdv A outer s H E hr =>
    (s_cons (s_asg (d_var (pv 2)) (g_tup rfl (g_cons (g_name (pg_name (i := 4) sc_law_missing.nd rfl (by first | exact Or.inl rfl | exact Or.inr rfl))) (g_cons (g_name (pg_name (i := 5) sc_law_missing.nd rfl (by first | exact Or.inl rfl | exact Or.inr rfl))) (g_cons (g_name (pg_name (i := 6) sc_law_missing.nd rfl (by first | exact Or.inl rfl | exact Or.inr rfl))) g_nil)))))
    (s_cons (s_if (t_cmp (z_eq hr.units) (d_var (pv 4)) d_str (nomark _))
    (s_cons (s_set (ps_set (i := 7) sc_law_missing.nd rfl (by first | exact Or.inl rfl | exact Or.inr rfl) (d_call (ok_law_pairs T) (hr.mono (by decide)) (by rfl) T.d_law_pairs.at_ T.d_law_pairs.fu.kp T.d_law_pairs.b run_len (a_cons (d_var (pv 1)) (a_cons (d_var (pv 6)) a_nil)))))
    (s_one (s_for PassesOwn.never rfl (i_seq (d_call (ok_law_pairs T) (hr.mono (by decide)) (by rfl) T.d_law_pairs.at_ T.d_law_pairs.fu.kp T.d_law_pairs.b run_len (a_cons (d_var (pv 1)) (a_cons (d_var (pv 5)) a_nil)))) (g_tup rfl (g_cons (g_name (pg_name (i := 9) sc_law_missing.nd rfl (by first | exact Or.inl rfl | exact Or.inr rfl))) (g_cons (g_name (pg_name (i := 10) sc_law_missing.nd rfl (by first | exact Or.inl rfl | exact Or.inr rfl))) g_nil)))
    (s_one (s_if (t_cmp (z_ni hr.units) (d_tup (n_cons (d_var (pv 9)) (n_cons (d_var (pv 10)) n_nil))) (d_var (pv 7)) (by rfl))
    (s_one (s_ret (d_ix (d_new (l_lst (n_cons (d_tup (n_cons (d_ix (d_var (pv 6)) d_int (fun _ _ => rfl)) (n_cons (d_var (pv 9)) (n_cons (d_var (pv 10)) n_nil)))) (n_cons (d_tup (n_cons (d_ix (d_var (pv 6)) d_int (fun _ _ => rfl)) (n_cons (d_var (pv 10)) (n_cons (d_var (pv 9)) n_nil)))) n_nil)))) (d_ix (d_var (pv 6)) d_int (fun _ _ => rfl)) (fun _ _ => rfl))))
    s_nil)))))
    s_nil)
    (s_cons (s_if (t_cmp (z_eq hr.units) (d_var (pv 4)) d_str (nomark _))
    (s_cons (s_set (ps_set (i := 7) sc_law_missing.nd rfl (by first | exact Or.inl rfl | exact Or.inr rfl) (d_call (ok_law_of_sort T) (hr.mono (by decide)) (by rfl) T.d_law_of_sort.at_ T.d_law_of_sort.fu.kp T.d_law_of_sort.b run_len (a_cons (d_var (pv 1)) (a_cons (d_var (pv 6)) a_nil)))))
    (s_one (s_for PassesOwn.never rfl (i_seq (d_call (ok_law_of_sort T) (hr.mono (by decide)) (by rfl) T.d_law_of_sort.at_ T.d_law_of_sort.fu.kp T.d_law_of_sort.b run_len (a_cons (d_var (pv 1)) (a_cons (d_var (pv 5)) a_nil)))) (g_name (pg_name (i := 8) sc_law_missing.nd rfl (by first | exact Or.inl rfl | exact Or.inr rfl)))
    (s_cons (s_if (PW.pt (w_and (t_cmp (z_ni hr.units) (d_var (pv 8)) (d_var (pv 7)) (by rfl)) (w_and1 (t_cmp (z_eq hr.units) (d_b c_len (by rfl) T.z_len (by decide +kernel) (n_cons (d_var (pv 6)) n_nil)) d_int (nomark _)))))
    (s_one (s_ret (d_tup (n_cons (d_ix (d_var (pv 6)) d_int (fun _ _ => rfl)) (n_cons (d_var (pv 8)) n_nil)))))
    s_nil)
    (s_one (s_if (t_cmp (z_ni hr.units) (d_var (pv 8)) (d_var (pv 7)) (by rfl))
    (s_cons (s_set (ps_set (i := 11) sc_law_missing.nd rfl (by first | exact Or.inl rfl | exact Or.inr rfl) (d_call (ok_law_pick T) (hr.mono (by decide)) (by rfl) T.d_law_pick.at_ T.d_law_pick.fu.kp T.d_law_pick.b run_len (a_dk (pv 0) (a_cons (d_var (pv 3)) a_nil)))))
    (s_one (s_ret (d_ix (d_new (l_lst (n_cons (d_tup (n_cons (d_ix (d_var (pv 6)) d_int (fun _ _ => rfl)) (n_cons (d_var (pv 8)) (n_cons (d_var (pv 11)) n_nil)))) (n_cons (d_tup (n_cons (d_ix (d_var (pv 6)) d_int (fun _ _ => rfl)) (n_cons (d_var (pv 11)) (n_cons (d_var (pv 8)) n_nil)))) n_nil)))) (d_ix (d_var (pv 6)) d_int (fun _ _ => rfl)) (fun _ _ => rfl)))))
    s_nil))))))
    s_nil)
    (s_one (s_ret d_non)))))
theorem ok_law_closed (T : Tx K mg) : FnOk P w K mg base CX0 5 T.d_law_closed.f T.d_law_closed.fd ["deck", "rules", "lines", "terms"] (spZ K mg 4 F_law_closed) :=
  fn_ok (k := 4) T.d_law_closed.fu sc_law_closed fun cdv A outer s H E hr =>
    (s_cons (s_own (ps_set (i := 4) sc_law_closed.nd rfl (by first | exact Or.inl rfl | exact Or.inr rfl) (l_ty c_list (by rfl) T.z_list (by decide +kernel) (n_cons (d_var (pv 2)) n_nil))))
    (s_cons (s_set (ps_set (i := 5) sc_law_closed.nd rfl (by first | exact Or.inl rfl | exact Or.inr rfl) d_bl))
    (s_cons (s_while PassesOwn.never (t_val (d_var (pv 5)))
    (s_cons (s_set (ps_set (i := 5) sc_law_closed.nd rfl (by first | exact Or.inl rfl | exact Or.inr rfl) d_bl))
    (s_one (s_for PassesOwn.never rfl (i_seq (d_var (pv 1))) (g_name (pg_name (i := 6) sc_law_closed.nd rfl (by first | exact Or.inl rfl | exact Or.inr rfl)))
    (s_cons (s_set (ps_set (i := 7) sc_law_closed.nd rfl (by first | exact Or.inl rfl | exact Or.inr rfl) (d_bor 4 (d_call (ok_law_missing T) (hr.mono (by decide)) (by rfl) T.d_law_missing.at_ T.d_law_missing.fu.kp T.d_law_missing.b run_len (a_dk (pv 0) (a_cons (d_var (pv 4)) (a_cons (d_var (pv 6)) (a_cons (d_var (pv 3)) a_nil))))))))
    (s_one (s_if (t_cmp z_isnt (d_var (pv 7)) d_non (nomark _))
    (s_cons (s_app (ps_expr (pe_bm PySem.F.plainAttrs_list PySem.F.slot_list_append PySem.F.type_list_append mt_append (pv 4) (pa_cons (d_var (pv 7)) pa_nil))))
    (s_one (s_set (ps_set (i := 5) sc_law_closed.nd rfl (by first | exact Or.inl rfl | exact Or.inr rfl) d_bl))))
    s_nil)))))))
    (s_one (s_frz1 (i := 4) (s_ret (d_ty c_tuple (by rfl) T.z_tuple (by decide +kernel) (n_cons (d_var (pv 4)) n_nil))))))))
theorem ok_law_breaks (T : Tx K mg) : FnOk P w K mg base CX0 2 T.d_law_breaks.f T.d_law_breaks.fd ["lines", "rule", "terms"] (spZ K mg 3 F_law_breaks) :=
  fn_ok (k := 1) T.d_law_breaks.fu sc_law_breaks fun cdv A outer s H E hr =>
    (s_cons (s_asg (d_var (pv 1)) (g_tup rfl (g_cons (g_name (pg_name (i := 3) sc_law_breaks.nd rfl (by first | exact Or.inl rfl | exact Or.inr rfl))) (g_cons (g_name (pg_name (i := 4) sc_law_breaks.nd rfl (by first | exact Or.inl rfl | exact Or.inr rfl))) (g_cons (g_name (pg_name (i := 5) sc_law_breaks.nd rfl (by first | exact Or.inl rfl | exact Or.inr rfl))) g_nil)))))
    (s_cons (s_if (PW.pt (w_or (t_not (t_val (d_isi (T := "tuple") (by rfl) T.z_isinstance (fun _ _ _ _ _ r h => PySem.W.isinstance_tuple_data r h) (d_var (pv 2)) (pe_bltn (by rfl) T.z_tuple (by decide +kernel) rfl)))) (w_or1 (t_cmp (z_ne hr.units) (d_b c_len (by rfl) T.z_len (by decide +kernel) (n_cons (d_var (pv 2)) n_nil)) (d_op z_add d_int (d_ty c_int (by rfl) T.z_int (by decide +kernel) (n_cons (d_cmp (z_in hr.units) (d_var (pv 3)) (d_tup (n_cons d_str (n_cons d_str n_nil))) (by rfl)) n_nil))) (nomark _)))))
    (s_one (s_ret d_bl))
    s_nil)
    (s_cons (s_if (t_cmp (z_ne hr.units) (d_new (l_lc (own := [("term", 7)]) rfl sc_law_breaks.nd (i_seq (d_var (pv 2))) (blkOk_by (own := [("term", 7)]) (N := N_law_breaks) (sc := defScope s_law_breaks) (by decide +kernel)) (fun _ _ _ _ _ => (g_name (pg_name (i := 7) sc_law_breaks.nd rfl (by first | exact Or.inl rfl | exact Or.inr rfl)))) (fun _ _ _ _ _ => (t_if1 (t_val (d_isi (T := "bool") (by rfl) T.z_isinstance (fun _ _ _ _ _ r h => PySem.W.isinstance_bool_data r h) (d_var (pv 7)) (pe_bltn (by rfl) T.z_bool (by decide +kernel) rfl))))) (fun _ _ _ _ _ => (d_var (pv 7))) (by decide))) (d_new (l_lst n_nil)) (nomark _))
    (s_one (s_ret d_bl))
    s_nil)
    (s_cons (s_if (t_cmp (z_in hr.units) (d_var (pv 3)) (d_tup (n_cons d_str (n_cons d_str n_nil))) (by rfl))
    (s_cons (s_set (ps_set (i := 6) sc_law_breaks.nd rfl (by first | exact Or.inl rfl | exact Or.inr rfl) (d_cmp (z_in hr.units) (d_ix (d_var (pv 2)) d_int (fun _ _ => rfl)) (d_call (ok_law_of_sort T) (hr.mono (by decide)) (by rfl) T.d_law_of_sort.at_ T.d_law_of_sort.fu.kp T.d_law_of_sort.b run_len (a_cons (d_var (pv 0)) (a_cons (d_var (pv 4)) a_nil))) (by rfl))))
    (s_one (s_ret (d_and (d_var (pv 6)) (d_one (d_cmp (z_eq hr.units) (d_cmp (z_in hr.units) (d_ix (d_var (pv 2)) d_int (fun _ _ => rfl)) (d_call (ok_law_of_sort T) (hr.mono (by decide)) (by rfl) T.d_law_of_sort.at_ T.d_law_of_sort.fu.kp T.d_law_of_sort.b run_len (a_cons (d_var (pv 0)) (a_cons (d_var (pv 5)) a_nil))) (by rfl)) (d_cmp (z_eq hr.units) (d_var (pv 3)) d_str (nomark _)) (nomark _)))))))
    s_nil)
    (s_one (s_ret (d_and (d_cmp (z_in hr.units) (d_var (pv 2)) (d_call (ok_law_pairs T) (hr.mono (by decide)) (by rfl) T.d_law_pairs.at_ T.d_law_pairs.fu.kp T.d_law_pairs.b run_len (a_cons (d_var (pv 0)) (a_cons (d_var (pv 4)) a_nil))) (by rfl)) (d_one (d_cmp (z_eq hr.units) (d_cmp (z_in hr.units) (d_var (pv 2)) (d_call (ok_law_pairs T) (hr.mono (by decide)) (by rfl) T.d_law_pairs.at_ T.d_law_pairs.fu.kp T.d_law_pairs.b run_len (a_cons (d_var (pv 0)) (a_cons (d_var (pv 5)) a_nil))) (by rfl)) (d_cmp (z_eq hr.units) (d_var (pv 3)) d_str (nomark _)) (nomark _))))))))))
theorem ok_law_is_right (T : Tx K mg) : FnOk P w K mg base CX0 5 T.d_law_is_right.f T.d_law_is_right.fd ["rules", "lines"] (spZ K mg 2 F_law_is_right) :=
  fn_ok (k := 4) T.d_law_is_right.fu sc_law_is_right fun cdv A outer s H E hr =>
    (s_cons (s_new (s_lc (own := [("number", 5), ("rule", 6)]) (i := 2) rfl sc_law_is_right.nd rfl rfl (sw_true rfl rfl rfl (by decide +kernel)) (i_enum (by rfl) T.z_enumerate (n_cons (d_var (pv 0)) n_nil)) (blkOk_by (own := [("number", 5), ("rule", 6)]) (N := N_law_is_right) (sc := defScope s_law_is_right) (by decide +kernel)) (fun _ _ _ _ _ => (g_tup rfl (g_cons (g_name (pg_name (i := 5) sc_law_is_right.nd rfl (by first | exact Or.inl rfl | exact Or.inr rfl))) (g_cons (g_name (pg_name (i := 6) sc_law_is_right.nd rfl (by first | exact Or.inl rfl | exact Or.inr rfl))) g_nil)))) (fun _ _ _ _ _ => (t_if1 (t_not (t_val (d_call (ok_law_is_so T) (hr.mono (by decide)) (by rfl) T.d_law_is_so.at_ T.d_law_is_so.fu.kp T.d_law_is_so.b run_len (a_cons (d_var (pv 1)) (a_cons (d_var (pv 6)) a_nil))))))) (fun _ _ _ _ _ => (d_var (pv 5))) (by decide)))
    (s_cons (s_set (ps_set (i := 3) sc_law_is_right.nd rfl (by first | exact Or.inl rfl | exact Or.inr rfl) (d_call (ok_breach T) (hr.mono (by decide)) (by rfl) T.d_breach.at_ T.d_breach.fu.kp T.d_breach.b run_len (a_cons (d_var (pv 0)) (a_cons (d_var (pv 1)) a_nil)))))
    (s_cons (s_set (ps_set (i := 4) sc_law_is_right.nd rfl (by first | exact Or.inl rfl | exact Or.inr rfl) (d_call (ok_keeps T) (hr.mono (by decide)) (by rfl) T.d_keeps.at_ T.d_keeps.fu.kp T.d_keeps.b run_len (a_cons (d_var (pv 0)) (a_cons (d_var (pv 1)) a_nil)))))
    (s_cons (s_if (PW.pt (w_or (t_not (t_val (d_isi (T := "bool") (by rfl) T.z_isinstance (fun _ _ _ _ _ r h => PySem.W.isinstance_bool_data r h) (d_var (pv 4)) (pe_bltn (by rfl) T.z_bool (by decide +kernel) rfl)))) (w_or1 (t_cmp (z_ne hr.units) (d_var (pv 4)) (d_cmp (z_eq hr.units) (d_var (pv 2)) (d_new (l_lst n_nil)) (nomark _)) (nomark _)))))
    (s_one (s_ret d_bl))
    s_nil)
    (s_cons (s_if (t_cmp (z_eq hr.units) (d_var (pv 2)) (d_new (l_lst n_nil)) (nomark _))
    (s_one (s_ret (d_cmp z_is (d_var (pv 3)) d_non (nomark _))))
    s_nil)
    (s_cons (s_if (PW.pt (w_or (t_not (t_val (d_isi (T := "tuple") (by rfl) T.z_isinstance (fun _ _ _ _ _ r h => PySem.W.isinstance_tuple_data r h) (d_var (pv 3)) (pe_bltn (by rfl) T.z_tuple (by decide +kernel) rfl)))) (w_or (t_cmp (z_ne hr.units) (d_b c_len (by rfl) T.z_len (by decide +kernel) (n_cons (d_var (pv 3)) n_nil)) d_int (nomark _)) (w_or (t_cmp (z_ne hr.units) (d_ix (d_var (pv 3)) d_int (fun _ _ => rfl)) (d_ix (d_var (pv 2)) d_int (fun _ _ => rfl)) (nomark _)) (w_or1 (t_val (d_isi (T := "bool") (by rfl) T.z_isinstance (fun _ _ _ _ _ r h => PySem.W.isinstance_bool_data r h) (d_ix (d_var (pv 3)) d_int (fun _ _ => rfl)) (pe_bltn (by rfl) T.z_bool (by decide +kernel) rfl))))))))
    (s_one (s_ret d_bl))
    s_nil)
    (s_one (s_ret (d_call (ok_law_breaks T) (hr.mono (by decide)) (by rfl) T.d_law_breaks.at_ T.d_law_breaks.fu.kp T.d_law_breaks.b run_len (a_cons (d_var (pv 1)) (a_cons (d_ix (d_var (pv 0)) (d_ix (d_var (pv 2)) d_int (fun _ _ => rfl)) (fun _ _ => rfl)) (a_cons (d_ix (d_var (pv 3)) d_int (fun _ _ => rfl)) a_nil))))))))))))
theorem ok_law {f : Addr} {fd : FuncData} (T : Tx K mg) (Fu : Fun K "law" "law" s_law f fd) (LT : ∀ ns : List Int, ns.length ≤ 63 → ∃ k', m_law (.un :: .dk :: List.replicate 10 .un) (mkDk ns) = .ok (.rt (.bool true)) k') : FnOk P w K mg base CX0 8 f fd ["script"] (spLaw K) := by
  refine Fu.ok (k := 7) sc_law (fun vs H Q E h => by obtain ⟨a, ns, rfl, _⟩ := h; rfl) (fun cdv A outer s H vs Q E hr h => ?_)
  obtain ⟨a, ns, rfl, hS, hl, q⟩ := h
  refine ⟨_, pss_cons (ps_set (i := 1) sc_law.nd rfl (by first | exact Or.inl rfl | exact Or.inr rfl) (pe_call (ok_law_deck T) (hr.mono (by decide)) (by rfl) T.d_law_deck.at_ T.d_law_deck.fu.kp T.d_law_deck.b .nil pass0 (pa_cons (pv 0) pa_nil)))
    (s_cons (s_set (ps_set (i := 2) sc_law.nd rfl (by first | exact Or.inl rfl | exact Or.inr rfl) (d_cmp z_gt (d_call (ok_law_take T) (hr.mono (by decide)) (by rfl) T.d_law_take.at_ T.d_law_take.fu.kp T.d_law_take.b run_len (a_dk (pv 1) (a_cons d_int a_nil))) d_int (nomark _))))
    (s_cons (s_set (ps_set (i := 3) sc_law.nd rfl (by first | exact Or.inl rfl | exact Or.inr rfl) (d_call (ok_law_words T) (hr.mono (by decide)) (by rfl) T.d_law_words.at_ T.d_law_words.fu.kp T.d_law_words.b run_len (a_dk (pv 1) a_nil))))
    (s_cons (s_set (ps_set (i := 4) sc_law.nd rfl (by first | exact Or.inl rfl | exact Or.inr rfl) (d_call (ok_law_rules T) (hr.mono (by decide)) (by rfl) T.d_law_rules.at_ T.d_law_rules.fu.kp T.d_law_rules.b run_len (a_dk (pv 1) (a_cons (d_var (pv 3)) (a_cons (d_call (ok_law_pick T) (hr.mono (by decide)) (by rfl) T.d_law_pick.at_ T.d_law_pick.fu.kp T.d_law_pick.b run_len (a_dk (pv 1) (a_cons (d_new (l_lst (n_cons d_int (n_cons d_int (n_cons d_int (n_cons d_int n_nil)))))) a_nil))) a_nil))))))
    (s_cons (s_set (ps_set (i := 5) sc_law.nd rfl (by first | exact Or.inl rfl | exact Or.inr rfl) (d_op z_add (d_ix (d_var (pv 3)) d_int (fun _ _ => rfl)) (d_new (l_lst (n_cons d_int (n_cons (d_op z_add d_int (d_call (ok_law_take T) (hr.mono (by decide)) (by rfl) T.d_law_take.at_ T.d_law_take.fu.kp T.d_law_take.b run_len (a_dk (pv 1) (a_cons d_int a_nil)))) n_nil)))))))
    (s_cons (s_set (ps_set (i := 6) sc_law.nd rfl (by first | exact Or.inl rfl | exact Or.inr rfl) (d_call (ok_law_lines T) (hr.mono (by decide)) (by rfl) T.d_law_lines.at_ T.d_law_lines.fu.kp T.d_law_lines.b run_len (a_dk (pv 1) (a_cons (d_var (pv 3)) (a_cons (d_var (pv 5)) (a_cons (d_call (ok_law_pick T) (hr.mono (by decide)) (by rfl) T.d_law_pick.at_ T.d_law_pick.fu.kp T.d_law_pick.b run_len (a_dk (pv 1) (a_cons (d_new (l_lst (n_cons d_int (n_cons d_int (n_cons d_int (n_cons d_int n_nil)))))) a_nil))) a_nil)))))))
    (s_cons (s_if (t_val (d_var (pv 2)))
    (s_one (s_set (ps_set (i := 6) sc_law.nd rfl (by first | exact Or.inl rfl | exact Or.inr rfl) (d_call (ok_law_closed T) (hr.mono (by decide)) (by rfl) T.d_law_closed.at_ T.d_law_closed.fu.kp T.d_law_closed.b run_len (a_dk (pv 1) (a_cons (d_var (pv 4)) (a_cons (d_var (pv 6)) (a_cons (d_var (pv 5)) a_nil))))))))
    s_nil)
    (s_cons (s_set (ps_set (i := 7) sc_law.nd rfl (by first | exact Or.inl rfl | exact Or.inr rfl) (d_call (ok_law_line T) (hr.mono (by decide)) (by rfl) T.d_law_line.at_ T.d_law_line.fu.kp T.d_law_line.b run_len (a_dk (pv 1) (a_cons (d_var (pv 3)) (a_cons (d_var (pv 5)) a_nil))))))
    (s_cons (s_set (ps_set (i := 8) sc_law.nd rfl (by first | exact Or.inl rfl | exact Or.inr rfl) (d_op z_add (d_ty c_tuple (by rfl) T.z_tuple (by decide +kernel) (n_cons (d_new (l_lc (own := [("line", 11)]) rfl sc_law.nd (i_seq (d_var (pv 6))) (blkOk_by (own := [("line", 11)]) (N := N_law) (sc := defScope s_law) (by decide +kernel)) (fun _ _ _ _ _ => (g_name (pg_name (i := 11) sc_law.nd rfl (by first | exact Or.inl rfl | exact Or.inr rfl)))) (fun _ _ _ _ _ => (t_if1 (t_cmp (z_ne hr.units) (d_var (pv 11)) (d_var (pv 7)) (nomark _)))) (fun _ _ _ _ _ => (d_var (pv 11))) (by decide))) n_nil)) (d_tup (n_cons (d_var (pv 7)) n_nil)))))
    (s_cons (s_set (ps_set (i := 9) sc_law.nd rfl (by first | exact Or.inl rfl | exact Or.inr rfl) (d_call (ok_law_take T) (hr.mono (by decide)) (by rfl) T.d_law_take.at_ T.d_law_take.fu.kp T.d_law_take.b run_len (a_dk (pv 1) (a_cons (d_op z_add (d_b c_len (by rfl) T.z_len (by decide +kernel) (n_cons (d_var (pv 6)) n_nil)) d_int) a_nil)))))
    (s_cons (s_for PassesOwn.never rfl (i_seq (d_new (l_lst (n_cons (d_var (pv 6)) (n_cons (d_rev (d_var (pv 6))) (n_cons (d_var (pv 8)) (n_cons (d_op z_add (d_sl (d_var (pv 6)) o_none (o_some (d_var (pv 9)))) (d_sl (d_var (pv 6)) (o_some (d_op z_add (d_var (pv 9)) d_int)) o_none)) (n_cons (d_op z_add (d_sl (d_var (pv 6)) (o_some (d_var (pv 9))) o_none) (d_sl (d_var (pv 6)) o_none (o_some (d_var (pv 9))))) n_nil)))))))) (g_name (pg_name (i := 10) sc_law.nd rfl (by first | exact Or.inl rfl | exact Or.inr rfl)))
    (s_one (s_if (t_not (t_val (d_call (ok_law_is_right T) (hr.mono (by decide)) (by rfl) T.d_law_is_right.at_ T.d_law_is_right.fu.kp T.d_law_is_right.b run_len (a_cons (d_var (pv 4)) (a_cons (d_var (pv 10)) a_nil)))))
    (s_one (s_ret d_bl))
    s_nil)))
    (s_one (s_ret (d_and (d_call (ok_law_is_right T) (hr.mono (by decide)) (by rfl) T.d_law_is_right.at_ T.d_law_is_right.fu.kp T.d_law_is_right.b run_len (a_cons (d_var (pv 4)) (a_cons (d_var (pv 6)) a_nil))) (d_one (d_call (ok_law_is_right T) (hr.mono (by decide)) (by rfl) T.d_law_is_right.at_ T.d_law_is_right.fu.kp T.d_law_is_right.b run_len (a_cons (d_rev (d_var (pv 4))) (a_cons (d_var (pv 6)) a_nil))))))))))))))))), law_run (n := 10) rfl hS hl q (LT ns hl)⟩

end
end Y
namespace Y
section
open PySem Z
/-! ### the deck's draws -/
def LIM : Nat := 1099511627776
theorem cell_ok (ns : List Int) (n : Nat) (k : Dk) : Ok (F_law_cell [.dat (.list (ns.map PyData.int)), .dat (.int n)] k) fun d k' => ∃ i : Int, d = .int i ∧ k' = k := by
  unfold F_law_cell Z.run m_law_cell
  simp [Ar.sv, eqD_int]
  by_cases h : ns = []
  · subst h
    simp [mulD_int]
  · have hl : 0 < ns.length := List.length_pos_iff.2 h
    have h0 : (0 : Int) ≤ (n : Int) % (ns.length : Int) := Int.emod_nonneg _ (by omega)
    have h1 : (n : Int) % (ns.length : Int) < ((ns.map PyData.int).length : Nat) := by rw [List.length_map]; exact Int.emod_lt_of_pos _ (by omega)
    obtain ⟨x, hx, ex⟩ := at_mem (xs := ns.map PyData.int) h0 h1
    obtain ⟨i, _, rfl⟩ := List.mem_map.1 hx
    have e : (((ns.length : Nat) : Int) == 0) = false := by simp [h]
    simp [e, h, modD_int, hl, ex]
theorem take_ok {many : Int} (h0 : 0 < many) (h1 : many < 1073741824) (k : Dk) (hn : k.n < LIM) : Ok (F_law_take [.dk, .dat (.int many)] k) fun d k' => ∃ r : Int, 0 ≤ r ∧ r < many ∧ d = .int r ∧ k'.n ≤ k.n + 1 := by
  unfold F_law_take Z.run m_law_take
  simp only [Ar.sv, List.length_cons, List.length_nil, if_pos, List.map_cons, List.map_nil, List.replicate, List.cons_append, List.nil_append, r_sSeq, Res.bind_ok, Ok_bind]
  refine (while_ok (J := fun m e k' => ∃ x, e = [.dk, .dat (.int many), .un, x] ∧ k'.n = k.n ∧ m = k'.gs.length - k'.i)
    (R := fun o k' => (∃ x, o = .nx [.dk, .dat (.int many), .un, x] ∧ k'.n = k.n) ∨ ∃ r : Int, 0 ≤ r ∧ r < many ∧ o = .rt (.int r) ∧ k'.n = k.n)
    (fun m e k' hj => ?_) _ _ k ⟨.un, rfl, rfl, rfl⟩).mono fun o k' hr => ?_
  · obtain ⟨x, rfl, hk, hm⟩ := hj
    simp [isDkAt]
    by_cases hi : k'.i < k'.gs.length
    · have hi' : (k'.i : Int) < (k'.gs.length : Int) := by omega
      simp [hi, gN]
      generalize k'.gs[k'.i] = c
      by_cases hc : 0 < c
      · simp [hc, fdivD_int, h0, h1, isDkAt, hi, modD_int, hk]
        exact Or.inr ⟨Int.emod_nonneg _ (by omega), Int.emod_lt_of_pos _ h0⟩
      · simp [hc, isDkAt, hk]
        have : (0 : Int) ≤ (k'.i : Int) + 1 := by omega
        simp [this, hk]
        omega
    · have hi' : ¬ (k'.i : Int) < (k'.gs.length : Int) := by omega
      simp [hi', hi, hk]
  · rcases hr with ⟨x, rfl, hk⟩ | ⟨r, r0, r1, rfl, hk⟩
    · have hnn : (0 : Int) ≤ (k'.n : Int) + 1 := by omega
      simp [isDkAt, hnn]
      have ce := cell_ok k'.cells (k'.n + 1) { k' with n := ((k'.n : Int) + 1).toNat }
      have en : (((k'.n : Int) + 1).toNat : Int) = ((k'.n + 1 : Nat) : Int) := by omega
      have en2 : ((k'.n : Int) + 1).toNat = k'.n + 1 := by omega
      simp only [en2] at ce ⊢
      refine ce.mono fun d k2 hd => ?_
      obtain ⟨i, rfl, rfl⟩ := hd
      have hb : k'.n < LIM := by omega
      unfold LIM at hb
      have m0 : 0 ≤ i % 1000003 := Int.emod_nonneg _ (by omega)
      have m1 : i % 1000003 < 1000003 := Int.emod_lt_of_pos _ (by omega)
      simp [modD_int]
      generalize hq : i % 1000003 + 5 = q
      have a1 : q.natAbs < 18446744073709551616 := by omega
      simp [mulD_int a1, mulD_int, gN]
      generalize ht : (k'.n : Int) + 1 + 2 = t
      have ub : q * t ≤ 1000008 * 1099511627780 := Int.mul_le_mul (by omega) (by omega) (by omega) (by omega)
      have lb : 0 ≤ q * t := Int.mul_nonneg (by omega) (by omega)
      generalize hu : q * t + 7919 * ((k'.n : Int) + 1) = u
      have a2 : u.natAbs < 18446744073709551616 := by omega
      simp [powD_int _ _ a2, modD_int, fdivD_int, h0]
      exact ⟨_, Int.emod_nonneg _ (by omega), Int.emod_lt_of_pos _ h0, rfl, by omega⟩
    · simp
      exact ⟨r, r0, r1, rfl, by omega⟩
theorem pick_ok {ds : List D} (h0 : ds ≠ []) (h1 : ds.length < 1073741824) (k : Dk) (hn : k.n < LIM) : Ok (F_law_pick [.dk, .dat (.list ds)] k) fun d k' => d ∈ ds ∧ k'.n ≤ k.n + 1 := by
  unfold F_law_pick Z.run m_law_pick
  have hl : 0 < ds.length := List.length_pos_iff.2 h0
  simp [Ar.sv]
  refine (take_ok (by omega) (by omega) k hn).mono fun d k' h => ?_
  obtain ⟨r, r0, r1, rfl, hk⟩ := h
  obtain ⟨x, hx, ex⟩ := at_mem (xs := ds) r0 r1
  simp [ex]
  exact ⟨hx, hk⟩
theorem pick_str {s : Str} (h0 : 0 < s.length) (h1 : s.length < 16777216) (k : Dk) (hn : k.n < LIM) : Ok (F_law_pick [.dk, .dat (.str s)] k) fun d k' => (∃ c : Str, d = .str c ∧ c.length = 1) ∧ k'.n ≤ k.n + 1 := by
  unfold F_law_pick Z.run m_law_pick
  have hs : s.length ≤ sizeLine := by unfold sizeLine; omega
  simp [Ar.sv, fLen, lenD, hs]
  refine (take_ok (by omega) (by omega) k hn).mono fun d k' h => ?_
  obtain ⟨r, r0, r1, rfl, hk⟩ := h
  obtain ⟨x, hx, ex⟩ := at_mem (xs := s.cps.toList) r0 (by rw [Array.length_toList]; exact r1)
  simp [ixD, hs, ex]
  exact ⟨rfl, hk⟩
end
end Y
namespace Y
section
open PySem Z
/-! ### names -/
def NameD (x : D) : Prop := ∃ s : Str, x = .str s ∧ s.length ≤ 30
theorem letters_len : ("abcdefghijklmnopqrstuvwxyz" : Str).length = 26 := by decide +kernel
theorem e_len : ("e" : Str).length = 1 := by decide +kernel
theorem none_len : ("" : Str).length = 0 := by decide +kernel
theorem range_mem {m : Nat} {d : D} (h : d ∈ (List.range m).map fun (j : Nat) => PyData.int j) : ∃ j : Nat, j < m ∧ d = .int j := by
  obtain ⟨j, hj, rfl⟩ := List.mem_map.1 h
  exact ⟨j, List.mem_range.1 hj, rfl⟩
theorem names_ok (m : Nat) (hm : m ≤ 30) (k : Dk) (hn : k.n + 8 + m ≤ LIM) : Ok (F_law_names [.dk, .dat (.int m)] k) fun d k' => ∃ L : List D, d = .list L ∧ L.length = m ∧ (∀ x ∈ L, NameD x) ∧ k'.n ≤ k.n + 8 + m := by
  unfold F_law_names Z.run m_law_names
  simp [Ar.sv, gN]
  refine (pick_ok (by simp) (by simp) k (by omega)).mono fun d k1 h => ?_
  obtain ⟨hd, hk1⟩ := h
  have hd' : ∃ c : Nat, c ≤ 4 ∧ d = .int c := by
    simp at hd
    rcases hd with rfl | rfl | rfl | rfl
    · exact ⟨0, by omega, rfl⟩
    · exact ⟨1, by omega, rfl⟩
    · exact ⟨2, by omega, rfl⟩
    · exact ⟨4, by omega, rfl⟩
  obtain ⟨c, hc, rfl⟩ := hd'
  have hr : c ≤ 1000000 := by omega
  simp [hr]
  refine (lcL_ok (J := fun rest acc k' => acc.length + rest.length = c ∧ k'.n + rest.length ≤ k.n + 1 + c ∧ ∀ x ∈ acc, ∃ s : Str, x = .str s ∧ s.length ≤ 1) (fun d ds acc k' hj => ?_) _ _ _ ⟨by simp, by simp; omega, by simp⟩).mono fun r k2 hj => ?_
  · obtain ⟨h1, h2, h3⟩ := hj
    simp only [List.length_cons] at h1 h2
    refine ⟨_, rfl, ?_⟩
    simp [wipeE]
    refine (pick_str (by rw [letters_len]; decide) (by rw [letters_len]; decide) _ (by omega)).mono fun x k3 hx => ?_
    obtain ⟨⟨s, rfl, hs⟩, hk3⟩ := hx
    refine ⟨by unfold sizeLine; omega, by omega, by omega, fun x hx => ?_⟩
    rcases hx with hx | rfl
    · exact h3 x hx
    · exact ⟨s, rfl, by omega⟩
  · obtain ⟨h1, h2, h3⟩ := hj
    simp at h1 h2
    obtain ⟨stem, ej, hstem⟩ := joinD_str (a := "") (ds := r) (n := 1) (m := 4) h3 (by omega) (by rw [none_len]; decide)
    rw [none_len] at hstem
    simp [ej, lenD_str (show stem.length ≤ sizeLine by unfold sizeLine; omega)]
    refine (take_ok (by omega) (by omega) k2 (by omega)).mono fun x k3 hx => ?_
    obtain ⟨cut, c0, c1, rfl, hk3⟩ := hx
    refine (take_ok (by omega) (by omega) k3 (by omega)).mono fun x k4 hx => ?_
    obtain ⟨b, b0, b1, rfl, hk4⟩ := hx
    have hmr : m ≤ 1000000 := by omega
    simp [hmr]
    refine (forL_ok (J := fun rest e k' => ∃ acc u v, e = [.dk, .dat (.int m), .dat (.str "abcdefghijklmnopqrstuvwxyz"), .dat (.str stem), .dat (.int cut), .dat (.int b), .own acc, u, v] ∧ acc.length + rest.length = m ∧ k'.n + rest.length ≤ k.n + 8 + m ∧ (∀ x ∈ acc, NameD x) ∧ ∀ x ∈ rest, ∃ j : Nat, x = .int j)
      (R := fun o k' => ∃ acc u v, o = .nx [.dk, .dat (.int m), .dat (.str "abcdefghijklmnopqrstuvwxyz"), .dat (.str stem), .dat (.int cut), .dat (.int b), .own acc, u, v] ∧ acc.length = m ∧ k'.n ≤ k.n + 8 + m ∧ (∀ x ∈ acc, NameD x)) (fun d ds e k' hj => ?_) (fun e k' hj => ?_) _ _ _ ⟨[], .un, .un, rfl, by simp, by simp; omega, by simp, fun x hx => ?_⟩).mono fun o k5 ho => ?_
    · obtain ⟨acc, u, v, rfl, h4, h5, h6, h7⟩ := hj
      obtain ⟨j, rfl⟩ := h7 d (.head _)
      simp only [List.length_cons] at h4 h5
      refine ⟨_, rfl, ?_⟩
      have hst : stem.length ≤ sizeLine := by unfold sizeLine; omega
      have hl : ("abcdefghijklmnopqrstuvwxyz" : Str).length ≤ sizeLine := by rw [letters_len]; decide
      have q0 : 0 ≤ (b + 7 * (j : Int)) % 26 := Int.emod_nonneg _ (by omega)
      have q1 : (b + 7 * (j : Int)) % 26 < 26 := Int.emod_lt_of_pos _ (by omega)
      obtain ⟨ch, _, ech⟩ := ixD_str hl q0 (by rw [letters_len]; exact q1)
      have lc1 := len_cut stem none (some cut)
      have lc2 := len_cut stem (some cut) none
      simp [cutD_str hst, mulD_int, modD_int, ech]
      have l1 : (L2.cutS stem none (some cut)).length + (⟨#[ch]⟩ : Str).length ≤ sizeLine := by show _ + 1 ≤ 16777216; omega
      rw [addD_str l1]
      simp only [Option.some.injEq, exists_eq_left', Res.of_some, Res.bind_ok, Ok_bind, Ok_ok, Ok_of]
      have l2 : (L2.cutS stem none (some cut) ++ (⟨#[ch]⟩ : Str)).length + (L2.cutS stem (some cut) none).length ≤ sizeLine := by rw [len_app]; show _ + 1 + _ ≤ 16777216; omega
      rw [addD_str l2]
      simp
      have l3 : (L2.cutS stem none (some cut) ++ (⟨#[ch]⟩ : Str) ++ L2.cutS stem (some cut) none).length ≤ 9 := by rw [len_app, len_app]; show _ + 1 + _ ≤ 9; omega
      generalize L2.cutS stem none (some cut) ++ (⟨#[ch]⟩ : Str) ++ L2.cutS stem (some cut) none = nm at l3
      refine (pick_ok (ds := [.int 0, .int 0, .int 0, .int 3]) (by simp) (by simp) k' (by omega)).mono fun x k6 hx => ?_
      obtain ⟨hx, hk6⟩ := hx
      have hx' : ∃ c : Nat, c ≤ 3 ∧ x = .int c := by
        simp at hx
        rcases hx with rfl | rfl
        · exact ⟨0, by omega, rfl⟩
        · exact ⟨3, by omega, rfl⟩
      obtain ⟨c, hc3, rfl⟩ := hx'
      rw [inD_tup (n := 0) (m := 0) (forall_mem_2 (sd_str _) (sd_str _)) (sd_str _)]
      simp
      generalize hw : (c : Int) + (if hasD [PyData.str "if", PyData.str "and"] (PyData.str nm) = true then 1 else 0) = w
      have hw0 : 0 ≤ w := by split at hw <;> omega
      have hw4 : w ≤ 4 := by split at hw <;> omega
      have lm := len_mul ("e" : Str) w
      rw [e_len] at lm
      simp [mulD_str (show ("e" : Str).length ≤ 1000 by rw [e_len]; decide) (show -1000 ≤ w by omega) (show w ≤ 1000 by omega)]
      rw [addD_str (by show _ ≤ 16777216; omega)]
      have hac : acc.length ≤ 1000 := by omega
      simp [hac]
      refine ⟨by omega, by omega, fun x hx => ?_, fun x hx => h7 x (.tail _ hx)⟩
      rcases hx with hx | rfl
      · exact h6 x hx
      · exact ⟨_, rfl, by rw [len_app]; omega⟩
    · obtain ⟨acc, u, v, rfl, h4, h5, h6, h7⟩ := hj
      exact ⟨acc, u, v, rfl, by simpa using h4, by simpa using h5, h6⟩
    · obtain ⟨j, _, rfl⟩ := range_mem hx
      exact ⟨j, rfl⟩
    · obtain ⟨acc, u, v, rfl, h4, h5, h6⟩ := ho
      simp
      exact ⟨h4, h6, h5⟩
end
end Y
namespace Y
section
open PySem Z
/-! ### words, sorts, rules -/
structure Words (A B C : List D) : Prop where
  a : ∀ x ∈ A, NameD x
  b : ∀ x ∈ B, NameD x
  c : ∀ x ∈ C, NameD x
  a1 : A.length = 3
  b1 : B.length = 2
  c1 : C.length = 3
def wordsD (A B C : List D) : D := .list [.list A, .list B, .list C]
theorem eight {L : List D} (h : L.length = 8) : ∃ a b c d e f g i, L = [a, b, c, d, e, f, g, i] := by
  match L, h with
  | [a, b, c, d, e, f, g, i], _ => exact ⟨a, b, c, d, e, f, g, i, rfl⟩
theorem at_6 {α : Type} (a b c d e f g : α) (xs : List α) : L2.atI (a :: b :: c :: d :: e :: f :: g :: xs) 6 = some g := L2.atI_nat (xs := a :: b :: c :: d :: e :: f :: g :: xs) (j := 6) rfl
theorem at_4 {α : Type} (a b c d e : α) (xs : List α) : L2.atI (a :: b :: c :: d :: e :: xs) 4 = some e := L2.atI_nat (xs := a :: b :: c :: d :: e :: xs) (j := 4) rfl
theorem at_7 {α : Type} (a b c d e f g i : α) (xs : List α) : L2.atI (a :: b :: c :: d :: e :: f :: g :: i :: xs) 7 = some i := L2.atI_nat (xs := a :: b :: c :: d :: e :: f :: g :: i :: xs) (j := 7) rfl
theorem cut_mid {α : Type} (xs : List α) (n m : Nat) : cutL xs (some (n : Int)) (some (m : Int)) = (xs.drop (min n xs.length)).take (min m xs.length - min n xs.length) := by
  unfold cutL
  rw [HT.sIx_nat, HT.sIx_nat]
theorem words_ok (k : Dk) (hn : k.n + 20 ≤ LIM) : Ok (F_law_words [.dk] k) fun d k' => ∃ A B C, Words A B C ∧ d = wordsD A B C ∧ k'.n ≤ k.n + 20 := by
  unfold F_law_words Z.run m_law_words
  simp [Ar.sv]
  refine (names_ok 8 (by decide) k (by omega)).mono fun d k1 h => ?_
  obtain ⟨L, rfl, hl, hL, hk1⟩ := h
  obtain ⟨a, b, c, d, e, f, g, i, rfl⟩ := eight hl
  simp
  refine (take_ok (by decide) (by decide) k1 (by omega)).mono fun x k2 h => ?_
  obtain ⟨r, r0, r1, rfl, hk2⟩ := h
  simp [eqD_int]
  have c3 : cutL [a, b, c, d, e, f, g, i] none (some 3) = [a, b, c] := cut_to _ 3
  have c35 : cutL [a, b, c, d, e, f, g, i] (some 3) (some 5) = [d, e] := cut_mid _ 3 5
  have c5 : cutL [a, b, c, d, e, f, g, i] (some 5) none = [f, g, i] := cut_from _ 5
  by_cases hr : r = 0
  · simp [hr, c3, at_4, at_6, at_7]
    refine ⟨[a, b, c], [a, e], [a, g, i], ⟨fun x hx => hL x ?_, fun x hx => hL x ?_, fun x hx => hL x ?_, rfl, rfl, rfl⟩, rfl, by omega⟩ <;> simp at hx ⊢ <;> grind
  · simp [hr, c3, c35, c5]
    refine ⟨[a, b, c], [d, e], [f, g, i], ⟨fun x hx => hL x ?_, fun x hx => hL x ?_, fun x hx => hL x ?_, rfl, rfl, rfl⟩, rfl, by omega⟩ <;> simp at hx ⊢ <;> grind
theorem ne_of_len {α : Type} {xs : List α} {n : Nat} (h : xs.length = n) (h0 : 0 < n) : xs ≠ [] := fun e => by subst e; simp at h; omega
def TurnP (B : List D) (d : D) : Prop := ∃ b s, b ∈ B ∧ (s = 0 ∨ s = 1) ∧ d = .tuple [b, .int s]
def SortP (A B : List D) (d : D) : Prop := (∃ a, a ∈ A ∧ d = .tuple [a]) ∨ TurnP B d
def RuleP (A B : List D) (d : D) : Prop := ∃ (w : Str) (one other : D), d = .tuple [.str w, one, other] ∧ (((w = "within" ∨ w = "apart") ∧ SortP A B one ∧ SortP A B other) ∨ ((w = "along" ∨ w = "away") ∧ TurnP B one ∧ TurnP B other))
section
variable {A B C : List D}
theorem turn_ok (W : Words A B C) (k : Dk) (hn : k.n + 2 ≤ LIM) : Ok (F_law_turn [.dk, .dat (wordsD A B C)] k) fun d k' => TurnP B d ∧ k'.n ≤ k.n + 2 := by
  unfold F_law_turn Z.run m_law_turn
  simp [Ar.sv, wordsD]
  refine (pick_ok (ne_of_len W.b1 (by decide)) (by rw [W.b1]; decide) k (by omega)).mono fun b k1 h => ?_
  obtain ⟨hb, hk1⟩ := h
  refine (take_ok (by decide) (by decide) k1 (by omega)).mono fun x k2 h => ?_
  obtain ⟨r, r0, r1, rfl, hk2⟩ := h
  exact ⟨⟨b, r, hb, by omega, rfl⟩, by omega⟩
theorem sort_ok (W : Words A B C) (k : Dk) (hn : k.n + 3 ≤ LIM) : Ok (F_law_sort [.dk, .dat (wordsD A B C)] k) fun d k' => SortP A B d ∧ k'.n ≤ k.n + 3 := by
  unfold F_law_sort Z.run m_law_sort
  simp [Ar.sv]
  refine (take_ok (by decide) (by decide) k (by omega)).mono fun x k1 h => ?_
  obtain ⟨r, r0, r1, rfl, hk1⟩ := h
  simp [eqD_int]
  by_cases hr : r = 0
  · simp [hr, wordsD]
    refine (pick_ok (ne_of_len W.a1 (by decide)) (by rw [W.a1]; decide) k1 (by omega)).mono fun a k2 h => ?_
    obtain ⟨ha, hk2⟩ := h
    exact ⟨.inl ⟨a, ha, rfl⟩, by omega⟩
  · simp [hr]
    exact (turn_ok W k1 (by omega)).mono fun d k2 h => ⟨.inr h.1, by omega⟩
theorem rule_ok (W : Words A B C) (k : Dk) (hn : k.n + 7 ≤ LIM) : Ok (F_law_rule [.dk, .dat (wordsD A B C)] k) fun d k' => RuleP A B d ∧ k'.n ≤ k.n + 7 := by
  unfold F_law_rule Z.run m_law_rule
  simp [Ar.sv]
  refine (take_ok (by decide) (by decide) k (by omega)).mono fun x k1 h => ?_
  obtain ⟨r, r0, r1, rfl, hk1⟩ := h
  by_cases h4 : r < 4
  · simp [eqD_int, h4]
    refine (sort_ok W k1 (by omega)).mono fun x k2 h2 => (sort_ok W k2 (by omega)).mono fun y k3 h3 => ?_
    exact ⟨⟨_, x, y, rfl, .inl ⟨.inl rfl, h2.1, h3.1⟩⟩, by omega⟩
  by_cases h6 : r < 6
  · simp [eqD_int, h4, h6]
    refine (turn_ok W k1 (by omega)).mono fun x k2 h2 => (turn_ok W k2 (by omega)).mono fun y k3 h3 => ?_
    exact ⟨⟨_, x, y, rfl, .inr ⟨.inl rfl, h2.1, h3.1⟩⟩, by omega⟩
  by_cases h7 : r = 6
  · simp [eqD_int, h4, h6, h7]
    refine (sort_ok W k1 (by omega)).mono fun x k2 h2 => (sort_ok W k2 (by omega)).mono fun y k3 h3 => ?_
    exact ⟨⟨_, x, y, rfl, .inl ⟨.inr rfl, h2.1, h3.1⟩⟩, by omega⟩
  simp [eqD_int, h4, h6, h7]
  refine (turn_ok W k1 (by omega)).mono fun x k2 h2 => (turn_ok W k2 (by omega)).mono fun y k3 h3 => ?_
  exact ⟨⟨_, x, y, rfl, .inr ⟨.inr rfl, h2.1, h3.1⟩⟩, by omega⟩
theorem name_sd {n : Nat} {x : D} (h : NameD x) : Sd n x := by
  obtain ⟨s, rfl, _⟩ := h
  exact sd_str s
theorem turn_sd (W : Words A B C) {d : D} (h : TurnP B d) : Sd 1 d := by
  obtain ⟨b, s, hb, _, rfl⟩ := h
  exact sd_tup (n := 0) (forall_mem_2 (name_sd (W.b b hb)) (sd_int s))
theorem sort_sd (W : Words A B C) {d : D} (h : SortP A B d) : Sd 1 d := by
  rcases h with ⟨a, ha, rfl⟩ | h
  · exact sd_tup (n := 0) fun x hx => by simp at hx; subst hx; exact name_sd (W.a x ha)
  · exact turn_sd W h
theorem rule_sd (W : Words A B C) {d : D} (h : RuleP A B d) : Sd 2 d := by
  obtain ⟨w, one, other, rfl, h⟩ := h
  have : Sd 1 one ∧ Sd 1 other := by
    rcases h with ⟨_, h1, h2⟩ | ⟨_, h1, h2⟩
    · exact ⟨sort_sd W h1, sort_sd W h2⟩
    · exact ⟨turn_sd W h1, turn_sd W h2⟩
  refine sd_tup (n := 1) fun x hx => ?_
  simp at hx
  rcases hx with rfl | rfl | rfl
  · exact sd_str w
  · exact this.1
  · exact this.2
theorem rules_ok (W : Words A B C) (m : Nat) (hm : m ≤ 30) (k : Dk) (hn : k.n + 7 * m ≤ LIM) : Ok (F_law_rules [.dk, .dat (wordsD A B C), .dat (.int m)] k) fun d k' => ∃ R, d = .tuple R ∧ R.length ≤ m ∧ (∀ r ∈ R, RuleP A B r) ∧ k'.n ≤ k.n + 7 * m := by
  unfold F_law_rules Z.run m_law_rules
  have hm' : m ≤ 1000000 := by omega
  simp [Ar.sv, hm']
  refine (forL_ok (J := fun rest e k' => ∃ acc u v, e = [.dk, .dat (wordsD A B C), .dat (.int m), .own acc, u, v] ∧ acc.length + rest.length ≤ m ∧ k'.n + 7 * rest.length ≤ k.n + 7 * m ∧ (∀ x ∈ acc, RuleP A B x))
    (R := fun o k' => ∃ acc u v, o = .nx [.dk, .dat (wordsD A B C), .dat (.int m), .own acc, u, v] ∧ acc.length ≤ m ∧ k'.n ≤ k.n + 7 * m ∧ (∀ x ∈ acc, RuleP A B x)) (fun d ds e k' hj => ?_) (fun e k' hj => ?_) _ _ _ ⟨[], .un, .un, rfl, by simp, by simp, by simp⟩).mono fun o k5 ho => ?_
  · obtain ⟨acc, u, v, rfl, h4, h5, h6⟩ := hj
    simp only [List.length_cons] at h4 h5
    refine ⟨_, rfl, ?_⟩
    simp
    refine (rule_ok W k' (by omega)).mono fun r k1 h => ?_
    obtain ⟨hr, hk1⟩ := h
    simp [niD_list (n := 2) (m := 2) (fun d hd => rule_sd W (h6 d hd)) (rule_sd W hr)]
    have hac : acc.length ≤ 1000 := by omega
    cases hh : hasD acc r <;> simp [hac]
    · refine ⟨by omega, by omega, fun x hx => ?_⟩
      rcases hx with hx | rfl
      · exact h6 x hx
      · exact hr
    · exact ⟨by omega, by omega, h6⟩
  · obtain ⟨acc, u, v, rfl, h4, h5, h6⟩ := hj
    exact ⟨acc, u, v, rfl, by simpa using h4, by simpa using h5, h6⟩
  · obtain ⟨acc, u, v, rfl, h4, h5, h6⟩ := ho
    simp
    exact ⟨h4, h6, h5⟩
end
end
end Y
namespace Y
section
open PySem Z
/-! ### lines -/
def LineP (A B T : List D) (d : D) : Prop := (∃ a t, a ∈ A ∧ t ∈ T ∧ d = .tuple [a, t]) ∨ ∃ b t u, b ∈ B ∧ t ∈ T ∧ u ∈ T ∧ d = .tuple [b, t, u]
section
variable {A B C T : List D}
theorem line_sd (W : Words A B C) (hT : ∀ t ∈ T, flatK t = true) {d : D} (h : LineP A B T d) : Sd 1 d := by
  rcases h with ⟨a, t, ha, ht, rfl⟩ | ⟨b, t, u, hb, ht, hu, rfl⟩
  · exact sd_tup (n := 0) (forall_mem_2 (name_sd (W.a a ha)) (sd_flat (hT t ht)))
  · refine sd_tup (n := 0) fun x hx => ?_
    simp at hx
    rcases hx with rfl | rfl | rfl
    · exact name_sd (W.b _ hb)
    · exact sd_flat (hT _ ht)
    · exact sd_flat (hT _ hu)
theorem line_ok (W : Words A B C) (hT0 : T ≠ []) (hT1 : T.length ≤ 1000) (k : Dk) (hn : k.n + 4 ≤ LIM) : Ok (F_law_line [.dk, .dat (wordsD A B C), .dat (.list T)] k) fun d k' => LineP A B T d ∧ k'.n ≤ k.n + 4 := by
  unfold F_law_line Z.run m_law_line
  have hT2 : T.length < 1073741824 := by omega
  simp [Ar.sv]
  refine (take_ok (by decide) (by decide) k (by omega)).mono fun x k1 h => ?_
  obtain ⟨r, r0, r1, rfl, hk1⟩ := h
  by_cases hr : r = 0
  · simp [eqD_int, hr, wordsD]
    refine (pick_ok (ne_of_len W.a1 (by decide)) (by rw [W.a1]; decide) k1 (by omega)).mono fun a k2 h2 => (pick_ok hT0 hT2 k2 (by omega)).mono fun t k3 h3 => ?_
    exact ⟨.inl ⟨a, t, h2.1, h3.1, rfl⟩, by omega⟩
  · simp [eqD_int, hr, wordsD]
    refine (pick_ok (ne_of_len W.b1 (by decide)) (by rw [W.b1]; decide) k1 (by omega)).mono fun b k2 h2 => (pick_ok hT0 hT2 k2 (by omega)).mono fun t k3 h3 => (pick_ok hT0 hT2 k3 (by omega)).mono fun u k4 h4 => ?_
    exact ⟨.inr ⟨b, t, u, h2.1, h3.1, h4.1, rfl⟩, by omega⟩
theorem lines_ok (W : Words A B C) (hT : ∀ t ∈ T, flatK t = true) (hT0 : T ≠ []) (hT1 : T.length ≤ 1000) (m : Nat) (hm : m ≤ 30) (k : Dk) (hn : k.n + 4 * m ≤ LIM) : Ok (F_law_lines [.dk, .dat (wordsD A B C), .dat (.list T), .dat (.int m)] k) fun d k' => ∃ L, d = .tuple L ∧ L.length ≤ m ∧ (∀ r ∈ L, LineP A B T r) ∧ k'.n ≤ k.n + 4 * m := by
  unfold F_law_lines Z.run m_law_lines
  have hm' : m ≤ 1000000 := by omega
  simp [Ar.sv, hm']
  refine (forL_ok (J := fun rest e k' => ∃ acc u v, e = [.dk, .dat (wordsD A B C), .dat (.list T), .dat (.int m), .own acc, u, v] ∧ acc.length + rest.length ≤ m ∧ k'.n + 4 * rest.length ≤ k.n + 4 * m ∧ (∀ x ∈ acc, LineP A B T x))
    (R := fun o k' => ∃ acc u v, o = .nx [.dk, .dat (wordsD A B C), .dat (.list T), .dat (.int m), .own acc, u, v] ∧ acc.length ≤ m ∧ k'.n ≤ k.n + 4 * m ∧ (∀ x ∈ acc, LineP A B T x)) (fun d ds e k' hj => ?_) (fun e k' hj => ?_) _ _ _ ⟨[], .un, .un, rfl, by simp, by simp, by simp⟩).mono fun o k5 ho => ?_
  · obtain ⟨acc, u, v, rfl, h4, h5, h6⟩ := hj
    simp only [List.length_cons] at h4 h5
    refine ⟨_, rfl, ?_⟩
    simp
    refine (line_ok W hT0 hT1 k' (by omega)).mono fun r k1 h => ?_
    obtain ⟨hr, hk1⟩ := h
    simp [niD_list (n := 1) (m := 1) (fun d hd => line_sd W hT (h6 d hd)) (line_sd W hT hr)]
    have hac : acc.length ≤ 1000 := by omega
    cases hh : hasD acc r <;> simp [hac]
    · refine ⟨by omega, by omega, fun x hx => ?_⟩
      rcases hx with hx | rfl
      · exact h6 x hx
      · exact hr
    · exact ⟨by omega, by omega, h6⟩
  · obtain ⟨acc, u, v, rfl, h4, h5, h6⟩ := hj
    exact ⟨acc, u, v, rfl, by simpa using h4, by simpa using h5, h6⟩
  · obtain ⟨acc, u, v, rfl, h4, h5, h6⟩ := ho
    simp
    exact ⟨h4, h6, h5⟩
end
end
end Y
namespace Y
section
open PySem Z
/-! ### members of a sort, pairs of a turn -/
def LineQ (d : D) : Prop := (∃ (s : Str) (t : D), d = .tuple [.str s, t] ∧ flatK t = true) ∨ ∃ (s : Str) (t u : D), d = .tuple [.str s, t, u] ∧ flatK t = true ∧ flatK u = true
def TurnQ (d : D) : Prop := ∃ (s : Str) (p : Int), d = .tuple [.str s, .int p] ∧ (p = 0 ∨ p = 1)
def SortQ (d : D) : Prop := (∃ s : Str, d = .tuple [.str s]) ∨ TurnQ d
/-- the terms of a sort, as they come -/
def stepSort (s : D) (acc : List D) (l : D) : List D := match s, l with
  | .tuple [a], .tuple [n, t] => if PyData.eqv n a then addIn acc t else acc
  | .tuple [a, .int p], .tuple [n, t, u] => if PyData.eqv n a then addIn acc (if p = 0 then t else u) else acc
  | _, _ => acc
def ofSort (ls : List D) (s : D) : List D := ls.foldl (stepSort s) []
def pairOf (s : D) (l : D) : Option D := match s, l with
  | .tuple [a, .int p], .tuple [n, t, u] => if PyData.eqv n a then some (if p = 0 then .tuple [t, u] else .tuple [u, t]) else none
  | _, _ => none
def pairsOf (ls : List D) (s : D) : List D := ls.filterMap (pairOf s)
theorem step_flat {s l : D} {acc : List D} (h : ∀ x ∈ acc, flatK x = true) (hl : LineQ l) : ∀ x ∈ stepSort s acc l, flatK x = true := by
  intro x hx
  unfold stepSort at hx
  rcases hl with ⟨n, t, rfl, ht⟩ | ⟨n, t, u, rfl, ht, hu⟩
  · split at hx
    · rename_i he
      cases he
      split at hx
      · rcases mem_addIn hx with h1 | rfl
        · exact h x h1
        · exact ht
      · exact h x hx
    · rename_i he; cases he
    · exact h x hx
  · split at hx
    · rename_i he
      cases he
    · rename_i he; cases he
      split at hx
      · rcases mem_addIn hx with h1 | rfl
        · exact h x h1
        · split <;> assumption
      · exact h x hx
    · exact h x hx
theorem step_len (s l : D) (acc : List D) : (stepSort s acc l).length ≤ acc.length + 1 := by
  unfold stepSort
  repeat' split
  all_goals first | exact addIn_len _ _ | omega
theorem fold_flat (s : D) : ∀ (ls acc : List D), (∀ x ∈ acc, flatK x = true) → (∀ l ∈ ls, LineQ l) → ∀ x ∈ ls.foldl (stepSort s) acc, flatK x = true
  | [], acc, h, _ => h
  | l :: ls, acc, h, hl => fold_flat s ls _ (step_flat h (hl l (.head _))) fun x m => hl x (.tail _ m)
theorem ofSort_flat {ls : List D} (s : D) (hl : ∀ l ∈ ls, LineQ l) : ∀ x ∈ ofSort ls s, flatK x = true := fold_flat s ls [] (by simp) hl
theorem fold_len (s : D) : ∀ (ls acc : List D), (ls.foldl (stepSort s) acc).length ≤ acc.length + ls.length
  | [], acc => by simp
  | l :: ls, acc => by
    have := fold_len s ls (stepSort s acc l)
    have := step_len s l acc
    simp only [List.foldl_cons, List.length_cons]
    omega
theorem ofSort_len (ls : List D) (s : D) : (ofSort ls s).length ≤ ls.length := by
  have := fold_len s ls []
  simpa [ofSort] using this
theorem addIn_eq {acc : List D} {t : D} (ha : acc.length ≤ 1000) (h : ∀ x ∈ acc, flatK x = true) (ht : flatK t = true) :
    niD t (.list acc) = some (.bool (!hasD acc t)) ∧ (∃ d, mulD (.list [t]) (.int (if hasD acc t = false then 1 else 0)) = some d ∧ addD (.list acc) d = some (.list (addIn acc t))) := by
  refine ⟨niD_list (n := 0) (m := 0) (fun d hd => sd_flat (h d hd)) (sd_flat ht), ?_⟩
  unfold addIn
  have e : (acc.any fun y => PyData.eqv y t) = hasD acc t := rfl
  rw [e]
  cases hasD acc t
  · exact ⟨_, mulD_list (by simp) (by simp) (by simp), by rw [addD_list (by simp [ha]; unfold sizeLine; omega)]; simp⟩
  · exact ⟨_, mulD_list (by simp) (by simp) (by simp), by rw [addD_list (by simp [ha])]; simp⟩
theorem of_sort_ok {c : D} {ls : List D} {s : D} (hc : c = .tuple ls ∨ c = .list ls) (hs : SortQ s) (hl : ∀ l ∈ ls, LineQ l) (hn : ls.length ≤ 900) (k : Dk) :
    Ok (F_law_of_sort [.dat c, .dat s] k) fun d k' => d = .list (ofSort ls s) ∧ k' = k := by
  unfold F_law_of_sort Z.run m_law_of_sort
  have main : Ok (forL (gN 3) (sSeq (sIf (tAnd (tE (eOp eqD (eFn fLen (nCons (eVar 1) nNil)) (eC (.int 1)))) (tAnd (tE (eOp eqD (eFn fLen (nCons (eVar 3) nNil)) (eC (.int 2)))) (tE (eOp eqD (eOp ixD (eVar 3) (eC (.int 0))) (eOp ixD (eVar 1) (eC (.int 0)))))))
    (sAsg (gN 2) (eOp addD (eVar 2) (eOp mulD (eNew (nLst (nCons (eOp ixD (eVar 3) (eC (.int 1))) nNil))) (eFn fInt (nCons (eOp niD (eOp ixD (eVar 3) (eC (.int 1))) (eVar 2)) nNil)))))
    sNil)
    (sIf (tAnd (tE (eOp eqD (eFn fLen (nCons (eVar 1) nNil)) (eC (.int 2)))) (tAnd (tE (eOp eqD (eFn fLen (nCons (eVar 3) nNil)) (eC (.int 3)))) (tE (eOp eqD (eOp ixD (eVar 3) (eC (.int 0))) (eOp ixD (eVar 1) (eC (.int 0)))))))
    (sSeq (sAsg (gN 4) (eOp ixD (eVar 3) (eOp addD (eC (.int 1)) (eOp ixD (eVar 1) (eC (.int 1))))))
    (sAsg (gN 2) (eOp addD (eVar 2) (eOp mulD (eNew (nLst (nCons (eVar 4) nNil))) (eFn fInt (nCons (eOp niD (eVar 4) (eVar 2)) nNil))))))
    sNil)) ls [.dat c, .dat s, .dat (.list []), .un, .un] k) fun o k' => ∃ u v, o = .nx [.dat c, .dat s, .dat (.list (ofSort ls s)), u, v] ∧ k' = k := by
    refine forL_ok (J := fun rest e k' => ∃ acc u v, e = [.dat c, .dat s, .dat (.list acc), u, v] ∧ k' = k ∧ acc.length + rest.length ≤ ls.length ∧ (∀ x ∈ acc, flatK x = true) ∧ (∀ l ∈ rest, LineQ l) ∧ rest.foldl (stepSort s) acc = ofSort ls s) _ (fun d ds e k' hj => ?_) (fun e k' hj => ?_) _ _ _ ⟨[], .un, .un, rfl, rfl, by simp, by simp, hl, rfl⟩
    · obtain ⟨acc, u, v, rfl, rfl, h1, h2, h3, h4⟩ := hj
      have hd := h3 d (.head _)
      have h3' : ∀ l ∈ ds, LineQ l := fun l m => h3 l (.tail _ m)
      simp only [List.length_cons] at h1
      have hf := step_flat (s := s) h2 hd
      have hl' := step_len s d acc
      refine ⟨_, rfl, ?_⟩
      refine Ok.mono (P := fun o k2 => ∃ u v, o = .nx [.dat c, .dat s, .dat (.list (stepSort s acc d)), u, v] ∧ k2 = k') ?_ fun o k2 h => by
        obtain ⟨u, v, rfl, rfl⟩ := h
        exact ⟨_, u, v, rfl, rfl, by omega, hf, h3', h4⟩
      rcases hd with ⟨n, t, rfl, ht⟩ | ⟨n, t, w, rfl, ht, hw⟩
      · rcases hs with ⟨a, rfl⟩ | ⟨a, p, rfl, hp⟩
        · obtain ⟨e1, d2, e2, e3⟩ := addIn_eq (acc := acc) (by omega) h2 ht
          cases hna : (n == a)
          · simp [eqD_int, eqD_str, hna, stepSort, PyData.eqv]
          · simp [eqD_int, eqD_str, hna, e1, e2, e3, stepSort, PyData.eqv]
        · simp [eqD_int, eqD_str, stepSort]
      · rcases hs with ⟨a, rfl⟩ | ⟨a, p, rfl, hp⟩
        · simp [eqD_int, eqD_str, stepSort]
        · cases hna : (n == a)
          · simp [eqD_int, eqD_str, hna, stepSort, PyData.eqv]
          · rcases hp with rfl | rfl
            · obtain ⟨e1, d2, e2, e3⟩ := addIn_eq (acc := acc) (by omega) h2 ht
              simp [eqD_int, eqD_str, hna, e1, e2, e3, stepSort, PyData.eqv]
            · obtain ⟨e1, d2, e2, e3⟩ := addIn_eq (acc := acc) (by omega) h2 hw
              simp [eqD_int, eqD_str, hna, e1, e2, e3, stepSort, PyData.eqv]
    · obtain ⟨acc, u, v, rfl, rfl, h1, h2, h3, h4⟩ := hj
      simp only [List.foldl_nil] at h4
      exact ⟨u, v, by rw [h4], rfl⟩
  rcases hc with rfl | rfl
  all_goals
    simp [Ar.sv]
    refine Ok.mono main fun o k' h => ?_
    obtain ⟨u, v, rfl, rfl⟩ := h
    simp
theorem pairOf_flat {s l p : D} (hl : LineQ l) (h : pairOf s l = some p) : ∃ x y, p = .tuple [x, y] ∧ flatK x = true ∧ flatK y = true := by
  unfold pairOf at h
  rcases hl with ⟨n, t, rfl, ht⟩ | ⟨n, t, u, rfl, ht, hu⟩
  · split at h
    · rename_i he; cases he
    · cases h
  · split at h
    · rename_i he; cases he
      split at h
      · cases h
        split
        · exact ⟨_, _, rfl, ht, hu⟩
        · exact ⟨_, _, rfl, hu, ht⟩
      · cases h
    · cases h
theorem pairs_flat {ls : List D} (s : D) (hl : ∀ l ∈ ls, LineQ l) : ∀ p ∈ pairsOf ls s, ∃ x y, p = .tuple [x, y] ∧ flatK x = true ∧ flatK y = true := by
  intro p hp
  obtain ⟨l, hm, e⟩ := List.mem_filterMap.1 hp
  exact pairOf_flat (hl l hm) e
theorem pairs_sd {ls : List D} (s : D) (hl : ∀ l ∈ ls, LineQ l) : ∀ p ∈ pairsOf ls s, Sd 1 p := by
  intro p hp
  obtain ⟨x, y, rfl, hx, hy⟩ := pairs_flat s hl p hp
  exact sd_tup (n := 0) (forall_mem_2 (sd_flat hx) (sd_flat hy))
theorem pairs_len (ls : List D) (s : D) : (pairsOf ls s).length ≤ ls.length := List.length_filterMap_le _ _
theorem pairs_ok {c : D} {ls : List D} {s : D} (hc : c = .tuple ls ∨ c = .list ls) (hs : TurnQ s) (hl : ∀ l ∈ ls, LineQ l) (hn : ls.length ≤ 900) (k : Dk) :
    Ok (F_law_pairs [.dat c, .dat s] k) fun d k' => d = .list (pairsOf ls s) ∧ k' = k := by
  unfold F_law_pairs Z.run m_law_pairs
  have main : Ok (forL (gN 3) (sIf (tAnd (tE (eOp eqD (eFn fLen (nCons (eVar 3) nNil)) (eC (.int 3)))) (tE (eOp eqD (eOp ixD (eVar 3) (eC (.int 0))) (eOp ixD (eVar 1) (eC (.int 0))))))
    (sApp 2 (eTup (nCons (eOp ixD (eVar 3) (eOp addD (eC (.int 1)) (eOp ixD (eVar 1) (eC (.int 1))))) (nCons (eOp ixD (eVar 3) (eOp subD (eC (.int 2)) (eOp ixD (eVar 1) (eC (.int 1))))) nNil))))
    sNil) ls [.dat c, .dat s, .own [], .un] k) fun o k' => ∃ u, o = .nx [.dat c, .dat s, .own (pairsOf ls s), u] ∧ k' = k := by
    refine forL_ok (J := fun rest e k' => ∃ acc u, e = [.dat c, .dat s, .own acc, u] ∧ k' = k ∧ acc.length + rest.length ≤ ls.length ∧ (∀ l ∈ rest, LineQ l) ∧ acc ++ rest.filterMap (pairOf s) = pairsOf ls s) _ (fun d ds e k' hj => ?_) (fun e k' hj => ?_) _ _ _ ⟨[], .un, rfl, rfl, by simp, hl, rfl⟩
    · obtain ⟨acc, u, rfl, rfl, h1, h3, h4⟩ := hj
      have hd := h3 d (.head _)
      have h3' : ∀ l ∈ ds, LineQ l := fun l m => h3 l (.tail _ m)
      simp only [List.length_cons] at h1
      have hac : acc.length ≤ 1000 := by omega
      refine ⟨_, rfl, ?_⟩
      refine Ok.mono (P := fun o k2 => ∃ u, o = .nx [.dat c, .dat s, .own (acc ++ (pairOf s d).toList), u] ∧ k2 = k') ?_ fun o k2 h => by
        obtain ⟨u, rfl, rfl⟩ := h
        refine ⟨_, u, rfl, rfl, ?_, h3', ?_⟩
        · cases pairOf s d <;> simp <;> omega
        · rw [List.append_assoc, ← h4, List.filterMap_cons]
          cases pairOf s d <;> rfl
      obtain ⟨a, p, rfl, hp⟩ := hs
      rcases hd with ⟨n, t, rfl, ht⟩ | ⟨n, t, w, rfl, ht, hw⟩
      · simp [eqD_int, eqD_str, pairOf]
      · cases hna : (n == a)
        · simp [eqD_int, eqD_str, hna, pairOf, PyData.eqv]
        · rcases hp with rfl | rfl
          · simp [eqD_int, eqD_str, hna, pairOf, PyData.eqv, hac]
          · simp [eqD_int, eqD_str, hna, pairOf, PyData.eqv, hac]
    · obtain ⟨acc, u, rfl, rfl, h1, h3, h4⟩ := hj
      simp only [List.filterMap_nil, List.append_nil] at h4
      exact ⟨u, by rw [h4], rfl⟩
  rcases hc with rfl | rfl
  all_goals
    simp [Ar.sv]
    refine Ok.mono main fun o k' h => ?_
    obtain ⟨u, rfl, rfl⟩ := h
    simp
end
end Y
namespace Y
section
open PySem Z
/-! ### the members of every sort -/
def val (es : List (D × List D)) (y : D) : List D := (lookL es y).getD []
theorem turnQ_sd {d : D} (h : TurnQ d) : Sd 1 d := by
  obtain ⟨s, p, rfl, _⟩ := h
  exact sd_tup (n := 0) (forall_mem_2 (sd_str s) (sd_int p))
theorem sortQ_sd {d : D} (h : SortQ d) : Sd 1 d := by
  rcases h with ⟨s, rfl⟩ | h
  · exact sd_tup (n := 0) fun x hx => by simp at hx; subst hx; exact sd_str s
  · exact turnQ_sd h
theorem sortQ_key {d : D} (h : SortQ d) : keyOk (.bool false) d = true := by
  rcases h with ⟨s, rfl⟩ | ⟨s, p, rfl, _⟩ <;> simp [keyOk, flatK]
theorem lookL_cons (p : D × List D) (es : List (D × List D)) (y : D) : lookL (p :: es) y = if PyData.eqv p.1 y then some p.2 else lookL es y := by
  unfold lookL
  rw [List.find?_cons]
  cases PyData.eqv p.1 y <;> rfl
theorem val_setL {k y : D} {v : List D} (hk : Sd 1 k) (hy : Sd 1 y) : ∀ es : List (D × List D), (∀ p ∈ es, Sd 1 p.1) → lookL es k ≠ none → lookL (setL k v es) y = if PyData.eqv k y then some v else lookL es y
  | [], _, h => absurd rfl h
  | p :: es, hs, h => by
    have hp := hs p (.head _)
    unfold setL
    rw [lookL_cons] at h ⊢
    cases hpk : PyData.eqv p.1 k
    · rw [hpk] at h
      simp only [Bool.false_eq_true, if_false] at h ⊢
      rw [lookL_cons, val_setL hk hy es (fun q m => hs q (.tail _ m)) h]
      cases hpy : PyData.eqv p.1 y
      · rfl
      · have e1 : p.1 = y := (eqv_iff hp hy).1 hpy
        have e2 : PyData.eqv k y = false := by
          rw [eqv_no hk hy]
          intro e
          rw [← e] at e1
          rw [(eqv_iff hp hk).2 e1] at hpk
          cases hpk
        rw [e2]; rfl
    · have e1 : p.1 = k := (eqv_iff hp hk).1 hpk
      simp only [if_true]
      rw [lookL_cons, e1]
      cases PyData.eqv k y <;> rfl
theorem lookL_app (es : List (D × List D)) (p : D × List D) (y : D) : lookL (es ++ [p]) y = (lookL es y).or (if PyData.eqv p.1 y then some p.2 else none) := by
  induction es with
  | nil => rw [List.nil_append, lookL_cons]; rfl
  | cons q es ih =>
    rw [List.cons_append, lookL_cons, lookL_cons, ih]
    cases PyData.eqv q.1 y <;> rfl
theorem val_addTo {es : List (D × List D)} {k d y : D} (hk : Sd 1 k) (hy : Sd 1 y) (hs : ∀ p ∈ es, Sd 1 p.1) : val (addTo es k d) y = if PyData.eqv k y then addIn (val es y) d else val es y := by
  unfold addTo val
  cases hl : lookL es k with
  | some ds =>
    simp only
    rw [val_setL hk hy es hs (by rw [hl]; intro z; cases z)]
    cases h : PyData.eqv k y
    · rfl
    · have : k = y := (eqv_iff hk hy).1 h
      subst this
      rw [hl]; rfl
  | none =>
    simp only
    rw [lookL_app]
    cases h : PyData.eqv k y
    · cases lookL es y <;> rfl
    · have : k = y := (eqv_iff hk hy).1 h
      subst this
      rw [hl]; simp [addIn]
theorem mem_setL {k : D} {v : List D} : ∀ {es : List (D × List D)} {p}, p ∈ setL k v es → p ∈ es ∨ (p.2 = v ∧ ∃ q ∈ es, q.1 = p.1)
  | [], _, h => by cases h
  | q :: es, p, h => by
    unfold setL at h
    split at h
    · rcases List.mem_cons.1 h with rfl | h
      · exact .inr ⟨rfl, q, .head _, rfl⟩
      · exact .inl (.tail _ h)
    · rcases List.mem_cons.1 h with rfl | h
      · exact .inl (.head _)
      · rcases mem_setL h with h | ⟨h1, q', h2, h3⟩
        · exact .inl (.tail _ h)
        · exact .inr ⟨h1, q', .tail _ h2, h3⟩
theorem len_setL (k : D) (v : List D) : ∀ es : List (D × List D), (setL k v es).length = es.length
  | [] => rfl
  | q :: es => by
    unfold setL
    split
    · rfl
    · simp [len_setL k v es]
/-- what stays so of the dict while it grows -/
structure EsOk (n : Nat) (es : List (D × List D)) : Prop where
  k : ∀ p ∈ es, SortQ p.1
  f : ∀ p ∈ es, ∀ x ∈ p.2, flatK x = true
  l : ∀ p ∈ es, p.2.length ≤ n
  n : es.length ≤ n
theorem EsOk.add {n : Nat} {es : List (D × List D)} {k d : D} (h : EsOk n es) (hk : SortQ k) (hd : flatK d = true) : EsOk (n + 1) (addTo es k d) := by
  unfold addTo
  cases hl : lookL es k with
  | some ds =>
    simp only
    obtain ⟨q, hq, rfl⟩ : ∃ q ∈ es, q.2 = ds := by
      unfold lookL at hl
      obtain ⟨q, e1, e2⟩ := Option.map_eq_some_iff.1 hl
      exact ⟨q, List.mem_of_find?_eq_some e1, e2⟩
    refine ⟨fun p hp => ?_, fun p hp x hx => ?_, fun p hp => ?_, by rw [len_setL]; have := h.n; omega⟩
    · rcases mem_setL hp with hp | ⟨_, q', hq', e⟩
      · exact h.k p hp
      · rw [← e]; exact h.k q' hq'
    · rcases mem_setL hp with hp | ⟨e, _⟩
      · exact h.f p hp x hx
      · rw [e] at hx
        rcases mem_addIn hx with hx | rfl
        · exact h.f q hq x hx
        · exact hd
    · rcases mem_setL hp with hp | ⟨e, _⟩
      · have := h.l p hp; omega
      · rw [e]; have := addIn_len q.2 d; have := h.l q hq; omega
  | none =>
    simp only
    refine ⟨fun p hp => ?_, fun p hp x hx => ?_, fun p hp => ?_, by rw [List.length_append]; have := h.n; simp; omega⟩
    all_goals rcases List.mem_append.1 hp with hp | hp
    · exact h.k p hp
    · simp at hp; subst hp; exact hk
    · exact h.f p hp x hx
    · simp at hp; subst hp; simp at hx; subst hx; exact hd
    · have := h.l p hp; omega
    · simp at hp; subst hp; simp
theorem EsOk.cond {n : Nat} {es : List (D × List D)} (h : EsOk n es) (hn : n ≤ 2000) : (es.all fun p => dOks p.2 && decide (p.2.length < sizeLine)) = true ∧ es.length < sizeLine := by
  constructor
  · rw [List.all_eq_true]
    intro p hp
    rw [sd_oks (n := 0) fun x hx => sd_flat (h.f p hp x hx)]
    have := h.l p hp
    simp only [Bool.true_and, decide_eq_true_iff]
    unfold sizeLine; omega
  · have := h.n; unfold sizeLine; omega
theorem sort_at2 (n t p : D) (k : Dk) : F_sort_at [.dat (.tuple [n, t]), .dat p] k = .ok (.tuple [n]) k := by
  unfold F_sort_at Z.run m_sort_at
  simp [Ar.sv, eqD_int]
theorem sort_at3 (n t u p : D) (k : Dk) : F_sort_at [.dat (.tuple [n, t, u]), .dat p] k = .ok (.tuple [n, p]) k := by
  unfold F_sort_at Z.run m_sort_at
  simp [Ar.sv, eqD_int]
def dilD (es : List (D × List D)) : D := .dict ((.bool false, .none) :: es.map fun p => (p.1, .list p.2))
theorem cst0 : ((0 : Nat) : Int) = 0 := rfl
theorem cst1 : ((1 : Nat) : Int) = 1 := rfl
theorem members_ok {ls : List D} (hl : ∀ l ∈ ls, LineQ l) (hn : ls.length ≤ 900) (k : Dk) :
    Ok (F_members [.dat (.tuple ls)] k) fun d k' => (∃ es, d = dilD es ∧ ∀ s, SortQ s → val es s = ofSort ls s) ∧ k' = k := by
  unfold F_members Z.run m_members
  simp [Ar.sv]
  refine (forL_ok (J := fun rest e k' => ∃ n es a b c, (∃ u, e = [.dat (.tuple ls), .dil es, a, b, c, u]) ∧ k' = k ∧ n + 2 * rest.length ≤ 2 * ls.length ∧ EsOk n es ∧ (∀ l ∈ rest, LineQ l) ∧ ∀ s, SortQ s → rest.foldl (stepSort s) (val es s) = ofSort ls s)
    (R := fun o k' => ∃ es a b c u, o = .nx [.dat (.tuple ls), .dil es, a, b, c, u] ∧ k' = k ∧ ∀ s, SortQ s → val es s = ofSort ls s) (fun d ds e k' hj => ?_) (fun e k' hj => ?_) _ _ _ ⟨0, [], .un, .un, .un, ⟨.un, rfl⟩, rfl, by simp, ⟨by simp, by simp, by simp, by simp⟩, hl, fun s _ => rfl⟩).mono fun o k' h => ?_
  · obtain ⟨n, es, a, b, c, ⟨u, rfl⟩, rfl, h1, h2, h3, h4⟩ := hj
    have hd := h3 d (.head _)
    have h3' : ∀ l ∈ ds, LineQ l := fun l m => h3 l (.tail _ m)
    simp only [List.length_cons] at h1
    refine ⟨_, rfl, ?_⟩
    rcases hd with ⟨s, t, rfl, ht⟩ | ⟨s, t, w, rfl, ht, hw⟩
    · have hk : SortQ (.tuple [.str s]) := .inl ⟨s, rfl⟩
      have c1 := h2.cond (by omega)
      have a1 := h2.add hk ht
      refine Ok.mono (P := fun o k2 => ∃ a b c u, o = .nx [.dat (.tuple ls), .dil (addTo es (.tuple [.str s]) t), a, b, c, u] ∧ k2 = k') ?_ fun o k2 h => by
        obtain ⟨a, b, c, u, rfl, rfl⟩ := h
        refine ⟨_, _, a, b, c, ⟨u, rfl⟩, rfl, ?_, a1, h3', fun y hy => ?_⟩
        · omega
        · rw [← h4 y hy, List.foldl_cons, val_addTo (sortQ_sd hk) (sortQ_sd hy) fun p hp => sortQ_sd (h2.k p hp)]
          congr 1
          rcases hy with ⟨z, rfl⟩ | ⟨z, p, rfl, _⟩
          · simp [stepSort, PyData.eqv, PyData.eqvAll]
          · simp [stepSort, PyData.eqv, PyData.eqvAll]
      simp only [cut_1, enumFrom, forL, sort_at2, Res.of_some, Res.bind_ok, Ok_bind, r_sFor, r_iEnum, r_eSl, r_eVar, r_oSome, r_oNone, r_eC, gN_run, gT_run, gAll_cons, gAll_nil, Option.bind_some, List.length_cons, List.length_nil, Nat.zero_add, Nat.reduceAdd, Nat.reduceLT, if_pos, List.set_cons_zero, List.set_cons_succ, List.getElem?_cons_succ, List.getElem?_cons_zero, cutD_tup, r_sSeq, r_sAddTo, r_eCall, r_aCons, r_aNil, Res.calm_ok]
      rw [if_pos (by rw [sortQ_key hk, (sd_flat (n := 0) ht).ok, c1.1]; simp [c1.2])]
      simp
    · have hk : SortQ (.tuple [.str s, .int 0]) := .inr ⟨s, 0, rfl, .inl rfl⟩
      have hk2 : SortQ (.tuple [.str s, .int 1]) := .inr ⟨s, 1, rfl, .inr rfl⟩
      have c1 := h2.cond (by omega)
      have a1 := h2.add hk ht
      have c2 := a1.cond (by omega)
      have a2 := a1.add hk2 hw
      refine Ok.mono (P := fun o k2 => ∃ a b c u, o = .nx [.dat (.tuple ls), .dil (addTo (addTo es (.tuple [.str s, .int 0]) t) (.tuple [.str s, .int 1]) w), a, b, c, u] ∧ k2 = k') ?_ fun o k2 h => by
        obtain ⟨a, b, c, u, rfl, rfl⟩ := h
        refine ⟨_, _, a, b, c, ⟨u, rfl⟩, rfl, ?_, a2, h3', fun y hy => ?_⟩
        · omega
        · rw [← h4 y hy, List.foldl_cons, val_addTo (sortQ_sd hk2) (sortQ_sd hy) fun p hp => sortQ_sd (a1.k p hp), val_addTo (sortQ_sd hk) (sortQ_sd hy) fun p hp => sortQ_sd (h2.k p hp)]
          congr 1
          rcases hy with ⟨z, rfl⟩ | ⟨z, p, rfl, hp⟩
          · simp [stepSort, PyData.eqv, PyData.eqvAll]
          · rcases hp with rfl | rfl <;> simp [stepSort, PyData.eqv, PyData.eqvAll]
      simp only [cst0, cst1, cut_1, enumFrom, forL, sort_at3, Res.of_some, Res.bind_ok, Ok_bind, r_sFor, r_iEnum, r_eSl, r_eVar, r_oSome, r_oNone, r_eC, gN_run, gT_run, gAll_cons, gAll_nil, Option.bind_some, List.length_cons, List.length_nil, Nat.zero_add, Nat.reduceAdd, Nat.reduceLT, if_pos, List.set_cons_zero, List.set_cons_succ, List.getElem?_cons_succ, List.getElem?_cons_zero, cutD_tup, r_sSeq, r_sAddTo, r_eCall, r_aCons, r_aNil, Res.calm_ok]
      rw [if_pos (by rw [sortQ_key hk, (sd_flat (n := 0) ht).ok, c1.1]; simp [c1.2])]
      simp only [cst0, cst1, Ok_ok, Ok_bind, Res.bind_ok, Out.seq_nx, r_sNil, Res.of_some, gN_run, gT_run, gAll_cons, gAll_nil, Option.bind_some, List.length_cons, List.length_nil, Nat.zero_add, Nat.reduceAdd, Nat.reduceLT, if_pos, List.set_cons_zero, List.set_cons_succ, List.getElem?_cons_succ, List.getElem?_cons_zero, r_eVar, r_aCons, r_aNil, r_eCall, sort_at3, Res.calm_ok, r_sSeq, r_sAddTo]
      rw [if_pos (by rw [sortQ_key hk2, (sd_flat (n := 0) hw).ok, c2.1]; simp [c2.2])]
      simp
  · obtain ⟨n, es, a, b, c, ⟨u, rfl⟩, rfl, h1, h2, h3, h4⟩ := hj
    exact ⟨es, a, b, c, u, rfl, rfl, h4⟩
  · obtain ⟨es, a, b, c, u, rfl, rfl, h4⟩ := h
    simp
    exact ⟨es, rfl, h4⟩
end
end Y
namespace Y
section
open PySem Z
/-! ### what the defs of the text answer -/
theorem eqD_bool (a b : Bool) : eqD (.bool a) (.bool b) = some (.bool (a == b)) := by cases a <;> cases b <;> rfl
theorem neD_bool (a b : Bool) : neD (.bool a) (.bool b) = some (.bool (!(a == b))) := by cases a <;> cases b <;> rfl
theorem dOks_bools : ∀ bs : List Bool, dOks (bs.map PyData.bool) = true := by
  intro bs
  have h : PyData.plainAll (bs.map PyData.bool) = true ∧ PyData.depthAll (bs.map PyData.bool) = 0 := by
    induction bs with
    | nil => exact ⟨rfl, rfl⟩
    | cons b bs ih =>
      constructor
      · rw [List.map_cons, PyData.plainAll, ih.1]; rfl
      · rw [List.map_cons, PyData.depthAll, ih.2]; rfl
  unfold dOks
  rw [h.1, h.2]; rfl
theorem niD_bools (b : Bool) (bs : List Bool) : niD (.bool b) (.list (bs.map PyData.bool)) = some (.bool (!(bs.any fun x => x == b))) := by
  unfold niD memD
  simp only [dOks_bools]
  have : dOk (.bool b) = true := by cases b <;> rfl
  rw [this]
  simp [List.any_map, PyData.eqv, Function.comp_def]
theorem w_wa : (("within" : Str) == "apart") = false := by decide +kernel
theorem w_wl : (("within" : Str) == "along") = false := by decide +kernel
theorem w_ww : (("within" : Str) == "away") = false := by decide +kernel
theorem w_aw : (("apart" : Str) == "within") = false := by decide +kernel
theorem w_al : (("apart" : Str) == "along") = false := by decide +kernel
theorem w_ay : (("apart" : Str) == "away") = false := by decide +kernel
theorem w_lw : (("along" : Str) == "within") = false := by decide +kernel
theorem w_la : (("along" : Str) == "apart") = false := by decide +kernel
theorem w_ly : (("along" : Str) == "away") = false := by decide +kernel
theorem w_yw : (("away" : Str) == "within") = false := by decide +kernel
theorem w_ya : (("away" : Str) == "apart") = false := by decide +kernel
theorem w_yl : (("away" : Str) == "along") = false := by decide +kernel
/-- the rule's word tells of sorts; of what must not be -/
def isS (w : Str) : Bool := w == "within" || w == "apart"
def isN' (w : Str) : Bool := w == "apart" || w == "away"
def RuleQ (d : D) : Prop := ∃ (w : Str) (one other : D), d = .tuple [.str w, one, other] ∧ (((w = "within" ∨ w = "apart") ∧ SortQ one ∧ SortQ other) ∨ ((w = "along" ∨ w = "away") ∧ TurnQ one ∧ TurnQ other))
theorem in_2 (a b w : Str) : inD (.str w) (.tuple [.str a, .str b]) = some (.bool (a == w || b == w)) := by
  rw [inD_tup (n := 0) (m := 0) (forall_mem_2 (sd_str _) (sd_str _)) (sd_str _)]
  simp [hasD, PyData.eqv]
def partsOf (ls : List D) (w : Str) (s : D) : List D := if isS w then ofSort ls s else pairsOf ls s
/-- the first part that breaks the rule -/
def brk (ls : List D) (rule : D) : Option D := match rule with
  | .tuple [.str w, one, other] => (partsOf ls w one).find? fun x => hasD (partsOf ls w other) x == isN' w
  | _ => none
theorem sort_sdAll {ls : List D} (s : D) (hl : ∀ l ∈ ls, LineQ l) : ∀ x ∈ ofSort ls s, Sd 0 x := fun x hx => sd_flat (ofSort_flat s hl x hx)
theorem among_ok (ones others : List D) (n : Nat) (h1 : ∀ x ∈ ones, Sd 1 x) (h2 : ∀ x ∈ others, Sd 1 x) (hn : ones.length ≤ 1000) (a b c d e f g : SV) (k : Dk) :
    nLc [8] (iSeq (eVar 6)) (gN 8) tYes (eOp inD (eVar 8) (eVar 7)) [a, b, c, d, e, f, .dat (.list ones), .dat (.list others), g] k = .ok ((ones.map fun x => hasD others x).map PyData.bool) k := by
  have := lcL_pure (vs := [8]) (g := gN 8) (t := tYes) (a := eOp inD (eVar 8) (eVar 7)) (e := [a, b, c, d, e, f, .dat (.list ones), .dat (.list others), g]) (fun _ => true) (fun x => .bool (hasD others x)) k ones [] (fun x hx => ⟨_, rfl, rfl, fun _ => by
    simp [wipeE, inD_list h2 (h1 x hx)]⟩) (by have := hn; unfold sizeLine; simp; omega)
  simp only [r_nLc, r_iSeq, r_eVar, List.getElem?_cons_succ, List.getElem?_cons_zero, Res.bind_ok]
  rw [this]
  simp [List.filter_eq_self.2, List.map_map, Function.comp_def]
theorem find_some {α : Type} (p : α → Bool) : ∀ l : List α, (l.find? p).isSome = l.any p
  | [] => rfl
  | x :: xs => by
    rw [List.find?_cons, List.any_cons, ← find_some p xs]
    cases p x <;> rfl
theorem is_so_ok {ls : List D} {rule : D} (hr : RuleQ rule) (hl : ∀ l ∈ ls, LineQ l) (hn : ls.length ≤ 900) (k : Dk) :
    F_law_is_so [.dat (.tuple ls), .dat rule] k = .ok (.bool (brk ls rule).isNone) k := by
  obtain ⟨w, one, other, rfl, ⟨hw, h1, h2⟩ | ⟨hw, h1, h2⟩⟩ := hr
  · obtain ⟨d1, k1, e1, rfl, rfl⟩ := (of_sort_ok (.inl rfl) h1 hl hn k).get
    obtain ⟨d2, k2, e2, rfl, rfl⟩ := (of_sort_ok (.inl rfl) h2 hl hn k1).get
    have am := fun a b c d e f g => among_ok (ofSort ls one) (ofSort ls other) 0 (fun x hx => (sort_sdAll one hl x hx).mono (by decide)) (fun x hx => (sort_sdAll other hl x hx).mono (by decide)) (by have := ofSort_len ls one; omega) a b c d e f g k2
    unfold F_law_is_so Z.run m_law_is_so
    rcases hw with rfl | rfl
    all_goals
      simp [-r_nLc, Ar.sv, in_2, w_wa, w_wl, w_ww, w_aw, w_al, w_ay, e1, e2, am, niD_bools, -List.map_map, w_yw, w_ya]
      simp [brk, partsOf, isS, isN', w_wa, w_wl, w_ww, w_aw, w_al, w_ay, find_some, Function.comp_def]
  · obtain ⟨d1, k1, e1, rfl, rfl⟩ := (pairs_ok (.inl rfl) h1 hl hn k).get
    obtain ⟨d2, k2, e2, rfl, rfl⟩ := (pairs_ok (.inl rfl) h2 hl hn k1).get
    have am := fun a b c d e f g => among_ok (pairsOf ls one) (pairsOf ls other) 0 (pairs_sd one hl) (pairs_sd other hl) (by have := pairs_len ls one; omega) a b c d e f g k2
    unfold F_law_is_so Z.run m_law_is_so
    rcases hw with rfl | rfl
    all_goals
      simp [-r_nLc, Ar.sv, in_2, w_lw, w_la, w_ly, w_yw, w_ya, w_yl, e1, e2, am, niD_bools, -List.map_map, w_wa, w_wl, w_ww, w_aw, w_al, w_ay]
      simp [brk, partsOf, isS, isN', w_lw, w_la, w_ly, w_yw, w_ya, w_yl, find_some, Function.comp_def]
end
end Y
namespace Y
section
open PySem Z
/-! ### pairs_of, sort_breach, pair_breach, breach, keeps -/
theorem lc_pure {vs : List Nat} {it : IM} {g : Tg} {t : TM} {a : EM} {e : Z.Env} {k : Dk} (p : D → Bool) (f : D → D) (ds : List D) (hi : it e k = .ok ds k)
    (h : ∀ d ∈ ds, ∃ e1, g d (wipeE e vs) = some e1 ∧ t e1 k = .ok (p d) k ∧ (p d = true → a e1 k = .ok (f d) k)) (hl : ds.length ≤ 10000) :
    nLc vs it g t a e k = .ok ((ds.filter p).map f) k := by
  have := lcL_pure (vs := vs) (g := g) (t := t) (a := a) (e := e) p f k ds [] h (by unfold sizeLine; simp; omega)
  simp only [r_nLc, hi, Res.bind_ok]
  rw [this]
  rfl
theorem pairs_of_ok {ls : List D} {s : D} (hs : TurnQ s) (hl : ∀ l ∈ ls, LineQ l) (hn : ls.length ≤ 900) (k : Dk) :
    F_pairs_of [.dat (.tuple ls), .dat s] k = .ok (.list (pairsOf ls s)) k := by
  obtain ⟨a, p, rfl, hp⟩ := hs
  let pr : D → Bool := fun l => match l with
    | .tuple [n, t, u] => PyData.eqv n (.str a)
    | _ => false
  let fr : D → D := fun l => match l with
    | .tuple [n, t, u] => .tuple [t, u]
    | d => d
  have c1 : ∀ b c d e f, nLc [5] (iSeq (eVar 0)) (gN 5) (tAnd (tE (eOp eqD (eFn fLen (nCons (eVar 5) nNil)) (eC (.int 3)))) (tE (eOp eqD (eOp ixD (eVar 5) (eC (.int 0))) (eVar 3)))) (eSl cutD (eVar 5) (oSome (eC (.int 1))) oNone)
      [.dat (.tuple ls), b, c, .dat (.str a), d, .un, e, f] k = .ok ((ls.filter pr).map fr) k := fun b c d e f => by
    refine lc_pure pr fr ls (by simp) (fun l hm => ?_) (by omega)
    rcases hl l hm with ⟨n, t, rfl, ht⟩ | ⟨n, t, u, rfl, ht, hu⟩
    · exact ⟨_, rfl, by simp [wipeE, eqD_int, pr], fun h => by simp [pr] at h⟩
    · exact ⟨_, rfl, by simp [wipeE, eqD_int, eqD_str, pr, PyData.eqv], fun h => by simp [wipeE, cut_1, fr]⟩
  have e0 : (ls.filter pr).map fr = pairsOf ls (.tuple [.str a, .int 0]) := by
    clear c1 hn
    induction ls with
    | nil => rfl
    | cons l ls ih =>
      have ih' := ih fun x m => hl x (.tail _ m)
      unfold pairsOf at ih' ⊢
      rw [List.filter_cons, List.filterMap_cons]
      rcases hl l (.head _) with ⟨n, t, rfl, ht⟩ | ⟨n, t, u, rfl, ht, hu⟩
      · simp only [pr, Bool.false_eq_true, if_false, pairOf]
        exact ih'
      · simp only [pr, pairOf]
        cases PyData.eqv (.str n) (.str a)
        · simpa using ih'
        · simpa [fr] using ih'
  have c2 : ∀ b c d e, nLc [6, 7] (iSeq (eVar 2)) (gT [(gN 6), (gN 7)]) tYes (eTup (nCons (eVar 7) (nCons (eVar 6) nNil)))
      [.dat (.tuple ls), b, .dat (.list (pairsOf ls (.tuple [.str a, .int 0]))), c, d, e, .un, .un] k = .ok (pairsOf ls (.tuple [.str a, .int 1])) k := fun b c d e => by
    let f2 : D → D := fun d => match d with
      | .tuple [x, y] => .tuple [y, x]
      | d => d
    rw [lc_pure (fun _ => true) f2 _ (by simp; rfl) (fun q hm => ?_) (by have := pairs_len ls (.tuple [.str a, .int 0]); omega)]
    · congr 1
      rw [List.filter_eq_self.2 (by simp)]
      clear c1 e0 hn
      induction ls with
      | nil => rfl
      | cons l ls ih =>
        have ih' := ih fun x m => hl x (.tail _ m)
        unfold pairsOf at ih' ⊢
        rw [List.filterMap_cons, List.filterMap_cons]
        rcases hl l (.head _) with ⟨n, t, rfl, ht⟩ | ⟨n, t, u, rfl, ht, hu⟩
        · simp only [pairOf]
          exact ih'
        · simp only [pairOf]
          cases PyData.eqv (.str n) (.str a)
          · simpa using ih'
          · simpa [f2] using ih'
    · obtain ⟨x, y, rfl, hx, hy⟩ := pairs_flat _ hl q hm
      exact ⟨_, rfl, rfl, fun _ => by simp [wipeE, f2]⟩
  unfold F_pairs_of Z.run m_pairs_of
  rw [e0] at c1
  rcases hp with rfl | rfl
  · simp [-r_nLc, Ar.sv, c1, eqD_int]
  · simp [-r_nLc, Ar.sv, c1, c2, eqD_int]
theorem look_dil (es : List (D × List D)) (y : D) : (look (es.map fun p => (p.1, PyData.list p.2)) y).getD (.list []) = .list (val es y) := by
  unfold look val lookL
  rw [List.find?_map]
  show (Option.map _ (Option.map _ (es.find? fun p => PyData.eqv p.1 y))).getD _ = _
  cases es.find? fun p => PyData.eqv p.1 y <;> rfl
def SWord (w : Str) : Prop := w = "within" ∨ w = "apart"
def PWord (w : Str) : Prop := w = "along" ∨ w = "away"
theorem sort_breach_ok {ls : List D} {es : List (D × List D)} (he : ∀ s, SortQ s → val es s = ofSort ls s) {w : Str} {one other : D} (h1 : SortQ one) (h2 : SortQ other) (hw : SWord w) (hl : ∀ l ∈ ls, LineQ l) (k : Dk) :
    Ok (F_sort_breach [.dat (.tuple [.str w, one, other]), .dat (dilD es)] k) fun d k' => d = (match brk ls (.tuple [.str w, one, other]) with | some x => .tuple [x] | none => .none) ∧ k' = k := by
  unfold F_sort_breach Z.run m_sort_breach dilD
  have e1 := look_dil es one
  have e2 := look_dil es other
  rw [he one h1] at e1
  rw [he other h2] at e2
  have hb : brk ls (.tuple [.str w, one, other]) = (ofSort ls one).find? fun x => hasD (ofSort ls other) x == (w == "apart") := by
    rcases hw with rfl | rfl <;> simp [brk, partsOf, isS, isN', w_wa, w_ww]
  rw [hb]
  simp [Ar.sv, sortQ_key h1, sortQ_key h2, e1, e2]
  refine (forL_ok (J := fun rest e k' => ∃ u, e = [.dat (.tuple [.str w, one, other]), .dat (.dict ((.bool false, .none) :: es.map fun p => (p.1, .list p.2))), .dat (.list (ofSort ls other)), u, .dat (.str w), .dat one, .dat other] ∧ k' = k ∧ (∀ x ∈ rest, Sd 0 x) ∧ (rest.find? fun x => hasD (ofSort ls other) x == (w == "apart")) = ((ofSort ls one).find? fun x => hasD (ofSort ls other) x == (w == "apart")))
    (R := fun o k' => k' = k ∧ ((∃ x, o = .rt (.tuple [x]) ∧ ((ofSort ls one).find? fun x => hasD (ofSort ls other) x == (w == "apart")) = some x) ∨ ∃ e, o = .nx e ∧ ((ofSort ls one).find? fun x => hasD (ofSort ls other) x == (w == "apart")) = none))
    (fun d ds e k' hj => ?_) (fun e k' hj => ?_) _ _ _ ⟨.un, rfl, rfl, sort_sdAll one hl, rfl⟩).mono fun o k' h => ?_
  · obtain ⟨u, rfl, rfl, h3, h4⟩ := hj
    refine ⟨_, rfl, ?_⟩
    rw [List.find?_cons] at h4
    have hi := inD_list (sort_sdAll other hl) (h3 d (.head _))
    have h3' : ∀ x ∈ ds, Sd 0 x := fun x m => h3 x (.tail _ m)
    cases hc : hasD (ofSort ls other) d == (w == "apart")
    · rw [hc] at h4
      simp [hi, eqD_str, eqD_bool, hc]
      exact ⟨h3', h4⟩
    · rw [hc] at h4
      simp [hi, eqD_str, eqD_bool, hc]
      exact h4.symm
  · obtain ⟨u, rfl, rfl, h3, h4⟩ := hj
    exact ⟨rfl, .inr ⟨_, rfl, h4.symm⟩⟩
  · obtain ⟨rfl, ⟨x, rfl, h⟩ | ⟨e, rfl, h⟩⟩ := h
    · simp [h]
    · simp [h]
theorem pair_breach_ok {ls : List D} {w : Str} {one other : D} (h1 : TurnQ one) (h2 : TurnQ other) (hw : PWord w) (hl : ∀ l ∈ ls, LineQ l) (hn : ls.length ≤ 900) (k : Dk) :
    Ok (F_pair_breach [.dat (.tuple [.str w, one, other]), .dat (.tuple ls)] k) fun d k' => d = (brk ls (.tuple [.str w, one, other])).getD .none ∧ k' = k := by
  unfold F_pair_breach Z.run m_pair_breach
  have hb : brk ls (.tuple [.str w, one, other]) = (pairsOf ls one).find? fun x => hasD (pairsOf ls other) x == (w == "away") := by
    rcases hw with rfl | rfl <;> simp [brk, partsOf, isS, isN', w_lw, w_la, w_ly, w_yw, w_ya, w_yl]
  rw [hb]
  simp [Ar.sv, pairs_of_ok h1 hl hn, pairs_of_ok h2 hl hn]
  refine (forL_ok (J := fun rest e k' => ∃ u, e = [.dat (.tuple [.str w, one, other]), .dat (.tuple ls), .dat (.list (pairsOf ls other)), u, .dat (.str w), .dat one, .dat other] ∧ k' = k ∧ (∀ x ∈ rest, Sd 1 x) ∧ (rest.find? fun x => hasD (pairsOf ls other) x == (w == "away")) = ((pairsOf ls one).find? fun x => hasD (pairsOf ls other) x == (w == "away")))
    (R := fun o k' => k' = k ∧ ((∃ x, o = .rt x ∧ ((pairsOf ls one).find? fun x => hasD (pairsOf ls other) x == (w == "away")) = some x) ∨ ∃ e, o = .nx e ∧ ((pairsOf ls one).find? fun x => hasD (pairsOf ls other) x == (w == "away")) = none))
    (fun d ds e k' hj => ?_) (fun e k' hj => ?_) _ _ _ ⟨.un, rfl, rfl, pairs_sd one hl, rfl⟩).mono fun o k' h => ?_
  · obtain ⟨u, rfl, rfl, h3, h4⟩ := hj
    refine ⟨_, rfl, ?_⟩
    rw [List.find?_cons] at h4
    have hi := inD_list (pairs_sd other hl) (h3 d (.head _))
    have h3' : ∀ x ∈ ds, Sd 1 x := fun x m => h3 x (.tail _ m)
    cases hc : hasD (pairsOf ls other) d == (w == "away")
    · rw [hc] at h4
      simp [hi, eqD_str, eqD_bool, hc]
      exact ⟨h3', h4⟩
    · rw [hc] at h4
      simp [hi, eqD_str, eqD_bool, hc]
      exact h4.symm
  · obtain ⟨u, rfl, rfl, h3, h4⟩ := hj
    exact ⟨rfl, .inr ⟨_, rfl, h4.symm⟩⟩
  · obtain ⟨rfl, ⟨x, rfl, h⟩ | ⟨e, rfl, h⟩⟩ := h
    · simp [h]
    · simp [h]
end
end Y
namespace Y
section
open PySem Z
/-! ### breach, keeps and the law's own question -/
/-- what breach hands back for a rule -/
def told (ls : List D) (rule : D) : Option D := match rule with
  | .tuple [.str w, _, _] => (brk ls rule).map fun x => if isS w then .tuple [x] else x
  | _ => none
def firstB (ls : List D) : Nat → List D → Option D
  | _, [] => none
  | n, r :: rs => match told ls r with
    | some t => some (.tuple [.int n, t])
    | none => firstB ls (n + 1) rs
theorem pair_tup {ls : List D} {s x : D} (hl : ∀ l ∈ ls, LineQ l) (h : x ∈ pairsOf ls s) : isN x = false ∧ isND x = .bool false ∧ notND x = .bool true := by
  obtain ⟨a, b, rfl, _, _⟩ := pairs_flat s hl x h
  exact ⟨rfl, rfl, rfl⟩
theorem brk_mem {ls : List D} {w : Str} {one other x : D} (h : brk ls (.tuple [.str w, one, other]) = some x) : x ∈ partsOf ls w one := List.mem_of_find?_eq_some h
theorem brk_test {ls : List D} {w : Str} {one other x : D} (h : brk ls (.tuple [.str w, one, other]) = some x) : (hasD (partsOf ls w other) x == isN' w) = true := List.find?_some (p := fun x => hasD (partsOf ls w other) x == isN' w) h
theorem breach_ok {R ls : List D} (hR : ∀ r ∈ R, RuleQ r) (hl : ∀ l ∈ ls, LineQ l) (hn : ls.length ≤ 900) (k : Dk) :
    F_breach [.dat (.tuple R), .dat (.tuple ls)] k = .ok ((firstB ls 0 R).getD .none) k := by
  have h : Ok (F_breach [.dat (.tuple R), .dat (.tuple ls)] k) fun d k' => d = (firstB ls 0 R).getD .none ∧ k' = k := by
    unfold F_breach Z.run m_breach
    simp [Ar.sv]
    refine (members_ok hl hn k).mono fun d k1 h => ?_
    obtain ⟨⟨es, rfl, hes⟩, rfl⟩ := h
    refine (forL_ok (J := fun rest e k' => ∃ n rs a b c, rest = enumFrom n rs ∧ e = [.dat (.tuple R), .dat (.tuple ls), .dat (dilD es), a, b, c] ∧ k' = k1 ∧ (∀ r ∈ rs, RuleQ r) ∧ firstB ls n rs = firstB ls 0 R)
      (R := fun o k' => k' = k1 ∧ ((∃ x, o = .rt x ∧ firstB ls 0 R = some x) ∨ ∃ e, o = .nx e ∧ firstB ls 0 R = none))
      (fun d ds e k' hj => ?_) (fun e k' hj => ?_) _ _ _ ⟨0, R, .un, .un, .un, rfl, rfl, rfl, hR, rfl⟩).mono fun o k' h => ?_
    · obtain ⟨n, rs, a, b, c, hd, rfl, rfl, h3, h4⟩ := hj
      match rs, hd with
      | r :: rs, hd =>
        rw [enumFrom] at hd
        injection hd with hd1 hd2
        subst hd1
        refine ⟨_, rfl, ?_⟩
        have h3' : ∀ x ∈ rs, RuleQ x := fun x m => h3 x (.tail _ m)
        obtain ⟨w, one, other, rfl, ⟨hw, q1, q2⟩ | ⟨hw, q1, q2⟩⟩ := h3 r (.head _)
        · obtain ⟨dd, k2, eb, rfl, rfl⟩ := (sort_breach_ok hes q1 q2 hw hl k').get
          have hin : inD (.str w) (.tuple [.str "within", .str "apart"]) = some (.bool true) := by
            rcases hw with rfl | rfl <;> simp [in_2]
          have hS : isS w = true := by rcases hw with rfl | rfl <;> simp [isS]
          rw [firstB, told] at h4
          simp [hin, eb]
          cases hb : brk ls (.tuple [.str w, one, other]) with
          | none =>
            rw [hb] at h4
            simp [notND, isN]
            exact ⟨n + 1, rs, hd2, h3', h4⟩
          | some x =>
            rw [hb] at h4
            simp [notND, isN]
            rw [← h4]
            simp [hS]
        · obtain ⟨dd, k2, eb, rfl, rfl⟩ := (pair_breach_ok q1 q2 hw hl hn k').get
          have hin : inD (.str w) (.tuple [.str "within", .str "apart"]) = some (.bool false) := by
            rcases hw with rfl | rfl <;> simp [in_2, w_wl, w_al, w_ww, w_ay]
          have hS : isS w = false := by rcases hw with rfl | rfl <;> simp [isS, w_lw, w_la, w_yw, w_ya]
          rw [firstB, told] at h4
          simp [hin, eb]
          cases hb : brk ls (.tuple [.str w, one, other]) with
          | none =>
            rw [hb] at h4
            simp [notND, isN]
            exact ⟨n + 1, rs, hd2, h3', h4⟩
          | some x =>
            have hm := brk_mem hb
            unfold partsOf at hm
            rw [hS] at hm
            have hp := pair_tup hl hm
            rw [hb] at h4
            simp [hp.2.2]
            rw [← h4]
            simp [hS]
    · obtain ⟨n, rs, a, b, c, hd, rfl, rfl, h3, h4⟩ := hj
      match rs, hd with
      | [], hd => exact ⟨rfl, .inr ⟨_, rfl, h4.symm⟩⟩
    · obtain ⟨rfl, ⟨x, rfl, h⟩ | ⟨e, rfl, h⟩⟩ := h
      · simp [h]
      · simp [h]
  obtain ⟨_, _, e, rfl, rfl⟩ := h.get
  exact e
theorem keeps_ok {R ls : List D} (hR : ∀ r ∈ R, RuleQ r) (hl : ∀ l ∈ ls, LineQ l) (hn : ls.length ≤ 900) (k : Dk) :
    F_keeps [.dat (.tuple R), .dat (.tuple ls)] k = .ok (isND ((firstB ls 0 R).getD .none)) k := by
  unfold F_keeps Z.run m_keeps
  simp [Ar.sv, breach_ok hR hl hn]
theorem no_bools (xs : List D) (h : ∀ x ∈ xs, flatK x = true) (hn : xs.length ≤ 10) (a b c d e f g' : SV) (k : Dk) :
    nLc [7] (iSeq (eVar 2)) (gN 7) (tE (eUn (isiD PyData.isBool) (eVar 7))) (eVar 7) [a, b, .dat (.tuple xs), c, d, e, f, g'] k = .ok [] k := by
  rw [lc_pure (g := gN 7) (t := tE (eUn (isiD PyData.isBool) (eVar 7))) (fun _ => false) id xs (by simp) (fun x hx => ⟨_, rfl, ?_, fun h => by cases h⟩) (by omega)]
  · simp
  · have hx' := h x hx
    cases x <;> first | (simp [flatK] at hx'; done) | rfl
theorem breaks_ok {ls : List D} {rule t : D} (hr : RuleQ rule) (hl : ∀ l ∈ ls, LineQ l) (hn : ls.length ≤ 900) (ht : told ls rule = some t) (k : Dk) :
    F_law_breaks [.dat (.tuple ls), .dat rule, .dat t] k = .ok (.bool true) k := by
  obtain ⟨w, one, other, rfl, ⟨hw, h1, h2⟩ | ⟨hw, h1, h2⟩⟩ := hr
  · obtain ⟨d1, k1, e1, rfl, rfl⟩ := (of_sort_ok (.inl rfl) h1 hl hn k).get
    obtain ⟨d2, k2, e2, rfl, rfl⟩ := (of_sort_ok (.inl rfl) h2 hl hn k1).get
    have hS : isS w = true := by rcases hw with rfl | rfl <;> simp [isS]
    unfold told at ht
    obtain ⟨x, hx, rfl⟩ := Option.map_eq_some_iff.1 ht
    have hm := brk_mem hx
    have hx2 : (hasD (partsOf ls w other) x == isN' w) = true := brk_test hx
    unfold partsOf at hm hx2
    rw [if_pos hS] at hm hx2
    have fx := ofSort_flat one hl x hm
    have i1 := inD_list (sort_sdAll one hl) (sd_flat (n := 0) fx)
    rw [(has_iff (sort_sdAll one hl) (sd_flat (n := 0) fx)).2 hm] at i1
    have i2 := inD_list (sort_sdAll other hl) (sd_flat (n := 0) fx)
    have nb := no_bools [x] (by simpa using fx) (by simp)
    have hpl : PyData.plain (.tuple [x]) = true := simB_plain _ (sd_tup (n := 0) (by simpa using sd_flat (n := 0) fx)).1
    have q0 := neD_sd (n := 1) (m := 1) (x := .list []) (y := .list []) (sd_list (n := 0) (by simp)) (sd_list (n := 0) (by simp))
    unfold F_law_breaks Z.run m_law_breaks
    rcases hw with rfl | rfl
    all_goals
      simp [isN', w_wa, w_ww, w_ay] at hx2
      simp [-r_nLc, Ar.sv, isS, in_2, w_wa, w_wl, w_ww, w_aw, w_al, w_ay, w_lw, w_la, w_yw, w_ya, isiD, hpl, PyData.isTuple, neD_int, nb, q0, PyData.eqv, PyData.eqvAll, e1, e2, i1, i2, hx2, eqD_str, eqD_bool]
  · obtain ⟨d1, k1, e1, rfl, rfl⟩ := (pairs_ok (.inl rfl) h1 hl hn k).get
    obtain ⟨d2, k2, e2, rfl, rfl⟩ := (pairs_ok (.inl rfl) h2 hl hn k1).get
    have hS : isS w = false := by rcases hw with rfl | rfl <;> simp [isS, w_lw, w_la, w_yw, w_ya]
    unfold told at ht
    obtain ⟨x, hx, rfl⟩ := Option.map_eq_some_iff.1 ht
    have hm := brk_mem hx
    have hx2 : (hasD (partsOf ls w other) x == isN' w) = true := brk_test hx
    unfold partsOf at hm hx2
    rw [hS] at hm hx2
    simp only [Bool.false_eq_true, if_false] at hm hx2
    have sx := pairs_sd one hl x hm
    have i1 := inD_list (pairs_sd one hl) sx
    rw [(has_iff (pairs_sd one hl) sx).2 hm] at i1
    have i2 := inD_list (pairs_sd other hl) sx
    obtain ⟨y, z, rfl, hy, hz⟩ := pairs_flat one hl x hm
    have nb := no_bools [y, z] (by simp [hy, hz]) (by simp)
    have hpl : PyData.plain (.tuple [y, z]) = true := simB_plain _ sx.1
    have q0 := neD_sd (n := 1) (m := 1) (x := .list []) (y := .list []) (sd_list (n := 0) (by simp)) (sd_list (n := 0) (by simp))
    unfold F_law_breaks Z.run m_law_breaks
    rcases hw with rfl | rfl
    all_goals
      simp [isN', w_wa, w_ww, w_ay, w_la, w_ly] at hx2
      simp [-r_nLc, Ar.sv, isS, in_2, w_wa, w_wl, w_ww, w_aw, w_al, w_ay, w_lw, w_la, w_yw, w_ya, w_ly, w_yl, isiD, hpl, PyData.isTuple, neD_int, nb, q0, PyData.eqv, PyData.eqvAll, e1, e2, i1, i2, hx2, eqD_str, eqD_bool]
end
end Y
namespace Y
section
open PySem Z
/-! ### the law's question, answered -/
def wrongP (ls : List D) (d : D) : Bool := match d with
  | .tuple [_, r] => (brk ls r).isSome
  | _ => false
def firstOf (d : D) : D := match d with
  | .tuple [i, _] => i
  | d => d
def wrongL (ls : List D) (n : Nat) (rs : List D) : List D := ((enumFrom n rs).filter (wrongP ls)).map firstOf
theorem told_some {ls : List D} {r : D} (hr : RuleQ r) : (told ls r).isSome = (brk ls r).isSome := by
  obtain ⟨w, one, other, rfl, _⟩ := hr
  rw [told, Option.isSome_map]
theorem wrong_ints (ls : List D) : ∀ (rs : List D) (n : Nat), ∀ d ∈ wrongL ls n rs, Sd 0 d
  | [], n, d, h => by cases h
  | r :: rs, n, d, h => by
    have ih := wrong_ints ls rs (n + 1)
    unfold wrongL at h ih
    rw [enumFrom, List.filter_cons] at h
    split at h
    · rw [List.map_cons] at h
      rcases List.mem_cons.1 h with rfl | h
      · exact sd_int _
      · exact ih d h
    · exact ih d h
theorem wrong_first (ls : List D) : ∀ (rs : List D) (n : Nat), (∀ r ∈ rs, RuleQ r) →
    (firstB ls n rs = none ∧ wrongL ls n rs = []) ∨ ∃ (i : Nat) (r t : D) (rest : List D), n ≤ i ∧ rs[i - n]? = some r ∧ RuleQ r ∧ told ls r = some t ∧ firstB ls n rs = some (.tuple [.int i, t]) ∧ wrongL ls n rs = .int i :: rest
  | [], n, _ => .inl ⟨rfl, rfl⟩
  | r :: rs, n, h => by
    have hr := h r (.head _)
    have hs := told_some (ls := ls) hr
    have ih := wrong_first ls rs (n + 1) fun x m => h x (.tail _ m)
    have hw : wrongP ls (.tuple [.int n, r]) = (brk ls r).isSome := rfl
    have hwl : wrongL ls n (r :: rs) = if (brk ls r).isSome then .int n :: wrongL ls (n + 1) rs else wrongL ls (n + 1) rs := by
      unfold wrongL
      rw [enumFrom, List.filter_cons, hw]
      split <;> rfl
    cases ht : told ls r with
    | some t =>
      rw [ht] at hs
      refine .inr ⟨n, r, t, wrongL ls (n + 1) rs, Nat.le_refl _, by simp, hr, ht, by rw [firstB, ht], ?_⟩
      rw [hwl, ← hs]; rfl
    | none =>
      rw [ht] at hs
      rw [firstB, ht, hwl, ← hs]
      rcases ih with ⟨h1, h2⟩ | ⟨i, r', t, rest, h1, h2, h3, h4, h5, h6⟩
      · exact .inl ⟨h1, by simpa using h2⟩
      · refine .inr ⟨i, r', t, rest, by omega, ?_, h3, h4, h5, by simpa using h6⟩
        obtain ⟨j, hj⟩ : ∃ j, i - n = j + 1 := ⟨i - n - 1, by omega⟩
        rw [hj, List.getElem?_cons_succ]
        have : i - (n + 1) = j := by omega
        rw [← this]; exact h2
theorem enum_mem : ∀ (rs : List D) (n : Nat) (d : D), d ∈ enumFrom n rs → ∃ (i : Nat) (r : D), r ∈ rs ∧ d = .tuple [.int i, r]
  | [], n, d, h => by cases h
  | r :: rs, n, d, h => by
    rw [enumFrom] at h
    rcases List.mem_cons.1 h with rfl | h
    · exact ⟨n, r, .head _, rfl⟩
    · obtain ⟨i, r', h1, h2⟩ := enum_mem rs (n + 1) d h
      exact ⟨i, r', .tail _ h1, h2⟩
theorem enum_len : ∀ (rs : List D) (n : Nat), (enumFrom n rs).length = rs.length
  | [], n => rfl
  | r :: rs, n => by rw [enumFrom, List.length_cons, enum_len rs, List.length_cons]
theorem told_sd {ls : List D} {r t : D} (hr : RuleQ r) (hl : ∀ l ∈ ls, LineQ l) (h : told ls r = some t) : Sd 1 t := by
  obtain ⟨w, one, other, rfl, hh⟩ := hr
  unfold told at h
  obtain ⟨x, hx, rfl⟩ := Option.map_eq_some_iff.1 h
  have hm := brk_mem hx
  unfold partsOf at hm
  split
  · rename_i hS
    rw [if_pos hS] at hm
    exact sd_tup (n := 0) (by simpa using sort_sdAll one hl x hm)
  · rename_i hS
    rw [if_neg hS] at hm
    exact pairs_sd one hl x hm
theorem is_right_ok {R ls : List D} (hR : ∀ r ∈ R, RuleQ r) (hRn : R.length ≤ 900) (hl : ∀ l ∈ ls, LineQ l) (hn : ls.length ≤ 900) (k : Dk) :
    F_law_is_right [.dat (.tuple R), .dat (.tuple ls)] k = .ok (.bool true) k := by
  have c1 : ∀ a b c, nLc [5, 6] (iEnum (eVar 0)) (gT [(gN 5), (gN 6)]) (tNot (tE (eCall F_law_is_so (aCons (eVar 1) (aCons (eVar 6) aNil))))) (eVar 5) [.dat (.tuple R), .dat (.tuple ls), a, b, c, .un, .un] k = .ok (wrongL ls 0 R) k := fun a b c => by
    refine lc_pure (g := gT [(gN 5), (gN 6)]) (t := tNot (tE (eCall F_law_is_so (aCons (eVar 1) (aCons (eVar 6) aNil))))) (a := eVar 5) (wrongP ls) firstOf (enumFrom 0 R) (by simp) (fun d hd => ?_) (by rw [enum_len]; omega)
    obtain ⟨i, r, hr, rfl⟩ := enum_mem R 0 d hd
    refine ⟨_, rfl, ?_, fun _ => ?_⟩
    · simp [wipeE, is_so_ok (hR r hr) hl hn, wrongP]
    · simp [wipeE, firstOf]
  unfold F_law_is_right Z.run m_law_is_right
  have hB := breach_ok hR hl hn k
  have hK := keeps_ok hR hl hn k
  rcases wrong_first ls R 0 hR with ⟨h1, h2⟩ | ⟨i, r, t, rest, h1, h2, h3, h4, h5, h6⟩
  · rw [h1] at hB hK
    rw [h2] at c1
    have q0 := eqD_sd (n := 1) (m := 1) (x := .list []) (y := .list []) (sd_list (n := 0) (by simp)) (sd_list (n := 0) (by simp))
    simp [-r_nLc, Ar.sv, c1, hB, hK, isND, isN, isiD, PyData.plain, PyData.isBool, q0, PyData.eqv, PyData.eqvAll, neD_bool]
  · rw [h5] at hB hK
    have hwi := wrong_ints ls R 0
    rw [h6] at c1 hwi
    have q0 := eqD_sd (n := 1) (m := 1) (x := .list (.int i :: rest)) (y := .list []) (sd_list (n := 0) hwi) (sd_list (n := 0) (by simp))
    have st := told_sd h3 hl h4
    have hpl : PyData.plain (.tuple [.int i, t]) = true := simB_plain _ (sd_tup (n := 1) (forall_mem_2 (sd_int _) st)).1
    have hI : isiD PyData.isTuple (.tuple [.int i, t]) = some (.bool true) := by
      unfold isiD
      rw [hpl]; rfl
    have hJ : isiD PyData.isBool (.int (i : Int)) = some (.bool false) := rfl
    have hL : isiD PyData.isBool (.bool false) = some (.bool true) := rfl
    have hat : L2.atI R (i : Int) = some r := L2.atI_nat (by simpa using h2)
    simp [-r_nLc, Ar.sv, c1, hB, hK, isND, isN, hI, hJ, hL, q0, PyData.eqv, PyData.eqvAll, neD_bool, neD_int, hat, breaks_ok h3 hl hn h4]
end
end Y
namespace Y
section
open PySem Z
/-! ### what a rule still lacks -/
section
variable {A B C T : List D}
theorem lineP_Q (W : Words A B C) (hT : ∀ t ∈ T, flatK t = true) {d : D} (h : LineP A B T d) : LineQ d := by
  rcases h with ⟨a, t, ha, ht, rfl⟩ | ⟨b, t, u, hb, ht, hu, rfl⟩
  · obtain ⟨s, rfl, _⟩ := W.a a ha
    exact .inl ⟨s, t, rfl, hT t ht⟩
  · obtain ⟨s, rfl, _⟩ := W.b b hb
    exact .inr ⟨s, t, u, rfl, hT t ht, hT u hu⟩
theorem turnP_Q (W : Words A B C) {d : D} (h : TurnP B d) : TurnQ d := by
  obtain ⟨b, p, hb, hp, rfl⟩ := h
  obtain ⟨s, rfl, _⟩ := W.b b hb
  exact ⟨s, p, rfl, hp⟩
theorem sortP_Q (W : Words A B C) {d : D} (h : SortP A B d) : SortQ d := by
  rcases h with ⟨a, ha, rfl⟩ | h
  · obtain ⟨s, rfl, _⟩ := W.a a ha
    exact .inl ⟨s, rfl⟩
  · exact .inr (turnP_Q W h)
theorem ruleP_Q (W : Words A B C) {d : D} (h : RuleP A B d) : RuleQ d := by
  obtain ⟨w, one, other, rfl, ⟨hw, h1, h2⟩ | ⟨hw, h1, h2⟩⟩ := h
  · exact ⟨w, one, other, rfl, .inl ⟨hw, sortP_Q W h1, sortP_Q W h2⟩⟩
  · exact ⟨w, one, other, rfl, .inr ⟨hw, turnP_Q W h1, turnP_Q W h2⟩⟩
theorem step_mem {s l : D} {acc : List D} (h : ∀ x ∈ acc, x ∈ T) (hl : LineP A B T l) : ∀ x ∈ stepSort s acc l, x ∈ T := by
  intro x hx
  unfold stepSort at hx
  rcases hl with ⟨a, t, ha, ht, rfl⟩ | ⟨b, t, u, hb, ht, hu, rfl⟩
  · split at hx
    · rename_i he
      cases he
      split at hx
      · rcases mem_addIn hx with h1 | rfl
        · exact h x h1
        · exact ht
      · exact h x hx
    · rename_i he; cases he
    · exact h x hx
  · split at hx
    · rename_i he; cases he
    · rename_i he; cases he
      split at hx
      · rcases mem_addIn hx with h1 | rfl
        · exact h x h1
        · split <;> assumption
      · exact h x hx
    · exact h x hx
theorem fold_mem (s : D) : ∀ (ls acc : List D), (∀ x ∈ acc, x ∈ T) → (∀ l ∈ ls, LineP A B T l) → ∀ x ∈ ls.foldl (stepSort s) acc, x ∈ T
  | [], acc, h, _ => h
  | l :: ls, acc, h, hl => fold_mem s ls _ (step_mem h (hl l (.head _))) fun x m => hl x (.tail _ m)
theorem ofSort_T {ls : List D} (s : D) (hl : ∀ l ∈ ls, LineP A B T l) : ∀ x ∈ ofSort ls s, x ∈ T := fold_mem s ls [] (by simp) hl
theorem pairs_T {ls : List D} (s : D) (hl : ∀ l ∈ ls, LineP A B T l) : ∀ p ∈ pairsOf ls s, ∃ x y, p = .tuple [x, y] ∧ x ∈ T ∧ y ∈ T := by
  intro p hp
  obtain ⟨l, hm, e⟩ := List.mem_filterMap.1 hp
  unfold pairOf at e
  rcases hl l hm with ⟨a, t, ha, ht, rfl⟩ | ⟨b, t, u, hb, ht, hu, rfl⟩
  · split at e
    · rename_i he; cases he
    · cases e
  · split at e
    · rename_i he; cases he
      split at e
      · cases e
        split
        · exact ⟨_, _, rfl, ht, hu⟩
        · exact ⟨_, _, rfl, hu, ht⟩
      · cases e
    · cases e
theorem sub_addIn {ds : List D} {d x : D} (h : x ∈ ds) : x ∈ addIn ds d := by
  unfold addIn
  split
  · exact h
  · exact List.mem_append_left _ h
theorem in_addIn {ds : List D} {d : D} (h : ∀ x ∈ ds, flatK x = true) (hd : flatK d = true) : d ∈ addIn ds d := by
  unfold addIn
  split
  · rename_i he
    exact (has_iff (n := 0) (m := 0) (fun x hx => sd_flat (h x hx)) (sd_flat hd)).1 he
  · simp
theorem step_sub {s l : D} {acc : List D} {x : D} (h : x ∈ acc) : x ∈ stepSort s acc l := by
  unfold stepSort
  repeat' split
  all_goals first | exact sub_addIn h | exact h
theorem fold_sub (s : D) {x : D} : ∀ (ls acc : List D), x ∈ acc → x ∈ ls.foldl (stepSort s) acc
  | [], acc, h => h
  | l :: ls, acc, h => fold_sub s ls _ (step_sub h)
/-- a line's own term is of the sort -/
theorem fold_has {s l x : D} (hx : ∀ acc : List D, (∀ y ∈ acc, flatK y = true) → x ∈ stepSort s acc l) : ∀ (ls acc : List D), (∀ y ∈ acc, flatK y = true) → (∀ l ∈ ls, LineQ l) → l ∈ ls → x ∈ ls.foldl (stepSort s) acc
  | [], acc, _, _, h => by cases h
  | l' :: ls, acc, h0, hl, h => by
    rw [List.foldl_cons]
    rcases List.mem_cons.1 h with rfl | h
    · exact fold_sub s ls _ (hx acc h0)
    · exact fold_has hx ls _ (step_flat h0 (hl l' (.head _))) (fun y m => hl y (.tail _ m)) h
theorem eqv_str (s : Str) : PyData.eqv (.str s) (.str s) = true := by simp [PyData.eqv]
theorem has1 {ls : List D} {s : Str} {t : D} (hl : ∀ l ∈ ls, LineQ l) (ht : flatK t = true) (h : .tuple [.str s, t] ∈ ls) : t ∈ ofSort ls (.tuple [.str s]) :=
  fold_has (l := .tuple [.str s, t]) (fun acc ha => by rw [stepSort, if_pos (eqv_str s)]; exact in_addIn ha ht) ls [] (by simp) hl h
theorem has2 {ls : List D} {s : Str} {t u : D} (hl : ∀ l ∈ ls, LineQ l) (ht : flatK t = true) (h : .tuple [.str s, t, u] ∈ ls) : t ∈ ofSort ls (.tuple [.str s, .int 0]) :=
  fold_has (l := .tuple [.str s, t, u]) (fun acc ha => by rw [stepSort, if_pos (eqv_str s)]; exact in_addIn ha ht) ls [] (by simp) hl h
theorem has3 {ls : List D} {s : Str} {t u : D} (hl : ∀ l ∈ ls, LineQ l) (ht : flatK u = true) (h : .tuple [.str s, t, u] ∈ ls) : u ∈ ofSort ls (.tuple [.str s, .int 1]) :=
  fold_has (l := .tuple [.str s, t, u]) (fun acc ha => by rw [stepSort, if_pos (eqv_str s)]; exact in_addIn ha ht) ls [] (by simp) hl h
theorem has4 {ls : List D} {s : Str} {t u : D} (h : .tuple [.str s, t, u] ∈ ls) : .tuple [t, u] ∈ pairsOf ls (.tuple [.str s, .int 0]) :=
  List.mem_filterMap.2 ⟨_, h, by rw [pairOf, if_pos (eqv_str s)]; rfl⟩
theorem has5 {ls : List D} {s : Str} {t u : D} (h : .tuple [.str s, t, u] ∈ ls) : .tuple [u, t] ∈ pairsOf ls (.tuple [.str s, .int 1]) :=
  List.mem_filterMap.2 ⟨_, h, by rw [pairOf, if_pos (eqv_str s)]; rfl⟩
theorem line_tupD {d : D} (h : LineQ d) : tupD d = true := by
  rcases h with ⟨s, t, rfl, ht⟩ | ⟨s, t, u, rfl, ht, hu⟩
  · cases t <;> first | (simp [flatK] at ht; done) | rfl
  · cases t <;> first | (simp [flatK] at ht; done) | (cases u <;> first | (simp [flatK] at hu; done) | rfl)
/-- a line that the lot lacks -/
def NewLine (A B T ls : List D) (d : D) : Prop := LineP A B T d ∧ d ∉ ls
theorem missing_ok (W : Words A B C) (hT : ∀ t ∈ T, flatK t = true) (hT0 : T ≠ []) (hT1 : T.length ≤ 1000) {rule : D} (hr : RuleP A B rule) {ls : List D} (hl : ∀ l ∈ ls, LineP A B T l) (hn : ls.length ≤ 900) (k : Dk) (hk : k.n + 1 ≤ LIM) :
    Ok (F_law_missing [.dk, .dat (.list ls), .dat rule, .dat (.list T)] k) fun d k' => (d = .none ∧ k' = k) ∨ (NewLine A B T ls d ∧ k'.n ≤ k.n + 1) := by
  have hT2 : T.length < 1073741824 := by omega
  have hq : ∀ l ∈ ls, LineQ l := fun l m => lineP_Q W hT (hl l m)
  unfold F_law_missing Z.run m_law_missing
  obtain ⟨w, one, other, rfl, ⟨hw, h1, h2⟩ | ⟨hw, h1, h2⟩⟩ := hr
  · obtain ⟨d1, k1, e1, rfl, rfl⟩ := (of_sort_ok (c := .list ls) (.inr rfl) (sortP_Q W h1) hq hn k).get
    obtain ⟨d2, k2, e2, rfl, rfl⟩ := (of_sort_ok (c := .list ls) (.inr rfl) (sortP_Q W h2) hq hn k1).get
    rcases hw with rfl | rfl
    · simp [Ar.sv, eqD_str, w_wl, e1, e2]
      refine (forL_ok (J := fun rest e k' => ∃ u v x y, e = [.dk, .dat (.list ls), .dat (.tuple [.str "within", one, other]), .dat (.list T), .dat (.str "within"), .dat one, .dat other, .dat (.list (ofSort ls other)), u, v, x, y] ∧ k' = k2 ∧ ∀ t ∈ rest, t ∈ T)
        (R := fun o k' => ((∃ e, o = .nx e) ∧ k' = k2) ∨ ∃ d, o = .rt d ∧ NewLine A B T ls d ∧ k'.n ≤ k2.n + 1)
        (fun d ds e k' hj => ?_) (fun e k' hj => ?_) _ _ _ ⟨.un, .un, .un, .un, rfl, rfl, ofSort_T one hl⟩).mono fun o k' h => ?_
      · obtain ⟨u, v, x, y, rfl, rfl, h3⟩ := hj
        have hd := h3 d (.head _)
        have h3' : ∀ t ∈ ds, t ∈ T := fun t m => h3 t (.tail _ m)
        have hf := hT d hd
        have so := sort_sdAll other hq
        have hi := niD_list so (sd_flat (n := 0) hf)
        refine ⟨_, rfl, ?_⟩
        cases hh : hasD (ofSort ls other) d
        · have hno : d ∉ ofSort ls other := fun m => by
            rw [(has_iff so (sd_flat (n := 0) hf)).2 m] at hh; cases hh
          rcases h2 with ⟨a, ha, rfl⟩ | ⟨b, p, hb, hp, rfl⟩
          · simp [hi, hh, eqD_int]
            obtain ⟨s, rfl, _⟩ := W.a a ha
            exact ⟨.inl ⟨_, _, ha, hd, rfl⟩, fun m => hno (has1 hq hf m)⟩
          · simp [hi, hh, eqD_int]
            obtain ⟨s, rfl, _⟩ := W.b b hb
            refine (pick_ok hT0 hT2 k' (by omega)).mono fun q k3 h => ?_
            obtain ⟨hq3, hk3⟩ := h
            rcases hp with rfl | rfl
            · simp
              exact ⟨⟨.inr ⟨_, _, _, hb, hd, hq3, rfl⟩, fun m => hno (has2 hq hf m)⟩, hk3⟩
            · simp
              exact ⟨⟨.inr ⟨_, _, _, hb, hq3, hd, rfl⟩, fun m => hno (has3 hq hf m)⟩, hk3⟩
        · simp [hi, hh]
          exact h3'
      · obtain ⟨u, v, x, y, rfl, rfl, h3⟩ := hj
        exact .inl ⟨⟨_, rfl⟩, rfl⟩
      · rcases h with ⟨⟨e, rfl⟩, rfl⟩ | ⟨d, rfl, hd, hk'⟩
        · simp
        · simp
          exact .inr ⟨hd, hk'⟩
    · simp [Ar.sv, eqD_str, w_al, w_aw]
  · obtain ⟨d1, k1, e1, rfl, rfl⟩ := (pairs_ok (c := .list ls) (.inr rfl) (turnP_Q W h1) hq hn k).get
    obtain ⟨d2, k2, e2, rfl, rfl⟩ := (pairs_ok (c := .list ls) (.inr rfl) (turnP_Q W h2) hq hn k1).get
    rcases hw with rfl | rfl
    · simp [Ar.sv, eqD_str, w_lw, e1, e2]
      refine (forL_ok (J := fun rest e k' => ∃ u v x y, e = [.dk, .dat (.list ls), .dat (.tuple [.str "along", one, other]), .dat (.list T), .dat (.str "along"), .dat one, .dat other, .dat (.list (pairsOf ls other)), u, v, x, y] ∧ k' = k2 ∧ ∀ p ∈ rest, ∃ x y, p = .tuple [x, y] ∧ x ∈ T ∧ y ∈ T)
        (R := fun o k' => ((∃ e, o = .nx e ∧ e[4]? = some (.dat (.str "along"))) ∧ k' = k2) ∨ ∃ d, o = .rt d ∧ NewLine A B T ls d ∧ k'.n ≤ k2.n + 1)
        (fun d ds e k' hj => ?_) (fun e k' hj => ?_) _ _ _ ⟨.un, .un, .un, .un, rfl, rfl, pairs_T one hl⟩).mono fun o k' h => ?_
      · obtain ⟨u, v, x, y, rfl, rfl, h3⟩ := hj
        obtain ⟨t, z, rfl, ht, hz⟩ := h3 d (.head _)
        have h3' : ∀ p ∈ ds, ∃ x y, p = .tuple [x, y] ∧ x ∈ T ∧ y ∈ T := fun t m => h3 t (.tail _ m)
        have so := pairs_sd other hq
        have sd : Sd 1 (.tuple [t, z]) := sd_tup (n := 0) (forall_mem_2 (sd_flat (hT t ht)) (sd_flat (hT z hz)))
        have hi := niD_list so sd
        refine ⟨_, rfl, ?_⟩
        cases hh : hasD (pairsOf ls other) (.tuple [t, z])
        · have hno : .tuple [t, z] ∉ pairsOf ls other := fun m => by
            rw [(has_iff so sd).2 m] at hh; cases hh
          obtain ⟨b, p, hb, hp, rfl⟩ := h2
          obtain ⟨s, rfl, _⟩ := W.b b hb
          rcases hp with rfl | rfl
          · simp [hi, hh]
            exact ⟨.inr ⟨_, _, _, hb, ht, hz, rfl⟩, fun m => hno (has4 m)⟩
          · simp [hi, hh]
            exact ⟨.inr ⟨_, _, _, hb, hz, ht, rfl⟩, fun m => hno (has5 m)⟩
        · simp [hi, hh]
          exact h3'
      · obtain ⟨u, v, x, y, rfl, rfl, h3⟩ := hj
        exact .inl ⟨⟨_, rfl, rfl⟩, rfl⟩
      · rcases h with ⟨⟨e, rfl, he⟩, rfl⟩ | ⟨d, rfl, hd, hk'⟩
        · simp [he, eqD_str, w_lw]
        · simp
          exact .inr ⟨hd, hk'⟩
    · simp [Ar.sv, eqD_str, w_yl, w_yw]
end
end
end Y
namespace Y
section
open PySem Z
/-! ### the closing loop -/
def allLines (A B T : List D) : List D := (A.flatMap fun a => T.map fun t => PyData.tuple [a, t]) ++ B.flatMap fun b => T.flatMap fun t => T.map fun u => PyData.tuple [b, t, u]
theorem all_mem {A B T : List D} {d : D} (h : LineP A B T d) : d ∈ allLines A B T := by
  unfold allLines
  rcases h with ⟨a, t, ha, ht, rfl⟩ | ⟨b, t, u, hb, ht, hu, rfl⟩
  · exact List.mem_append_left _ (List.mem_flatMap.2 ⟨a, ha, List.mem_map.2 ⟨t, ht, rfl⟩⟩)
  · exact List.mem_append_right _ (List.mem_flatMap.2 ⟨b, hb, List.mem_flatMap.2 ⟨t, ht, List.mem_map.2 ⟨u, hu, rfl⟩⟩⟩)
theorem flatMap_len {α β : Type} (f : α → List β) (n : Nat) : ∀ l : List α, (∀ x ∈ l, (f x).length = n) → (l.flatMap f).length = l.length * n
  | [], _ => by simp
  | x :: xs, h => by rw [List.flatMap_cons, List.length_append, h x (.head _), flatMap_len f n xs fun y m => h y (.tail _ m), List.length_cons, Nat.add_mul]; omega
theorem all_len (A B T : List D) : (allLines A B T).length = A.length * T.length + B.length * (T.length * T.length) := by
  unfold allLines
  rw [List.length_append, flatMap_len _ T.length A (by simp), flatMap_len _ (T.length * T.length) B (fun b _ => by rw [flatMap_len _ T.length T (by simp)])]
open Classical in
/-- how many lines are not there yet -/
noncomputable def left (U ls : List D) : Nat := (U.filter fun u => decide (u ∉ ls)).length
theorem filter_le {α : Type} (p q : α → Bool) (h : ∀ x, q x = true → p x = true) : ∀ l : List α, (l.filter q).length ≤ (l.filter p).length
  | [] => Nat.le_refl _
  | x :: xs => by
    have ih := filter_le p q h xs
    rw [List.filter_cons, List.filter_cons]
    cases hq : q x
    · cases p x <;> simp <;> omega
    · rw [h x hq]; simpa using ih
theorem filter_lt {α : Type} (p q : α → Bool) (h : ∀ x, q x = true → p x = true) {u : α} (hp : p u = true) (hq : q u = false) : ∀ l : List α, u ∈ l → (l.filter q).length < (l.filter p).length
  | x :: xs, hm => by
    rw [List.filter_cons, List.filter_cons]
    have le := filter_le p q h xs
    rcases List.mem_cons.1 hm with rfl | hm
    · rw [hp, hq]; simp; omega
    · have ih := filter_lt p q h hp hq xs hm
      cases hq' : q x
      · cases p x <;> simp <;> omega
      · rw [h x hq']; simpa using ih
theorem left_lt {U ls : List D} {d : D} (hU : d ∈ U) (hd : d ∉ ls) : left U (ls ++ [d]) < left U ls := by
  unfold left
  refine filter_lt _ _ (fun x hx => ?_) (u := d) (by simpa using hd) (by simp) U hU
  simp at hx ⊢
  exact hx.1
section
variable {A B C T : List D}
/-- the state ahead of a turn of the while, and after it -/
def CJ (A B T R ls : List D) (M K n : Nat) (e : Z.Env) (k' : Dk) : Prop := ∃ (f : List D) (ag : Bool), (∃ u v, e = [.dk, .dat (.tuple R), .dat (.tuple ls), .dat (.list T), .own f, .dat (.bool ag), u, v]) ∧ n = 2 * left (allLines A B T) f + (if ag then 1 else 0) ∧ f.length + left (allLines A B T) f ≤ M ∧ k'.n + left (allLines A B T) f ≤ K ∧ ∀ l ∈ f, LineP A B T l
def CR (A B T R ls : List D) (M K : Nat) (o : Out) (k' : Dk) : Prop := ∃ f, (∃ a b c, o = .nx [.dk, .dat (.tuple R), .dat (.tuple ls), .dat (.list T), .own f, a, b, c]) ∧ f.length ≤ M ∧ k'.n ≤ K ∧ ∀ l ∈ f, LineP A B T l
def CF (A B T R ls : List D) (M K : Nat) (f rest : List D) (e : Z.Env) (k'' : Dk) : Prop := ∃ (g : List D) (ag : Bool), (∃ u v, e = [.dk, .dat (.tuple R), .dat (.tuple ls), .dat (.list T), .own g, .dat (.bool ag), u, v]) ∧ left (allLines A B T) g ≤ left (allLines A B T) f ∧ (ag = true → left (allLines A B T) g < left (allLines A B T) f) ∧ g.length + left (allLines A B T) g ≤ M ∧ k''.n + left (allLines A B T) g ≤ K ∧ (∀ l ∈ g, LineP A B T l) ∧ ∀ r ∈ rest, RuleP A B r
def CG (A B T R ls : List D) (M K : Nat) (f : List D) (o : Out) (k'' : Dk) : Prop := ∃ e, o = .nx e ∧ CF A B T R ls M K f [] e k''
theorem closed_ok (W : Words A B C) (hT : ∀ t ∈ T, flatK t = true) (hT0 : T ≠ []) (hT1 : T.length ≤ 1000) {R : List D} (hR : ∀ r ∈ R, RuleP A B r) {ls : List D} (hl : ∀ l ∈ ls, LineP A B T l) (M K : Nat) (hM : M ≤ 900) (hK : K + 1 ≤ LIM)
    (k : Dk) (h1 : ls.length + (allLines A B T).length ≤ M) (h2 : k.n + (allLines A B T).length ≤ K) :
    Ok (F_law_closed [.dk, .dat (.tuple R), .dat (.tuple ls), .dat (.list T)] k) fun d k' => ∃ L, d = .tuple L ∧ L.length ≤ M ∧ (∀ l ∈ L, LineP A B T l) ∧ k'.n ≤ K := by
  have hU : left (allLines A B T) ls ≤ (allLines A B T).length := by unfold left; exact List.length_filter_le _ _
  unfold F_law_closed Z.run m_law_closed
  simp only [Ar.sv, List.length_cons, List.length_nil, if_pos, List.map_cons, List.map_nil, List.replicate, List.cons_append, List.nil_append, r_sSeq, Res.bind_ok, Ok_bind, r_sOwn, r_nFn, r_nCons, r_nNil, r_eVar, List.getElem?_cons_succ, List.getElem?_cons_zero, fList_tup, Res.of_some, Nat.zero_add, Nat.reduceAdd, Nat.reduceLT, List.set_cons_zero, List.set_cons_succ, Out.seq_nx, r_sAsg, r_eC, gN_run]
  refine (while_ok (J := CJ A B T R ls M K) (R := CR A B T R ls M K)
    (fun n e k' hj => ?_) _ _ k ⟨ls, true, ⟨.un, .un, rfl⟩, rfl, by omega, by omega, hl⟩).mono fun o k' hr => ?_
  · obtain ⟨f, ag, ⟨u, v, rfl⟩, hn, h3, h4, h5⟩ := hj
    simp
    cases ag with
    | false => exact ⟨f, ⟨_, _, _, rfl⟩, by omega, by omega, h5⟩
    | true =>
      simp
      refine (forL_ok (J := CF A B T R ls M K f) (R := CG A B T R ls M K f)
        (fun d ds e k'' hj => ?_) (fun e k'' hj => ?_) _ _ _ ⟨f, false, ⟨u, v, rfl⟩, Nat.le_refl _, by simp, h3, h4, h5, hR⟩).mono fun o k'' hr => ?_
      · obtain ⟨g, ag, ⟨u, v, rfl⟩, g1, g2, g3, g4, g5, g6⟩ := hj
        have hd := g6 d (.head _)
        have g6' : ∀ r ∈ ds, RuleP A B r := fun r m => g6 r (.tail _ m)
        refine ⟨_, rfl, ?_⟩
        simp
        refine (missing_ok W hT hT0 hT1 hd g5 (by omega) k'' (by omega)).mono fun x k3 hx => ?_
        rcases hx with ⟨rfl, rfl⟩ | ⟨⟨hx, hnew⟩, hk3⟩
        · simp [tupD, notND, isN]
          exact ⟨g, ag, ⟨_, _, rfl⟩, g1, g2, g3, g4, g5, g6'⟩
        · have ht := line_tupD (lineP_Q W hT hx)
          have lt := left_lt (all_mem hx) hnew
          have hN : notND x = .bool true := by
            rcases hx with ⟨a, t, _, _, rfl⟩ | ⟨b, t, u, _, _, _, rfl⟩ <;> rfl
          have hgl : g.length ≤ 1000 := by omega
          simp [ht, hN, hgl]
          refine ⟨g ++ [x], true, ⟨_, _, rfl⟩, by omega, fun _ => by omega, by simp; omega, by omega, fun l hl => ?_, g6'⟩
          rcases List.mem_append.1 hl with hl | hl
          · exact g5 l hl
          · simp at hl; subst hl; exact hx
      · exact ⟨e, rfl, hj⟩
      · obtain ⟨e, rfl, g, ag, ⟨u, v, rfl⟩, g1, g2, g3, g4, g5, _⟩ := hr
        simp
        refine ⟨_, ?_, g, ag, ⟨u, v, rfl⟩, rfl, g3, g4, g5⟩
        subst hn
        cases ag with
        | false => simp; omega
        | true => have := g2 rfl; simp; omega
  · obtain ⟨f, ⟨a, b, c, rfl⟩, h3, h4, h5⟩ := hr
    simp
    exact ⟨h3, h5, h4⟩
end
end
end Y
namespace Y
section
open PySem Z
/-! ### the law -/
theorem sd_of_Q {d : D} (h : LineQ d) : Sd 1 d := by
  rcases h with ⟨s, t, rfl, ht⟩ | ⟨s, t, u, rfl, ht, hu⟩
  · exact sd_tup (n := 0) (forall_mem_2 (sd_str s) (sd_flat ht))
  · refine sd_tup (n := 0) fun x hx => ?_
    simp at hx
    rcases hx with rfl | rfl | rfl
    · exact sd_str s
    · exact sd_flat ht
    · exact sd_flat hu
theorem others_ok {L : List D} {m : D} (hL : ∀ l ∈ L, LineQ l) (hm : LineQ m) (hn : L.length ≤ 900) (a b c d e f g h i j : SV) (k : Dk) :
    nLc [11] (iSeq (eVar 6)) (gN 11) (tE (eOp neD (eVar 11) (eVar 7))) (eVar 11) [a, b, c, d, e, f, .dat (.tuple L), .dat m, g, h, i, j] k = .ok (L.filter fun x => !PyData.eqv x m) k := by
  rw [lc_pure (g := gN 11) (t := tE (eOp neD (eVar 11) (eVar 7))) (a := eVar 11) (fun x => !PyData.eqv x m) id L (by simp) (fun x hx => ⟨_, rfl, ?_, fun _ => ?_⟩) (by omega)]
  · simp
  · simp [wipeE, neD_sd (sd_of_Q (hL x hx)) (sd_of_Q hm)]
  · simp [wipeE]
theorem seq_nx {a b : SM} {e : Z.Env} {k : Dk} {P : Out → Dk → Prop} (Q : Z.Env → Dk → Prop) (h : Ok (a e k) fun o k1 => ∃ e1, o = .nx e1 ∧ Q e1 k1) (i : ∀ e1 k1, Q e1 k1 → Ok (b e1 k1) P) : Ok (sSeq a b e k) P := by
  rw [r_sSeq, Ok_bind]
  refine h.mono fun o k1 h => ?_
  obtain ⟨e1, rfl, q⟩ := h
  exact i e1 k1 q
theorem asg_ok {i : Nat} {a : EM} {e : Z.Env} {k : Dk} {P : D → Dk → Prop} (hi : i < e.length) (h : Ok (a e k) P) : Ok (sAsg (gN i) a e k) fun o k1 => ∃ e1, o = .nx e1 ∧ ∃ d, e1 = e.set i (.dat d) ∧ P d k1 := by
  simp only [r_sAsg, Ok_bind, gN_run, if_pos hi, Res.of_some, Res.bind_ok, Ok_ok]
  exact h.mono fun d k1 p => ⟨_, rfl, d, rfl, p⟩
/-- a step: x = a -/
theorem step {i : Nat} {a : EM} {b : SM} {e : Z.Env} {k : Dk} {R : Out → Dk → Prop} {P : D → Dk → Prop} (hi : i < e.length) (h : Ok (a e k) P) (n : ∀ d k1, P d k1 → Ok (b (e.set i (.dat d)) k1) R) : Ok (sSeq (sAsg (gN i) a) b e k) R :=
  seq_nx _ (asg_ok hi h) fun e1 k1 ⟨d, he, p⟩ => by rw [he]; exact n d k1 p
theorem law_true (ns : List Int) (hns : ns.length ≤ 63) : ∃ k', m_law (.un :: .dk :: List.replicate 10 .un) (mkDk ns) = .ok (.rt (.bool true)) k' := by
  have h : Ok (m_law (.un :: .dk :: List.replicate 10 .un) (mkDk ns)) fun o k' => o = .rt (.bool true) := by
    have k0 : (mkDk ns).n = 0 := rfl
    have hL : LIM = 1099511627776 := rfl
    generalize mkDk ns = k at k0
    unfold m_law
    refine step (by decide) (P := fun d k1 => (∃ b, d = .bool b) ∧ k1.n ≤ 1) ?_ fun d k1 h => ?_
    · simp
      refine (take_ok (by decide) (by decide) k (by omega)).mono fun x k1 h => ?_
      obtain ⟨r, r0, r1, rfl, hk1⟩ := h
      simp
      omega
    obtain ⟨⟨bb, rfl⟩, hk1⟩ := h
    refine step (by simp) (P := fun d k2 => ∃ A B C, Words A B C ∧ d = wordsD A B C ∧ k2.n ≤ k1.n + 20) ?_ fun d k2 h => ?_
    · simp
      exact words_ok k1 (by omega)
    obtain ⟨A, B, C, W, rfl, hk2⟩ := h
    refine step (by simp) (P := fun d k3 => ∃ R, d = .tuple R ∧ R.length ≤ 6 ∧ (∀ r ∈ R, RuleP A B r) ∧ k3.n ≤ k2.n + 100) ?_ fun d k3 h => ?_
    · simp
      refine (pick_ok (by simp) (by simp) k2 (by omega)).mono fun x k3 h => ?_
      obtain ⟨hx, hk3⟩ := h
      obtain ⟨m, hm, rfl⟩ : ∃ m : Nat, m ≤ 6 ∧ x = .int m := by
        simp at hx
        rcases hx with rfl | rfl | rfl | rfl
        · exact ⟨0, by omega, rfl⟩
        · exact ⟨1, by omega, rfl⟩
        · exact ⟨3, by omega, rfl⟩
        · exact ⟨6, by omega, rfl⟩
      refine (rules_ok W m (by omega) k3 (by omega)).mono fun x k4 h => ?_
      obtain ⟨R, rfl, hRn, hR, hk4⟩ := h
      exact ⟨R, rfl, by omega, hR, by omega⟩
    obtain ⟨R, rfl, hRn, hR, hk3⟩ := h
    refine step (by simp) (P := fun d k4 => ∃ T, d = .list T ∧ T.length = 5 ∧ (∀ t ∈ T, flatK t = true) ∧ k4.n ≤ k3.n + 1) ?_ fun d k4 h => ?_
    · simp [wordsD]
      refine (take_ok (by decide) (by decide) k3 (by omega)).mono fun x k5 h => ?_
      obtain ⟨q, q0, q1, rfl, hk5⟩ := h
      have hC : C.length + 2 ≤ sizeLine := by rw [W.c1]; decide
      have ha : addD (.list C) (.list [.int 0, .int (1 + q)]) = some (.list (C ++ [.int 0, .int (1 + q)])) := addD_list (by simpa using hC)
      simp [ha]
      refine ⟨W.c1, fun t ht => ?_, hk5⟩
      rcases ht with ht | rfl | rfl
      · obtain ⟨s, rfl, _⟩ := W.c t ht; rfl
      · rfl
      · rfl
    obtain ⟨T, rfl, hTl, hT, hk4⟩ := h
    have hT0 := ne_of_len hTl (by decide)
    refine step (by simp) (P := fun d k5 => ∃ L, d = .tuple L ∧ L.length ≤ 10 ∧ (∀ r ∈ L, LineP A B T r) ∧ k5.n ≤ k4.n + 60) ?_ fun d k5 h => ?_
    · simp
      refine (pick_ok (by simp) (by simp) k4 (by omega)).mono fun x k6 h => ?_
      obtain ⟨hx, hk6⟩ := h
      obtain ⟨m2, hm2, rfl⟩ : ∃ m : Nat, m ≤ 10 ∧ x = .int m := by
        simp at hx
        rcases hx with rfl | rfl | rfl | rfl
        · exact ⟨0, by omega, rfl⟩
        · exact ⟨1, by omega, rfl⟩
        · exact ⟨4, by omega, rfl⟩
        · exact ⟨10, by omega, rfl⟩
      refine (lines_ok W hT hT0 (by omega) m2 (by omega) k6 (by omega)).mono fun x k7 h => ?_
      obtain ⟨L0, rfl, hL0n, hL0, hk7⟩ := h
      exact ⟨L0, rfl, by omega, hL0, by omega⟩
    obtain ⟨L0, rfl, hL0n, hL0, hk5⟩ := h
    have hal := all_len A B T
    rw [W.a1, W.b1, hTl] at hal
    refine seq_nx (fun e1 k6 => ∃ L, e1 = [.un, .dk, .dat (.bool bb), .dat (wordsD A B C), .dat (.tuple R), .dat (.list T), .dat (.tuple L), .un, .un, .un, .un, .un] ∧ (∀ l ∈ L, LineP A B T l) ∧ L.length ≤ 100 ∧ k6.n ≤ 1000) ?_ fun e1 k6 h => ?_
    · cases bb
      · simp
        exact ⟨hL0, by omega, by omega⟩
      · simp
        refine (closed_ok W hT hT0 (by omega) hR hL0 100 1000 (by omega) (by omega) k5 (by omega) (by omega)).mono fun x k8 h => ?_
        obtain ⟨L, rfl, h1, h2, h3⟩ := h
        simp
        exact ⟨h2, h1, h3⟩
    obtain ⟨L, rfl, hLP, hLn, hk6⟩ := h
    refine step (by simp) (P := fun d k7 => LineP A B T d ∧ k7.n ≤ k6.n + 4) ?_ fun mo k7 h => ?_
    · simp
      exact line_ok W hT0 (by omega) k6 (by omega)
    obtain ⟨hmo, hk7⟩ := h
    have hLQ : ∀ l ∈ L, LineQ l := fun l hl => lineP_Q W hT (hLP l hl)
    have hmQ := lineP_Q W hT hmo
    have hRQ : ∀ r ∈ R, RuleQ r := fun r hr => ruleP_Q W (hR r hr)
    have hfl : (L.filter fun x => !PyData.eqv x mo).length ≤ L.length := List.length_filter_le _ _
    refine step (by simp) (P := fun d k8 => d = .tuple ((L.filter fun x => !PyData.eqv x mo) ++ [mo]) ∧ k8 = k7) ?_ fun d k8 h => ?_
    · have oth := others_ok hLQ hmQ (by omega)
      have ad : addD (.tuple (L.filter fun x => !PyData.eqv x mo)) (.tuple [mo]) = some (.tuple ((L.filter fun x => !PyData.eqv x mo) ++ [mo])) := addD_tup (by simp; unfold sizeLine; omega)
      simp [-r_nLc, oth, ad]
    obtain ⟨rfl, rfl⟩ := h
    refine step (by simp) (P := fun d k9 => ∃ cu : Int, d = .int cu) ?_ fun d k9 h => ?_
    · simp
      refine (take_ok (by omega) (by omega) k8 (by omega)).mono fun x k10 h => ?_
      obtain ⟨cu, cu0, cu1, rfl, hk10⟩ := h
      exact ⟨cu, rfl⟩
    obtain ⟨cu, rfl⟩ := h
    have fin : ∀ L1 : List D, (∀ l ∈ L1, LineQ l) → L1.length ≤ 900 → ∀ k, F_law_is_right [.dat (.tuple R), .dat (.tuple L1)] k = .ok (.bool true) k := fun L1 h1 h2 k => is_right_ok hRQ (by omega) h1 h2 k
    have c1 := cut_len L none (some cu)
    have c2 := cut_len L (some (cu + 1)) none
    have c3 := cut_len L (some cu) none
    have ad2 : addD (.tuple (cutL L none (some cu))) (.tuple (cutL L (some (cu + 1)) none)) = some (.tuple (cutL L none (some cu) ++ cutL L (some (cu + 1)) none)) := addD_tup (by unfold sizeLine; omega)
    have ad3 : addD (.tuple (cutL L (some cu) none)) (.tuple (cutL L none (some cu))) = some (.tuple (cutL L (some cu) none ++ cutL L none (some cu))) := addD_tup (by unfold sizeLine; omega)
    have f1 := fin L hLQ (by omega)
    have f2 := fin L.reverse (fun l hl => hLQ l (List.mem_reverse.1 hl)) (by rw [List.length_reverse]; omega)
    have f3 := fin ((L.filter fun x => !PyData.eqv x mo) ++ [mo]) (fun l hl => by
      rcases List.mem_append.1 hl with hl | hl
      · exact hLQ l (List.mem_filter.1 hl).1
      · simp at hl; subst hl; exact hmQ) (by rw [List.length_append, List.length_singleton]; omega)
    have f4 := fin (cutL L none (some cu) ++ cutL L (some (cu + 1)) none) (fun l hl => by
      rcases List.mem_append.1 hl with hl | hl <;> exact hLQ l (cut_mem hl)) (by rw [List.length_append]; omega)
    have f5 := fin (cutL L (some cu) none ++ cutL L none (some cu)) (fun l hl => by
      rcases List.mem_append.1 hl with hl | hl <;> exact hLQ l (cut_mem hl)) (by rw [List.length_append]; omega)
    have f6 := is_right_ok (R := R.reverse) (fun r hr => hRQ r (List.mem_reverse.1 hr)) (by rw [List.length_reverse]; omega) hLQ (by omega)
    generalize (L.filter fun x => !PyData.eqv x mo) ++ [mo] = L3 at f3
    generalize cutL L none (some cu) ++ cutL L (some (cu + 1)) none = L4 at f4 ad2
    generalize cutL L (some cu) none ++ cutL L none (some cu) = L5 at f5 ad3
    simp [-r_nLc, backT, ad2, ad3, forL, f1, f2, f3, f4, f5, f6]
  obtain ⟨_, k', e, rfl⟩ := h.get
  exact ⟨k', e⟩
end
end Y
namespace Y
open PySem PySem.Spec PyProof.Rows L2 Z
theorem all_mk {l : PySem.W.OpenLaw} {w : World} {K : PySem.W.Frag} {h : Heap} {mg : Str → Option Value} {fa : Addr} (X : K.In h) (G : h.Ns mainGlobals mg) (hfa : mg "law" = some (.ref fa)) (LT : ∀ ns : List Int, ns.length ≤ 63 → ∃ k', m_law (.un :: .dk :: List.replicate 10 .un) (mkDk ns) = .ok (.rt (.bool true)) k')
    {f0 : Addr} {od0 an0 : Option Addr} {sl0 : Array (Option Value)} {oc0 kV0 dc0 pm0 cd0 ct0 : Value}
    (a0 : PySem.W.nsIn K mainGlobals "sort_at" = some (some (.ref f0))) (l0 : K.lookup f0 = some ⟨oc0, od0, .func (PySem.W.fnOf "sort_at" "sort_at" (defArgs s_sort_at) (defBody s_sort_at) (defScope s_sort_at) .none kV0 dc0 pm0 an0 cd0 ct0), sl0⟩) (c0 : PySem.W.codeIn K cd0 "sort_at" = true) (k0 : PySem.W.keepIn K (.ref f0) = true)
    {f1 : Addr} {od1 an1 : Option Addr} {sl1 : Array (Option Value)} {oc1 kV1 dc1 pm1 cd1 ct1 : Value}
    (a1 : PySem.W.nsIn K mainGlobals "members" = some (some (.ref f1))) (l1 : K.lookup f1 = some ⟨oc1, od1, .func (PySem.W.fnOf "members" "members" (defArgs s_members) (defBody s_members) (defScope s_members) .none kV1 dc1 pm1 an1 cd1 ct1), sl1⟩) (c1 : PySem.W.codeIn K cd1 "members" = true) (k1 : PySem.W.keepIn K (.ref f1) = true)
    {f2 : Addr} {od2 an2 : Option Addr} {sl2 : Array (Option Value)} {oc2 kV2 dc2 pm2 cd2 ct2 : Value}
    (a2 : PySem.W.nsIn K mainGlobals "pairs_of" = some (some (.ref f2))) (l2 : K.lookup f2 = some ⟨oc2, od2, .func (PySem.W.fnOf "pairs_of" "pairs_of" (defArgs s_pairs_of) (defBody s_pairs_of) (defScope s_pairs_of) .none kV2 dc2 pm2 an2 cd2 ct2), sl2⟩) (c2 : PySem.W.codeIn K cd2 "pairs_of" = true) (k2 : PySem.W.keepIn K (.ref f2) = true)
    {f3 : Addr} {od3 an3 : Option Addr} {sl3 : Array (Option Value)} {oc3 kV3 dc3 pm3 cd3 ct3 : Value}
    (a3 : PySem.W.nsIn K mainGlobals "sort_breach" = some (some (.ref f3))) (l3 : K.lookup f3 = some ⟨oc3, od3, .func (PySem.W.fnOf "sort_breach" "sort_breach" (defArgs s_sort_breach) (defBody s_sort_breach) (defScope s_sort_breach) .none kV3 dc3 pm3 an3 cd3 ct3), sl3⟩) (c3 : PySem.W.codeIn K cd3 "sort_breach" = true) (k3 : PySem.W.keepIn K (.ref f3) = true)
    {f4 : Addr} {od4 an4 : Option Addr} {sl4 : Array (Option Value)} {oc4 kV4 dc4 pm4 cd4 ct4 : Value}
    (a4 : PySem.W.nsIn K mainGlobals "pair_breach" = some (some (.ref f4))) (l4 : K.lookup f4 = some ⟨oc4, od4, .func (PySem.W.fnOf "pair_breach" "pair_breach" (defArgs s_pair_breach) (defBody s_pair_breach) (defScope s_pair_breach) .none kV4 dc4 pm4 an4 cd4 ct4), sl4⟩) (c4 : PySem.W.codeIn K cd4 "pair_breach" = true) (k4 : PySem.W.keepIn K (.ref f4) = true)
    {f5 : Addr} {od5 an5 : Option Addr} {sl5 : Array (Option Value)} {oc5 kV5 dc5 pm5 cd5 ct5 : Value}
    (a5 : PySem.W.nsIn K mainGlobals "breach" = some (some (.ref f5))) (l5 : K.lookup f5 = some ⟨oc5, od5, .func (PySem.W.fnOf "breach" "breach" (defArgs s_breach) (defBody s_breach) (defScope s_breach) .none kV5 dc5 pm5 an5 cd5 ct5), sl5⟩) (c5 : PySem.W.codeIn K cd5 "breach" = true) (k5 : PySem.W.keepIn K (.ref f5) = true)
    {f6 : Addr} {od6 an6 : Option Addr} {sl6 : Array (Option Value)} {oc6 kV6 dc6 pm6 cd6 ct6 : Value}
    (a6 : PySem.W.nsIn K mainGlobals "keeps" = some (some (.ref f6))) (l6 : K.lookup f6 = some ⟨oc6, od6, .func (PySem.W.fnOf "keeps" "keeps" (defArgs s_keeps) (defBody s_keeps) (defScope s_keeps) .none kV6 dc6 pm6 an6 cd6 ct6), sl6⟩) (c6 : PySem.W.codeIn K cd6 "keeps" = true) (k6 : PySem.W.keepIn K (.ref f6) = true)
    {f7 : Addr} {od7 an7 : Option Addr} {sl7 : Array (Option Value)} {oc7 kV7 dc7 pm7 cd7 ct7 : Value}
    (a7 : PySem.W.nsIn K mainGlobals "_law_cell" = some (some (.ref f7))) (l7 : K.lookup f7 = some ⟨oc7, od7, .func (PySem.W.fnOf "_law_cell" "_law_cell" (defArgs s_law_cell) (defBody s_law_cell) (defScope s_law_cell) .none kV7 dc7 pm7 an7 cd7 ct7), sl7⟩) (c7 : PySem.W.codeIn K cd7 "_law_cell" = true) (k7 : PySem.W.keepIn K (.ref f7) = true)
    {f8 : Addr} {od8 an8 : Option Addr} {sl8 : Array (Option Value)} {oc8 kV8 dc8 pm8 cd8 ct8 : Value}
    (a8 : PySem.W.nsIn K mainGlobals "_law_deck" = some (some (.ref f8))) (l8 : K.lookup f8 = some ⟨oc8, od8, .func (PySem.W.fnOf "_law_deck" "_law_deck" (defArgs s_law_deck) (defBody s_law_deck) (defScope s_law_deck) .none kV8 dc8 pm8 an8 cd8 ct8), sl8⟩) (c8 : PySem.W.codeIn K cd8 "_law_deck" = true) (k8 : PySem.W.keepIn K (.ref f8) = true)
    {f9 : Addr} {od9 an9 : Option Addr} {sl9 : Array (Option Value)} {oc9 kV9 dc9 pm9 cd9 ct9 : Value}
    (a9 : PySem.W.nsIn K mainGlobals "_law_take" = some (some (.ref f9))) (l9 : K.lookup f9 = some ⟨oc9, od9, .func (PySem.W.fnOf "_law_take" "_law_take" (defArgs s_law_take) (defBody s_law_take) (defScope s_law_take) .none kV9 dc9 pm9 an9 cd9 ct9), sl9⟩) (c9 : PySem.W.codeIn K cd9 "_law_take" = true) (k9 : PySem.W.keepIn K (.ref f9) = true)
    {f10 : Addr} {od10 an10 : Option Addr} {sl10 : Array (Option Value)} {oc10 kV10 dc10 pm10 cd10 ct10 : Value}
    (a10 : PySem.W.nsIn K mainGlobals "_law_pick" = some (some (.ref f10))) (l10 : K.lookup f10 = some ⟨oc10, od10, .func (PySem.W.fnOf "_law_pick" "_law_pick" (defArgs s_law_pick) (defBody s_law_pick) (defScope s_law_pick) .none kV10 dc10 pm10 an10 cd10 ct10), sl10⟩) (c10 : PySem.W.codeIn K cd10 "_law_pick" = true) (k10 : PySem.W.keepIn K (.ref f10) = true)
    {f11 : Addr} {od11 an11 : Option Addr} {sl11 : Array (Option Value)} {oc11 kV11 dc11 pm11 cd11 ct11 : Value}
    (a11 : PySem.W.nsIn K mainGlobals "_law_names" = some (some (.ref f11))) (l11 : K.lookup f11 = some ⟨oc11, od11, .func (PySem.W.fnOf "_law_names" "_law_names" (defArgs s_law_names) (defBody s_law_names) (defScope s_law_names) .none kV11 dc11 pm11 an11 cd11 ct11), sl11⟩) (c11 : PySem.W.codeIn K cd11 "_law_names" = true) (k11 : PySem.W.keepIn K (.ref f11) = true)
    {f12 : Addr} {od12 an12 : Option Addr} {sl12 : Array (Option Value)} {oc12 kV12 dc12 pm12 cd12 ct12 : Value}
    (a12 : PySem.W.nsIn K mainGlobals "_law_words" = some (some (.ref f12))) (l12 : K.lookup f12 = some ⟨oc12, od12, .func (PySem.W.fnOf "_law_words" "_law_words" (defArgs s_law_words) (defBody s_law_words) (defScope s_law_words) .none kV12 dc12 pm12 an12 cd12 ct12), sl12⟩) (c12 : PySem.W.codeIn K cd12 "_law_words" = true) (k12 : PySem.W.keepIn K (.ref f12) = true)
    {f13 : Addr} {od13 an13 : Option Addr} {sl13 : Array (Option Value)} {oc13 kV13 dc13 pm13 cd13 ct13 : Value}
    (a13 : PySem.W.nsIn K mainGlobals "_law_turn" = some (some (.ref f13))) (l13 : K.lookup f13 = some ⟨oc13, od13, .func (PySem.W.fnOf "_law_turn" "_law_turn" (defArgs s_law_turn) (defBody s_law_turn) (defScope s_law_turn) .none kV13 dc13 pm13 an13 cd13 ct13), sl13⟩) (c13 : PySem.W.codeIn K cd13 "_law_turn" = true) (k13 : PySem.W.keepIn K (.ref f13) = true)
    {f14 : Addr} {od14 an14 : Option Addr} {sl14 : Array (Option Value)} {oc14 kV14 dc14 pm14 cd14 ct14 : Value}
    (a14 : PySem.W.nsIn K mainGlobals "_law_sort" = some (some (.ref f14))) (l14 : K.lookup f14 = some ⟨oc14, od14, .func (PySem.W.fnOf "_law_sort" "_law_sort" (defArgs s_law_sort) (defBody s_law_sort) (defScope s_law_sort) .none kV14 dc14 pm14 an14 cd14 ct14), sl14⟩) (c14 : PySem.W.codeIn K cd14 "_law_sort" = true) (k14 : PySem.W.keepIn K (.ref f14) = true)
    {f15 : Addr} {od15 an15 : Option Addr} {sl15 : Array (Option Value)} {oc15 kV15 dc15 pm15 cd15 ct15 : Value}
    (a15 : PySem.W.nsIn K mainGlobals "_law_rule" = some (some (.ref f15))) (l15 : K.lookup f15 = some ⟨oc15, od15, .func (PySem.W.fnOf "_law_rule" "_law_rule" (defArgs s_law_rule) (defBody s_law_rule) (defScope s_law_rule) .none kV15 dc15 pm15 an15 cd15 ct15), sl15⟩) (c15 : PySem.W.codeIn K cd15 "_law_rule" = true) (k15 : PySem.W.keepIn K (.ref f15) = true)
    {f16 : Addr} {od16 an16 : Option Addr} {sl16 : Array (Option Value)} {oc16 kV16 dc16 pm16 cd16 ct16 : Value}
    (a16 : PySem.W.nsIn K mainGlobals "_law_rules" = some (some (.ref f16))) (l16 : K.lookup f16 = some ⟨oc16, od16, .func (PySem.W.fnOf "_law_rules" "_law_rules" (defArgs s_law_rules) (defBody s_law_rules) (defScope s_law_rules) .none kV16 dc16 pm16 an16 cd16 ct16), sl16⟩) (c16 : PySem.W.codeIn K cd16 "_law_rules" = true) (k16 : PySem.W.keepIn K (.ref f16) = true)
    {f17 : Addr} {od17 an17 : Option Addr} {sl17 : Array (Option Value)} {oc17 kV17 dc17 pm17 cd17 ct17 : Value}
    (a17 : PySem.W.nsIn K mainGlobals "_law_line" = some (some (.ref f17))) (l17 : K.lookup f17 = some ⟨oc17, od17, .func (PySem.W.fnOf "_law_line" "_law_line" (defArgs s_law_line) (defBody s_law_line) (defScope s_law_line) .none kV17 dc17 pm17 an17 cd17 ct17), sl17⟩) (c17 : PySem.W.codeIn K cd17 "_law_line" = true) (k17 : PySem.W.keepIn K (.ref f17) = true)
    {f18 : Addr} {od18 an18 : Option Addr} {sl18 : Array (Option Value)} {oc18 kV18 dc18 pm18 cd18 ct18 : Value}
    (a18 : PySem.W.nsIn K mainGlobals "_law_lines" = some (some (.ref f18))) (l18 : K.lookup f18 = some ⟨oc18, od18, .func (PySem.W.fnOf "_law_lines" "_law_lines" (defArgs s_law_lines) (defBody s_law_lines) (defScope s_law_lines) .none kV18 dc18 pm18 an18 cd18 ct18), sl18⟩) (c18 : PySem.W.codeIn K cd18 "_law_lines" = true) (k18 : PySem.W.keepIn K (.ref f18) = true)
    {f19 : Addr} {od19 an19 : Option Addr} {sl19 : Array (Option Value)} {oc19 kV19 dc19 pm19 cd19 ct19 : Value}
    (a19 : PySem.W.nsIn K mainGlobals "_law_of_sort" = some (some (.ref f19))) (l19 : K.lookup f19 = some ⟨oc19, od19, .func (PySem.W.fnOf "_law_of_sort" "_law_of_sort" (defArgs s_law_of_sort) (defBody s_law_of_sort) (defScope s_law_of_sort) .none kV19 dc19 pm19 an19 cd19 ct19), sl19⟩) (c19 : PySem.W.codeIn K cd19 "_law_of_sort" = true) (k19 : PySem.W.keepIn K (.ref f19) = true)
    {f20 : Addr} {od20 an20 : Option Addr} {sl20 : Array (Option Value)} {oc20 kV20 dc20 pm20 cd20 ct20 : Value}
    (a20 : PySem.W.nsIn K mainGlobals "_law_pairs" = some (some (.ref f20))) (l20 : K.lookup f20 = some ⟨oc20, od20, .func (PySem.W.fnOf "_law_pairs" "_law_pairs" (defArgs s_law_pairs) (defBody s_law_pairs) (defScope s_law_pairs) .none kV20 dc20 pm20 an20 cd20 ct20), sl20⟩) (c20 : PySem.W.codeIn K cd20 "_law_pairs" = true) (k20 : PySem.W.keepIn K (.ref f20) = true)
    {f21 : Addr} {od21 an21 : Option Addr} {sl21 : Array (Option Value)} {oc21 kV21 dc21 pm21 cd21 ct21 : Value}
    (a21 : PySem.W.nsIn K mainGlobals "_law_is_so" = some (some (.ref f21))) (l21 : K.lookup f21 = some ⟨oc21, od21, .func (PySem.W.fnOf "_law_is_so" "_law_is_so" (defArgs s_law_is_so) (defBody s_law_is_so) (defScope s_law_is_so) .none kV21 dc21 pm21 an21 cd21 ct21), sl21⟩) (c21 : PySem.W.codeIn K cd21 "_law_is_so" = true) (k21 : PySem.W.keepIn K (.ref f21) = true)
    {f22 : Addr} {od22 an22 : Option Addr} {sl22 : Array (Option Value)} {oc22 kV22 dc22 pm22 cd22 ct22 : Value}
    (a22 : PySem.W.nsIn K mainGlobals "_law_missing" = some (some (.ref f22))) (l22 : K.lookup f22 = some ⟨oc22, od22, .func (PySem.W.fnOf "_law_missing" "_law_missing" (defArgs s_law_missing) (defBody s_law_missing) (defScope s_law_missing) .none kV22 dc22 pm22 an22 cd22 ct22), sl22⟩) (c22 : PySem.W.codeIn K cd22 "_law_missing" = true) (k22 : PySem.W.keepIn K (.ref f22) = true)
    {f23 : Addr} {od23 an23 : Option Addr} {sl23 : Array (Option Value)} {oc23 kV23 dc23 pm23 cd23 ct23 : Value}
    (a23 : PySem.W.nsIn K mainGlobals "_law_closed" = some (some (.ref f23))) (l23 : K.lookup f23 = some ⟨oc23, od23, .func (PySem.W.fnOf "_law_closed" "_law_closed" (defArgs s_law_closed) (defBody s_law_closed) (defScope s_law_closed) .none kV23 dc23 pm23 an23 cd23 ct23), sl23⟩) (c23 : PySem.W.codeIn K cd23 "_law_closed" = true) (k23 : PySem.W.keepIn K (.ref f23) = true)
    {f24 : Addr} {od24 an24 : Option Addr} {sl24 : Array (Option Value)} {oc24 kV24 dc24 pm24 cd24 ct24 : Value}
    (a24 : PySem.W.nsIn K mainGlobals "_law_breaks" = some (some (.ref f24))) (l24 : K.lookup f24 = some ⟨oc24, od24, .func (PySem.W.fnOf "_law_breaks" "_law_breaks" (defArgs s_law_breaks) (defBody s_law_breaks) (defScope s_law_breaks) .none kV24 dc24 pm24 an24 cd24 ct24), sl24⟩) (c24 : PySem.W.codeIn K cd24 "_law_breaks" = true) (k24 : PySem.W.keepIn K (.ref f24) = true)
    {f25 : Addr} {od25 an25 : Option Addr} {sl25 : Array (Option Value)} {oc25 kV25 dc25 pm25 cd25 ct25 : Value}
    (a25 : PySem.W.nsIn K mainGlobals "_law_is_right" = some (some (.ref f25))) (l25 : K.lookup f25 = some ⟨oc25, od25, .func (PySem.W.fnOf "_law_is_right" "_law_is_right" (defArgs s_law_is_right) (defBody s_law_is_right) (defScope s_law_is_right) .none kV25 dc25 pm25 an25 cd25 ct25), sl25⟩) (c25 : PySem.W.codeIn K cd25 "_law_is_right" = true) (k25 : PySem.W.keepIn K (.ref f25) = true)
    {f26 : Addr} {od26 an26 : Option Addr} {sl26 : Array (Option Value)} {oc26 kV26 dc26 pm26 cd26 ct26 : Value}
    (a26 : PySem.W.nsIn K mainGlobals "law" = some (some (.ref f26))) (l26 : K.lookup f26 = some ⟨oc26, od26, .func (PySem.W.fnOf "law" "law" (defArgs s_law) (defBody s_law) (defScope s_law) .none kV26 dc26 pm26 an26 cd26 ct26), sl26⟩) (c26 : PySem.W.codeIn K cd26 "law" = true) (k26 : PySem.W.keepIn K (.ref f26) = true)
    (z_abs : PySem.W.nsIn K mainGlobals "abs" = some none)
    (z_bool : PySem.W.nsIn K mainGlobals "bool" = some none)
    (z_enumerate : PySem.W.nsIn K mainGlobals "enumerate" = some none)
    (z_int : PySem.W.nsIn K mainGlobals "int" = some none)
    (z_isinstance : PySem.W.nsIn K mainGlobals "isinstance" = some none)
    (z_len : PySem.W.nsIn K mainGlobals "len" = some none)
    (z_list : PySem.W.nsIn K mainGlobals "list" = some none)
    (z_range : PySem.W.nsIn K mainGlobals "range" = some none)
    (z_tuple : PySem.W.nsIn K mainGlobals "tuple" = some none)
    : ∃ fd : FuncData, (∀ (s : Shared) (v : Value), BindsTo s fd ⟨[v], []⟩ [("script", v)]) ∧ ∀ base : Heap, K.In base → base.Ns mainGlobals mg → FnOk l.prog w K mg base CX0 8 fa fd ["script"] (spLaw K) := by
  have e := hfa.symm.trans (PySem.W.mg_of X G a26)
  cases e
  let T : Tx K mg := {
      d_sort_at := { f := f0, fd := _, fu := fun_mk l0 c0 k0, at_ := PySem.W.mg_of X G a0, b := (fun_mk (st := s_sort_at) l0 c0 k0).binds fun _ _ _ _ _ _ us hl => match us, hl with | [_, _], _ => rfl }
      d_members := { f := f1, fd := _, fu := fun_mk l1 c1 k1, at_ := PySem.W.mg_of X G a1, b := (fun_mk (st := s_members) l1 c1 k1).binds fun _ _ _ _ _ _ us hl => match us, hl with | [_], _ => rfl }
      d_pairs_of := { f := f2, fd := _, fu := fun_mk l2 c2 k2, at_ := PySem.W.mg_of X G a2, b := (fun_mk (st := s_pairs_of) l2 c2 k2).binds fun _ _ _ _ _ _ us hl => match us, hl with | [_, _], _ => rfl }
      d_sort_breach := { f := f3, fd := _, fu := fun_mk l3 c3 k3, at_ := PySem.W.mg_of X G a3, b := (fun_mk (st := s_sort_breach) l3 c3 k3).binds fun _ _ _ _ _ _ us hl => match us, hl with | [_, _], _ => rfl }
      d_pair_breach := { f := f4, fd := _, fu := fun_mk l4 c4 k4, at_ := PySem.W.mg_of X G a4, b := (fun_mk (st := s_pair_breach) l4 c4 k4).binds fun _ _ _ _ _ _ us hl => match us, hl with | [_, _], _ => rfl }
      d_breach := { f := f5, fd := _, fu := fun_mk l5 c5 k5, at_ := PySem.W.mg_of X G a5, b := (fun_mk (st := s_breach) l5 c5 k5).binds fun _ _ _ _ _ _ us hl => match us, hl with | [_, _], _ => rfl }
      d_keeps := { f := f6, fd := _, fu := fun_mk l6 c6 k6, at_ := PySem.W.mg_of X G a6, b := (fun_mk (st := s_keeps) l6 c6 k6).binds fun _ _ _ _ _ _ us hl => match us, hl with | [_, _], _ => rfl }
      d_law_cell := { f := f7, fd := _, fu := fun_mk l7 c7 k7, at_ := PySem.W.mg_of X G a7, b := (fun_mk (st := s_law_cell) l7 c7 k7).binds fun _ _ _ _ _ _ us hl => match us, hl with | [_, _], _ => rfl }
      d_law_deck := { f := f8, fd := _, fu := fun_mk l8 c8 k8, at_ := PySem.W.mg_of X G a8, b := (fun_mk (st := s_law_deck) l8 c8 k8).binds fun _ _ _ _ _ _ us hl => match us, hl with | [_], _ => rfl }
      d_law_take := { f := f9, fd := _, fu := fun_mk l9 c9 k9, at_ := PySem.W.mg_of X G a9, b := (fun_mk (st := s_law_take) l9 c9 k9).binds fun _ _ _ _ _ _ us hl => match us, hl with | [_, _], _ => rfl }
      d_law_pick := { f := f10, fd := _, fu := fun_mk l10 c10 k10, at_ := PySem.W.mg_of X G a10, b := (fun_mk (st := s_law_pick) l10 c10 k10).binds fun _ _ _ _ _ _ us hl => match us, hl with | [_, _], _ => rfl }
      d_law_names := { f := f11, fd := _, fu := fun_mk l11 c11 k11, at_ := PySem.W.mg_of X G a11, b := (fun_mk (st := s_law_names) l11 c11 k11).binds fun _ _ _ _ _ _ us hl => match us, hl with | [_, _], _ => rfl }
      d_law_words := { f := f12, fd := _, fu := fun_mk l12 c12 k12, at_ := PySem.W.mg_of X G a12, b := (fun_mk (st := s_law_words) l12 c12 k12).binds fun _ _ _ _ _ _ us hl => match us, hl with | [_], _ => rfl }
      d_law_turn := { f := f13, fd := _, fu := fun_mk l13 c13 k13, at_ := PySem.W.mg_of X G a13, b := (fun_mk (st := s_law_turn) l13 c13 k13).binds fun _ _ _ _ _ _ us hl => match us, hl with | [_, _], _ => rfl }
      d_law_sort := { f := f14, fd := _, fu := fun_mk l14 c14 k14, at_ := PySem.W.mg_of X G a14, b := (fun_mk (st := s_law_sort) l14 c14 k14).binds fun _ _ _ _ _ _ us hl => match us, hl with | [_, _], _ => rfl }
      d_law_rule := { f := f15, fd := _, fu := fun_mk l15 c15 k15, at_ := PySem.W.mg_of X G a15, b := (fun_mk (st := s_law_rule) l15 c15 k15).binds fun _ _ _ _ _ _ us hl => match us, hl with | [_, _], _ => rfl }
      d_law_rules := { f := f16, fd := _, fu := fun_mk l16 c16 k16, at_ := PySem.W.mg_of X G a16, b := (fun_mk (st := s_law_rules) l16 c16 k16).binds fun _ _ _ _ _ _ us hl => match us, hl with | [_, _, _], _ => rfl }
      d_law_line := { f := f17, fd := _, fu := fun_mk l17 c17 k17, at_ := PySem.W.mg_of X G a17, b := (fun_mk (st := s_law_line) l17 c17 k17).binds fun _ _ _ _ _ _ us hl => match us, hl with | [_, _, _], _ => rfl }
      d_law_lines := { f := f18, fd := _, fu := fun_mk l18 c18 k18, at_ := PySem.W.mg_of X G a18, b := (fun_mk (st := s_law_lines) l18 c18 k18).binds fun _ _ _ _ _ _ us hl => match us, hl with | [_, _, _, _], _ => rfl }
      d_law_of_sort := { f := f19, fd := _, fu := fun_mk l19 c19 k19, at_ := PySem.W.mg_of X G a19, b := (fun_mk (st := s_law_of_sort) l19 c19 k19).binds fun _ _ _ _ _ _ us hl => match us, hl with | [_, _], _ => rfl }
      d_law_pairs := { f := f20, fd := _, fu := fun_mk l20 c20 k20, at_ := PySem.W.mg_of X G a20, b := (fun_mk (st := s_law_pairs) l20 c20 k20).binds fun _ _ _ _ _ _ us hl => match us, hl with | [_, _], _ => rfl }
      d_law_is_so := { f := f21, fd := _, fu := fun_mk l21 c21 k21, at_ := PySem.W.mg_of X G a21, b := (fun_mk (st := s_law_is_so) l21 c21 k21).binds fun _ _ _ _ _ _ us hl => match us, hl with | [_, _], _ => rfl }
      d_law_missing := { f := f22, fd := _, fu := fun_mk l22 c22 k22, at_ := PySem.W.mg_of X G a22, b := (fun_mk (st := s_law_missing) l22 c22 k22).binds fun _ _ _ _ _ _ us hl => match us, hl with | [_, _, _, _], _ => rfl }
      d_law_closed := { f := f23, fd := _, fu := fun_mk l23 c23 k23, at_ := PySem.W.mg_of X G a23, b := (fun_mk (st := s_law_closed) l23 c23 k23).binds fun _ _ _ _ _ _ us hl => match us, hl with | [_, _, _, _], _ => rfl }
      d_law_breaks := { f := f24, fd := _, fu := fun_mk l24 c24 k24, at_ := PySem.W.mg_of X G a24, b := (fun_mk (st := s_law_breaks) l24 c24 k24).binds fun _ _ _ _ _ _ us hl => match us, hl with | [_, _, _], _ => rfl }
      d_law_is_right := { f := f25, fd := _, fu := fun_mk l25 c25 k25, at_ := PySem.W.mg_of X G a25, b := (fun_mk (st := s_law_is_right) l25 c25 k25).binds fun _ _ _ _ _ _ us hl => match us, hl with | [_, _], _ => rfl }
      z_abs := PySem.W.mg_none_of X G z_abs
      z_bool := PySem.W.mg_none_of X G z_bool
      z_enumerate := PySem.W.mg_none_of X G z_enumerate
      z_int := PySem.W.mg_none_of X G z_int
      z_isinstance := PySem.W.mg_none_of X G z_isinstance
      z_len := PySem.W.mg_none_of X G z_len
      z_list := PySem.W.mg_none_of X G z_list
      z_range := PySem.W.mg_none_of X G z_range
      z_tuple := PySem.W.mg_none_of X G z_tuple }
  exact ⟨_, fun s v => .of_eq rfl, fun base _ _ => ok_law T (fun_mk l26 c26 k26) LT⟩
end Y
open PySem PySem.W PyProof.Rows
set_option maxHeartbeats 0 in
theorem PySem.Challenge.cw_ledquestions_k44_keeps_and_breach_holds : PySem.Challenge.rw_ledquestions_k44_keeps_and_breach.Holds := by
  w_on; o_law; k_head; (case hw => w_witness2)
  k_fill
  refine L2.walk_of (l := PySem.Challenge.rw_ledquestions_k44_keeps_and_breach) (n := 63) (k := 8) (x := "script") (CX := fun _ => L2.CX0) (sp := fun w => Z.spLaw _) rfl (by decide) rfl ⟨rfl, by decide, by decide⟩ (fun w h Y => PySem.W.kIn_of Y) ?F (fun _ _ a ns hl _ hS => ⟨a, ns, rfl, hS, hl, fun _ => rfl⟩) (fun _ _ _ _ _ h => h)
  case F =>
    intro w mg fa h KX G hmg
    refine' Y.all_mk KX G hmg Y.law_true ?a0 ?l0 ?c0 ?k0 ?a1 ?l1 ?c1 ?k1 ?a2 ?l2 ?c2 ?k2 ?a3 ?l3 ?c3 ?k3 ?a4 ?l4 ?c4 ?k4 ?a5 ?l5 ?c5 ?k5 ?a6 ?l6 ?c6 ?k6 ?a7 ?l7 ?c7 ?k7 ?a8 ?l8 ?c8 ?k8 ?a9 ?l9 ?c9 ?k9 ?a10 ?l10 ?c10 ?k10 ?a11 ?l11 ?c11 ?k11 ?a12 ?l12 ?c12 ?k12 ?a13 ?l13 ?c13 ?k13 ?a14 ?l14 ?c14 ?k14 ?a15 ?l15 ?c15 ?k15 ?a16 ?l16 ?c16 ?k16 ?a17 ?l17 ?c17 ?k17 ?a18 ?l18 ?c18 ?k18 ?a19 ?l19 ?c19 ?k19 ?a20 ?l20 ?c20 ?k20 ?a21 ?l21 ?c21 ?k21 ?a22 ?l22 ?c22 ?k22 ?a23 ?l23 ?c23 ?k23 ?a24 ?l24 ?c24 ?k24 ?a25 ?l25 ?c25 ?k25 ?a26 ?l26 ?c26 ?k26 ?z_abs ?z_bool ?z_enumerate ?z_int ?z_isinstance ?z_len ?z_list ?z_range ?z_tuple
    (case a0 => k_is)
    (case l0 => k_is)
    (case c0 => k_is)
    (case k0 => k_is)
    (case a1 => k_is)
    (case l1 => k_is)
    (case c1 => k_is)
    (case k1 => k_is)
    (case a2 => k_is)
    (case l2 => k_is)
    (case c2 => k_is)
    (case k2 => k_is)
    (case a3 => k_is)
    (case l3 => k_is)
    (case c3 => k_is)
    (case k3 => k_is)
    (case a4 => k_is)
    (case l4 => k_is)
    (case c4 => k_is)
    (case k4 => k_is)
    (case a5 => k_is)
    (case l5 => k_is)
    (case c5 => k_is)
    (case k5 => k_is)
    (case a6 => k_is)
    (case l6 => k_is)
    (case c6 => k_is)
    (case k6 => k_is)
    (case a7 => k_is)
    (case l7 => k_is)
    (case c7 => k_is)
    (case k7 => k_is)
    (case a8 => k_is)
    (case l8 => k_is)
    (case c8 => k_is)
    (case k8 => k_is)
    (case a9 => k_is)
    (case l9 => k_is)
    (case c9 => k_is)
    (case k9 => k_is)
    (case a10 => k_is)
    (case l10 => k_is)
    (case c10 => k_is)
    (case k10 => k_is)
    (case a11 => k_is)
    (case l11 => k_is)
    (case c11 => k_is)
    (case k11 => k_is)
    (case a12 => k_is)
    (case l12 => k_is)
    (case c12 => k_is)
    (case k12 => k_is)
    (case a13 => k_is)
    (case l13 => k_is)
    (case c13 => k_is)
    (case k13 => k_is)
    (case a14 => k_is)
    (case l14 => k_is)
    (case c14 => k_is)
    (case k14 => k_is)
    (case a15 => k_is)
    (case l15 => k_is)
    (case c15 => k_is)
    (case k15 => k_is)
    (case a16 => k_is)
    (case l16 => k_is)
    (case c16 => k_is)
    (case k16 => k_is)
    (case a17 => k_is)
    (case l17 => k_is)
    (case c17 => k_is)
    (case k17 => k_is)
    (case a18 => k_is)
    (case l18 => k_is)
    (case c18 => k_is)
    (case k18 => k_is)
    (case a19 => k_is)
    (case l19 => k_is)
    (case c19 => k_is)
    (case k19 => k_is)
    (case a20 => k_is)
    (case l20 => k_is)
    (case c20 => k_is)
    (case k20 => k_is)
    (case a21 => k_is)
    (case l21 => k_is)
    (case c21 => k_is)
    (case k21 => k_is)
    (case a22 => k_is)
    (case l22 => k_is)
    (case c22 => k_is)
    (case k22 => k_is)
    (case a23 => k_is)
    (case l23 => k_is)
    (case c23 => k_is)
    (case k23 => k_is)
    (case a24 => k_is)
    (case l24 => k_is)
    (case c24 => k_is)
    (case k24 => k_is)
    (case a25 => k_is)
    (case l25 => k_is)
    (case c25 => k_is)
    (case k25 => k_is)
    (case a26 => k_is)
    (case l26 => k_is)
    (case c26 => k_is)
    (case k26 => k_is)
    (case z_abs => k_is)
    (case z_bool => k_is)
    (case z_enumerate => k_is)
    (case z_int => k_is)
    (case z_isinstance => k_is)
    (case z_len => k_is)
    (case z_list => k_is)
    (case z_range => k_is)
    (case z_tuple => k_is)
