import PyProof.Rows.All
import Wide.All
import OpenK.AllK
import Wide.FinOn
import HandS.ForMost
import HandS.ForExc
import HandS.More
import HandS.Flow
import HandS.IsInst
import HandS.CallSlots
import HandS.Style
import HandS.Strs
import HandS.Wide
import HandS.WideBits
import HandS.Defaults
import HandS.TupAny
import HandS.TupMul
import HandS.Deep
import HandS.RaiseMore
import HandS.FStr
import HandS.NoneIn
import HandS.Exc
import HandS.Zip
import PyProof.CollectIter
import PyProof.TupleIter
import KE.GoesEnumKw
import HandS.Zip0
import HandS.TryOnly
import HandS.ExcOwn
import HandS.HotCalls
import HandS.HeadHook1
import HandS.HeadHook2
import HandS.HeadHook3
import HandS.Ends
import HandS.EndBits
import HandS.Head0
import HandS.Head1
import HandS.Head2
import HandS.HeadEnd
import KE.KStateDown
import HandS.ExcIs
import HandS.ExcInitHot
import HandS.Text
import PyProof.StrLawsRepr
import PySem.Challenge.RW_wallseal_k15_form_texts_spoilt
set_option Elab.async false
/-! EvA: values, results, the language and its meaning. Plain Lean; nothing of the machine stands here. -/
set_option autoImplicit false
set_option linter.all false
namespace Ev
abbrev Txt := List Nat
abbrev SZ : Nat := 16777216

inductive D where
  | non | bl (b : Bool) | int (i : Int) | str (x : Txt)
  | tup (xs : List D) | lst (xs : List D) | dic (kvs : List (D × D))
  | ref (n : Nat)
  /-- the law's own argument -/
  | scr (ns : List Int)
  deriving Inhabited

/-- an exception: the class's number, its fields -/
structure Exn where
  c : Nat
  fs : List (Txt × D)

/-- a slot: a thing that stays, or a list that is the slot's own, or a caught exception -/
inductive SV where
  | fz (d : D) | ow (xs : List D) | ex (x : Exn)
abbrev Env := List (Option SV)
inductive Cell where
  | lst (xs : List D)
abbrev Sto := List Cell

inductive Res (α : Type) where
  | ok (a : α) (ρ : Env) (S : Sto)
  | exc (x : Exn) (ρ : Env) (S : Sto)
  | bad
def M (α : Type) : Type := Env → Sto → Res α
/-- a call's end -/
inductive CR where
  | ok (d : D) (S : Sto)
  | exc (x : Exn) (S : Sto)
  | bad
abbrev Call := Nat → List D → Sto → CR

def Res.bind {α β : Type} (r : Res α) (f : α → M β) : Res β :=
  match r with
  | .ok a ρ S => f a ρ S
  | .exc x ρ S => .exc x ρ S
  | .bad => .bad
def M.bind {α β : Type} (m : M α) (f : α → M β) : M β := fun ρ S => (m ρ S).bind f
def M.pure {α : Type} (a : α) : M α := fun ρ S => .ok a ρ S
def M.bad {α : Type} : M α := fun _ _ => .bad
def M.of {α : Type} (o : Option α) : M α := fun ρ S => match o with | some a => .ok a ρ S | none => .bad

/-! ### == -/
mutual
def D.eqb : D → D → Bool
  | .non, .non => true
  | .bl a, .bl b => a == b
  | .bl a, .int j => (if a then 1 else 0) == j
  | .int i, .bl b => i == (if b then 1 else 0)
  | .int i, .int j => i == j
  | .str x, .str y => x == y
  | .lst xs, .lst ys => D.eqbs xs ys
  | .tup xs, .tup ys => D.eqbs xs ys
  | _, _ => false
def D.eqbs : List D → List D → Bool
  | [], [] => true
  | x :: xs, y :: ys => D.eqb x y && D.eqbs xs ys
  | _, _ => false
end
mutual
/-- None, truths, numbers, texts, lists and tuples of such, to so many deep -/
def D.plain : Nat → D → Bool
  | _, .non => true
  | _, .bl _ => true
  | _, .int _ => true
  | _, .str x => x.all fun k => decide (k < 1114112)
  | n + 1, .tup xs => D.plains n xs
  | n + 1, .lst xs => D.plains n xs
  | _, _ => false
def D.plains : Nat → List D → Bool
  | _, [] => true
  | n, x :: xs => D.plain n x && D.plains n xs
end
/-- neither a tuple nor a list nor a dict -/
def D.flat : D → Bool
  | .non => true | .bl _ => true | .int _ => true | .str _ => true | _ => false

def D.isNon : D → Bool
  | .non => true | _ => false
/-! ### the operators by values -/
inductive Bop where | add | sub | mul | mod | fdv | pow | shl
inductive Cop where | eq | ne | lt | le | gt | ge | is_ | nis | in_ | nin
def big64 : Int := 18446744073709551616
def reps {α : Type} (xs : List α) (n : Nat) : List α := (List.replicate n xs).flatten
def bop : Bop → D → D → Option D
  | .add, .int i, .int j => some (.int (i + j))
  | .add, .str x, .str y => if x.length + y.length ≤ SZ then some (.str (x ++ y)) else none
  | .add, .tup xs, .tup ys => if xs.length ≤ SZ ∧ ys.length ≤ SZ ∧ xs.length + ys.length ≤ SZ then some (.tup (xs ++ ys)) else none
  | .add, .lst xs, .lst ys => if xs.length + ys.length ≤ SZ then some (.lst (xs ++ ys)) else none
  | .sub, .int i, .int j => some (.int (i - j))
  | .mul, .int i, .int j => if (-big64 < i ∧ i < big64) ∨ (-big64 < j ∧ j < big64) then some (.int (i * j)) else none
  | .mul, .lst xs, .int k => if -(2 ^ 63) ≤ k ∧ k < 2 ^ 63 ∧ xs.length * k.toNat ≤ SZ then some (.lst (reps xs k.toNat)) else none
  | .mul, .tup xs, .int k => if xs ≠ [] ∧ 1 ≤ k ∧ k ≤ 1000 ∧ xs.length ≤ 1000 then some (.tup (reps xs k.toNat)) else none
  | .mod, .int i, .int j => if 0 < j then some (.int (i % j)) else none
  | .fdv, .int i, .int j => if 0 < j ∧ j < 1073741824 then some (.int (i / j)) else none
  | .pow, .int i, .int j => if 0 ≤ j ∧ j ≤ 1000000 ∧ i.natAbs < 2 ^ 64 then some (.int (i ^ j.toNat)) else none
  | .shl, .int i, .int j => if 0 ≤ j ∧ j ≤ 1000000 ∧ i.natAbs < 2 ^ 64 then some (.int (i * 2 ^ j.toNat)) else none
  | .mul, .str x, .int k => if x ≠ [] ∧ 2 ≤ k ∧ k ≤ 1000 ∧ x.length ≤ 1000 then some (.str (reps x k.toNat)) else none
  | _, _, _ => none
def dget (k : D) : List (D × D) → Option D
  | [] => none
  | (j, v) :: r => if D.eqb j k then some v else dget k r
/-- x == y, where both are plain -/
def eqo : D → D → Option Bool
  | .str x, .str y => some (x == y)
  | .int i, .int j => some (i == j)
  | .bl a, .bl b => some (a == b)
  | x, y => if D.plain 60 x && D.plain 60 y then some (D.eqb x y) else none
def inOk (x : D) (ys : List D) : Bool := (D.flat x && ys.all D.flat) || (D.plain 60 x && D.plains 60 ys)
def cop : Cop → D → D → Option Bool
  | .eq, x, y => eqo x y
  | .ne, x, y => (eqo x y).map (!·)
  | .lt, .int i, .int j => some (decide (i < j))
  | .lt, .str x, .str y => some (decide (x < y))
  | .le, .int i, .int j => some (decide (i ≤ j))
  | .gt, .int i, .int j => some (decide (j < i))
  | .ge, .int i, .int j => some (decide (j ≤ i))
  | .is_, x, .non => some (D.isNon x)
  | .nis, x, .non => some (!D.isNon x)
  | .is_, .bl a, .bl b => some (a == b)
  | .nis, .bl a, .bl b => some (!(a == b))
  | .in_, .str [k], .str y => some (decide (k ∈ y))
  | .nin, .str [k], .str y => some (!decide (k ∈ y))
  | .in_, x, .tup ys => if inOk x ys then some (ys.any fun y => D.eqb y x) else none
  | .nin, x, .tup ys => if inOk x ys then some (!ys.any fun y => D.eqb y x) else none
  | .in_, x, .lst ys => if inOk x ys then some (ys.any fun y => D.eqb y x) else none
  | .nin, x, .lst ys => if inOk x ys then some (!ys.any fun y => D.eqb y x) else none
  | .in_, .str x, .dic (p :: kvs) => some (dget (.str x) (p :: kvs)).isSome
  | .nin, .str x, .dic (p :: kvs) => some (!(dget (.str x) (p :: kvs)).isSome)
  | _, _, _ => none
def truth : D → Option Bool
  | .non => some false
  | .bl b => some b
  | .int i => some (decide (i ≠ 0))
  | .str x => if x.length ≤ SZ then some (!x.isEmpty) else none
  | .tup xs => some (!xs.isEmpty)
  | .lst xs => some (!xs.isEmpty)
  | .dic _ => none
  | .ref _ => none
  | .scr _ => none
/-- the item at a place of either sign -/
def atI {α : Type} (xs : List α) (i : Int) : Option α := if 0 ≤ i then xs[i.toNat]? else if 0 ≤ i + xs.length then xs[(i + xs.length).toNat]? else none
/-- a slice's end, within a length -/
def sIx (n d : Nat) : Option Int → Nat
  | none => d
  | some v => if v < 0 then (v + (n : Int)).toNat else min v.toNat n
def cut {α : Type} (xs : List α) (lo hi : Option Int) : List α := (xs.drop (sIx xs.length 0 lo)).take (sIx xs.length xs.length hi - sIx xs.length 0 lo)
def index : D → D → Option D
  | .scr ns, .int i => (atI ns i).map D.int
  | .tup xs, .int i => atI xs i
  | .lst xs, .int i => atI xs i
  | .str x, .int i => if x.length ≤ SZ then (atI x i).map fun c => .str [c] else none
  | .dic (p :: kvs), .str k => dget (.str k) (p :: kvs)
  | _, _ => none
def slice : D → Option Int → Option Int → Option D
  | .tup xs, lo, hi => some (.tup (cut xs lo hi))
  | .lst xs, lo, hi => some (.lst (cut xs lo hi))
  | .str x, lo, hi => if x.length ≤ SZ then some (.str (cut x lo hi)) else none
  | _, _, _ => none
def blsOf : List D → Option (List Bool)
  | [] => some []
  | .bl b :: r => (blsOf r).map (b :: ·)
  | _ :: _ => none
def intsOf : List D → Option (List Int)
  | [] => some []
  | .int b :: r => (intsOf r).map (b :: ·)
  | _ :: _ => none
def txtsOf : List D → Option (List Txt)
  | [] => some []
  | .str b :: r => (txtsOf r).map (b :: ·)
  | _ :: _ => none
def intTxt (i : Int) : Txt := (toString i).toList.map Char.toNat
def joinT (sep : Txt) : List Txt → Txt
  | [] => []
  | [x] => x
  | x :: y :: r => x ++ sep ++ joinT sep (y :: r)
def joinLen (n : Nat) : List Txt → Nat
  | [] => 0
  | x :: r => x.length + n + joinLen n r
/-- the first place -/
def findD (x : D) : List D → Nat → Option Nat
  | [], _ => none
  | y :: r, k => if D.eqb y x then some k else findD x r (k + 1)
inductive Bi where
  | len | abs | max2 | min2 | max1 | all | any | tuple | str | int | divmod | sum | repr | list
/-- built-ins that make no list -/
def bip (shown : D → Option Txt) : Bi → List D → Option D
  | .len, [.str x] => if x.length ≤ SZ then some (.int x.length) else none
  | .len, [.tup xs] => some (.int xs.length)
  | .len, [.lst xs] => some (.int xs.length)
  | .len, [.scr ns] => some (.int ns.length)
  | .abs, [.int i] => some (.int (if i < 0 then -i else i))
  | .max2, [.int i, .int j] => some (.int (if j > i then j else i))
  | .min2, [.int i, .int j] => some (.int (if j < i then j else i))
  | .max1, [.lst xs] => (intsOf xs).bind fun | [] => none | i :: r => some (.int (r.foldl max i))
  | .all, [.lst xs] => (blsOf xs).map fun bs => .bl (bs.all id)
  | .any, [.lst xs] => (blsOf xs).map fun bs => .bl (bs.any id)
  | .tuple, [.tup xs] => some (.tup xs)
  | .tuple, [.lst xs] => some (.tup xs)
  | .str, [.int i] => if i.natAbs.log2 < 1920 then some (.str (intTxt i)) else none
  | .str, [.str x] => some (.str x)
  | .int, [.int i] => some (.int i)
  | .int, [.bl b] => some (.int (if b then 1 else 0))
  | .divmod, [.int i, .int j] => if 0 < j ∧ j.natAbs.log2 < 9000 then some (.tup [.int (i / j), .int (i % j)]) else none
  | .sum, [.lst xs] => (intsOf xs).map fun is => .int is.sum
  | .repr, [x] => (shown x).map .str
  | _, _ => none
inductive Mt where
  | join | index | count | replace
def mtp : Mt → D → List D → Option D
  | .join, .str sep, [.lst xs] => (txtsOf xs).bind fun (ts : List Txt) => if joinLen sep.length ts ≤ SZ then some (.str (joinT sep ts)) else none
  | .index, .lst xs, [x] => if D.flat x && xs.all D.flat then (findD x xs 0).map (fun (k : Nat) => D.int (k : Int)) else none
  | .index, .tup xs, [.str x] => (txtsOf xs).bind fun _ => (findD (.str x) xs 0).map (fun (k : Nat) => D.int (k : Int))
  | .count, .lst xs, [x] => if D.plain 60 x && D.plain 60 (.lst xs) then some (.int (xs.countP fun y => D.eqb y x)) else none
  | _, _, _ => none
/-- the built-in types that isinstance is asked of -/
inductive Ty where | str | tuple | list | int | bool | dict
def isTy : Ty → D → Option Bool
  | _, .ref _ => none
  | _, .scr _ => none
  | .str, .str _ => some true
  | .tuple, .tup _ => some true
  | .list, .lst _ => some true
  | .int, .int _ => some true
  | .int, .bl _ => some true
  | .bool, .bl _ => some true
  | .dict, .dic _ => some true
  | _, _ => some false

/-! ### the language -/
mutual
inductive IE where
  | var (i : Nat)
  | cst (d : D)
  /-- a module's constant: its name in the text, its value -/
  | glo (nm : Txt) (d : D)
  | tup (es : IL) | lst (es : IL) | dct0
  /-- a list that others may change: a cell -/
  | cel (es : IL)
  | bin (o : Bop) (a b : IE) | neg (a : IE)
  | cmp (o : Cop) (a b : IE) | chn (o p : Cop) (a b c : IE)
  | andS (es : IL) | orS (es : IL) | notE (a : IE)
  | ite (t a b : IE)
  | idx (a i : IE) | slc (a : IE) (lo hi : Option IE) | revT (a : IE)
  | call (f : Nat) (es : IL)
  /-- a call by names: positional values, named values; of each parameter: the place of its value, or a default -/
  | calk (f : Nat) (es ks : IL) (src : List (Sum Nat D))
  | bi (b : Bi) (es : IL)
  | mt (m : Mt) (o : IE) (es : IL)
  | isi (a : IE) (ts : List Ty)
  /-- isinstance of a caught exception's name, against classes of one's own, or a built-in one -/
  | isx (i : Nat) (cs : List Nat)
  | comp (own : List Nat) (elt : IE) (tg : IT) (it : II) (cs : IL)
  | fstr (es : IL)
inductive IL where
  | nil | cons (e : IE) (es : IL)
/-- targets -/
inductive IT where
  | nm (i : Nat) | tp (ts : ITs) | ix (o i : IE)
inductive ITs where
  | nil | cons (t : IT) (ts : ITs) | star (i : Nat) (ts : ITs)
/-- what is walked -/
inductive II where
  | sq (e : IE) | rng (e : IE) | rng2 (a b : IE) | zip (strict : Bool) (a b : IE) | enum (e : IE)
end
inductive IH where
  | mk (cs : List Nat) (nm : Option Nat)
mutual
inductive IS where
  | asg (t : IT) (e : IE)
  /-- name = a new list, the slot's own from then on -/
  | own (i : Nat) (e : IE)
  | app (i : Nat) (e : IE)
  | aug (i : Nat) (o : Bop) (e : IE)
  | ex (e : IE)
  | ret (e : IE) | retN
  | ifS (t : IE) (a b : ISs)
  | forS (t : IT) (it : II) (b : ISs)
  | whl (t : IE) (b : ISs)
  | brk | cnt | pas
  | rai (c : Nat) (es : IL)
  | tri (b : ISs) (hs : IHs)
inductive ISs where
  | nil | cons (s : IS) (r : ISs)
inductive IHs where
  | nil | cons (cs : List Nat) (nm : Option Nat) (b : ISs) (r : IHs)
end

/-! ### the meaning -/
inductive Flow where
  | nx | br | ct | rt (d : D)
/-- what stands around: calls by number; repr; which class is (under) which; the most turns of a while -/
structure Prm where
  call : Call
  shown : D → Option Txt
  sub : Nat → Nat → Bool
  flds : Nat → List Txt
  fuel : Nat

def mVar (i : Nat) : M D := fun ρ S => match ρ[i]? with
  | some (some (.fz d)) => .ok d ρ S
  | some (some (.ow xs)) => .ok (.lst xs) (ρ.set i (some (.fz (.lst xs)))) S
  | _ => .bad
/-- a name looked at only -/
def mBor (i : Nat) : M D := fun ρ S => match ρ[i]? with
  | some (some (.fz d)) => .ok d ρ S
  | some (some (.ow xs)) => .ok (.lst xs) ρ S
  | _ => .bad
def mSet (i : Nat) (d : D) : M Unit := fun ρ S => if i < ρ.length then .ok () (ρ.set i (some (.fz d))) S else .bad
def mOwn (i : Nat) (xs : List D) : M Unit := fun ρ S => if i < ρ.length then .ok () (ρ.set i (some (.ow xs))) S else .bad
def mCall (P : Prm) (f : Nat) (ds : List D) : M D := fun ρ S => match P.call f ds S with
  | .ok d S' => .ok d ρ S'
  | .exc x S' => .exc x ρ S'
  | .bad => .bad
def mCell (ds : List D) : M D := fun ρ S => .ok (.ref S.length) ρ (S ++ [.lst ds])
def mTruth (d : D) : M Bool := M.of (truth d)
def mIdx (x i : D) : M D := fun ρ S => match x with
  | .ref n => (match S[n]?, i with
    | some (.lst xs), .int k => (match atI xs k with | some d => .ok d ρ S | none => .bad)
    | _, _ => .bad)
  | _ => M.of (index x i) ρ S
def mPut (x i v : D) : M Unit := fun ρ S => match x, i with
  | .ref n, .int k => (match S[n]? with
    | some (.lst xs) => if 0 ≤ k ∧ k.toNat < xs.length then .ok () ρ (S.set n (.lst (xs.set k.toNat v))) else .bad
    | none => .bad)
  | _, _ => .bad
def mApp (i : Nat) (d : D) : M Unit := fun ρ S => match ρ[i]? with
  | some (some (.ow xs)) => if xs.length < SZ then .ok () (ρ.set i (some (.ow (xs ++ [d])))) S else .bad
  | _ => .bad
def mIsx (P : Prm) (i : Nat) (cs : List Nat) : M D := fun ρ S => match ρ[i]? with
  | some (some (.ex x)) => .ok (.bl (cs.any (P.sub x.c))) ρ S
  | _ => .bad
def mList (d : D) : M (List D) := match d with
  | .tup xs => M.pure xs
  | .lst xs => M.pure xs
  | .str x => if x.length ≤ SZ then M.pure (x.map fun c => .str [c]) else M.bad
  | _ => M.bad
def srcOf (vs : List D) : List (Sum Nat D) → Option (List D)
  | [] => some []
  | .inl i :: r => match vs[i]?, srcOf vs r with | some v, some l => some (v :: l) | _, _ => none
  | .inr d :: r => match srcOf vs r with | some l => some (d :: l) | none => none
def isTys (ts : List Ty) (d : D) : Option Bool := match ts with
  | [] => some false
  | t :: r => match isTy t d, isTys r d with | some a, some b => some (a || b) | _, _ => none
def zipD : List D → List D → List D
  | x :: xs, y :: ys => .tup [x, y] :: zipD xs ys
  | _, _ => []
def enumD (k : Nat) : List D → List D
  | [] => []
  | x :: xs => .tup [.int k, x] :: enumD (k + 1) xs
def rngD (lo : Int) : Nat → List D
  | 0 => []
  | n + 1 => .int lo :: rngD (lo + 1) n
/-- the pieces of an f-string -/
def pieces : List D → Option Txt
  | [] => some []
  | .str x :: r => (pieces r).map (x ++ ·)
  | .int i :: r => if i.natAbs.log2 < 1920 then (pieces r).map (intTxt i ++ ·) else none
  | _ :: _ => none
/-- a loop: what a turn binds, the body -/
def loopM (asg : D → M Unit) (body : M Flow) : List D → M Flow
  | [] => M.pure .nx
  | d :: r => M.bind (asg d) fun _ => M.bind body fun f => match f with
    | .nx => loopM asg body r
    | .ct => loopM asg body r
    | .br => M.pure .nx
    | .rt v => M.pure (.rt v)
def compM (asg : D → M Unit) (cond : M Bool) (elt : M D) : List D → M (List D)
  | [] => M.pure []
  | d :: r => M.bind (asg d) fun _ => M.bind cond fun b => if b then M.bind elt fun v => M.bind (compM asg cond elt r) fun vs => M.pure (v :: vs) else compM asg cond elt r
def whileM (test : M Bool) (body : M Flow) : Nat → M Flow
  | 0 => M.bad
  | n + 1 => M.bind test fun b => if b then M.bind body fun f => match f with
    | .nx => whileM test body n
    | .ct => whileM test body n
    | .br => M.pure .nx
    | .rt v => M.pure (.rt v)
    else M.pure .nx
def wipeE (ρ : Env) : List Nat → Env
  | [] => ρ
  | v :: vs => (wipeE ρ vs).set v none
/-- behind a block: its own names are what they were, where that stays -/
def backE (ρ₀ ρ : Env) : List Nat → Env
  | [] => ρ
  | v :: vs => (backE ρ₀ ρ vs).set v (match ρ₀[v]? with | some (some (.fz d)) => some (.fz d) | _ => none)
/-- a block with names of its own, which no exception leaves -/
def blockM {α : Type} (own : List Nat) (m : M α) : M α := fun ρ S => match m (wipeE ρ own) S with
  | .ok a ρ' S' => .ok a (backE ρ ρ' own) S'
  | _ => .bad
def handle (P : Prm) : Nat → List Nat → Bool := fun c cs => cs.any (P.sub c)
/-- a try's handlers over a body's end -/
def tryM (b : M Flow) (h : Exn → M Flow) : M Flow := fun ρ S => match b ρ S with
  | .exc x ρ' S' => h x ρ' S'
  | r => r
def mSetX (i : Nat) (x : Exn) : M Unit := fun ρ S => if i < ρ.length then .ok () (ρ.set i (some (.ex x))) S else .bad
def mClr (i : Nat) : M Unit := fun ρ S => if i < ρ.length then .ok () (ρ.set i none) S else .bad
def isSimple : IE → Bool
  | .var _ => true
  | .cst _ => true
  | .neg (.cst _) => true
  | _ => false

def isSimpleO : Option IE → Bool
  | none => true
  | some e => isSimple e
def isGlo : IE → Bool
  | .glo _ _ => true
  | _ => false
/-- whose method it is -/
def recvOk : Mt → Bool → D → Bool
  | .join, _, .str _ => true
  | .replace, _, .str _ => true
  | .index, false, .lst _ => true
  | .index, true, .tup _ => true
  | .count, false, .lst _ => true
  | _, _, _ => false
/-- what is evaluated without a look at names -/
def isStat : IE → Bool
  | .cst _ => true
  | .glo _ _ => true
  | .lst .nil => true
  | .dct0 => true
  | _ => false

section
variable (P : Prm)
mutual
def ev : IE → M D
  | .var i => mVar i
  | .cst d => M.pure d
  | .glo _ d => M.pure d
  | .tup es => M.bind (evs es) fun ds => if ds.length ≤ SZ then M.pure (.tup ds) else M.bad
  | .lst es => M.bind (evs es) fun ds => if ds.length ≤ SZ then M.pure (.lst ds) else M.bad
  | .dct0 => M.pure (.dic [])
  | .cel es => M.bind (evs es) fun ds => if ds.length ≤ SZ then mCell ds else M.bad
  | .bin o a b => M.bind (ev a) fun x => M.bind (ev b) fun y => M.of (bop o x y)
  | .neg a => M.bind (ev a) fun x => match x with | .int i => M.pure (.int (-i)) | _ => M.bad
  | .cmp o a b => M.bind (if isStat b then evB a else ev a) fun x => M.bind (evB b) fun y => M.bind (M.of (cop o x y)) fun c => M.pure (.bl c)
  | .chn o p a b c => M.bind (ev a) fun x => M.bind (ev b) fun y => M.bind (M.of (cop o x y)) fun k => if k then M.bind (ev c) fun z => M.bind (M.of (cop p y z)) fun l => M.pure (.bl l) else M.pure (.bl false)
  | .andS es => evAnd es
  | .orS es => evOr es
  | .notE a => M.bind (ev a) fun x => M.bind (mTruth x) fun c => M.pure (.bl (!c))
  | .ite t a b => M.bind (ev t) fun x => M.bind (mTruth x) fun c => if c then ev a else ev b
  | .idx a i => M.bind (if isSimple i then evB a else ev a) fun x => M.bind (ev i) fun k => mIdx x k
  | .slc a lo hi => M.bind (if isSimpleO lo && isSimpleO hi then evB a else ev a) fun x => M.bind (evO lo) fun l => M.bind (evO hi) fun h => M.of (slice x l h)
  | .revT a => M.bind (ev a) fun x => match x with | .tup xs => M.pure (.tup xs.reverse) | .lst xs => M.pure (.lst xs.reverse) | _ => M.bad
  | .call f es => M.bind (evs es) fun ds => mCall P f ds
  | .calk f es ks src => M.bind (evs es) fun ds => M.bind (evs ks) fun ks => M.bind (M.of (srcOf (ds ++ ks) src)) fun l => mCall P f l
  | .bi b es => (match b, es with
    | .len, .cons e .nil => M.bind (evB e) fun x => M.of (bip P.shown .len [x])
    | .list, es => M.bind (evs es) fun ds => (match ds with | [d] => M.bind (mList d) fun xs => M.pure (.lst xs) | _ => M.bad)
    | b, es => M.bind (evs es) fun ds => M.of (bip P.shown b ds))
  | .mt m o es => M.bind (ev o) fun x => if recvOk m (isGlo o) x then M.bind (evs es) fun ds => M.of (mtp m x ds) else M.bad
  | .isi a ts => M.bind (evB a) fun x => M.bind (M.of (isTys ts x)) fun c => M.pure (.bl c)
  | .isx i cs => mIsx P i cs
  | .comp own elt tg it cs => M.bind (evI it) fun ds => blockM own (M.bind (compM (evT tg) (evC cs) (ev elt) ds) fun vs => if vs.length ≤ SZ then M.pure (.lst vs) else M.bad)
  | .fstr es => M.bind (evs es) fun ds => M.of ((pieces ds).bind fun x => if x.length ≤ SZ then some (.str x) else none)
/-- looked at only, where it's a name -/
def evB : IE → M D
  | .var i => mBor i
  | e => ev e
def evs : IL → M (List D)
  | .nil => M.pure []
  | .cons e es => M.bind (ev e) fun d => M.bind (evs es) fun ds => M.pure (d :: ds)
def evAnd : IL → M D
  | .nil => M.bad
  | .cons e .nil => ev e
  | .cons e es => M.bind (ev e) fun x => M.bind (mTruth x) fun c => if c then evAnd es else M.pure x
def evOr : IL → M D
  | .nil => M.bad
  | .cons e .nil => ev e
  | .cons e es => M.bind (ev e) fun x => M.bind (mTruth x) fun c => if c then M.pure x else evOr es
def evO : Option IE → M (Option Int)
  | none => M.pure none
  | some e => M.bind (ev e) fun d => match d with | .int i => M.pure (some i) | _ => M.bad
/-- the tests of a comprehension -/
def evC : IL → M Bool
  | .nil => M.pure true
  | .cons e es => M.bind (ev e) fun x => M.bind (mTruth x) fun c => if c then evC es else M.pure false
def evT : IT → D → M Unit
  | .nm i, d => mSet i d
  | .tp ts, d => (match d with | .tup xs => evTs ts xs | .lst xs => evTs ts xs | _ => M.bad)
  | .ix o i, d => M.bind (ev o) fun x => M.bind (ev i) fun k => mPut x k d
def evTs : ITs → List D → M Unit
  | .nil, xs => (match xs with | [] => M.pure () | _ :: _ => M.bad)
  | .cons t ts, xs => (match xs with | [] => M.bad | x :: r => M.bind (evT t x) fun _ => evTs ts r)
  | .star i ts, xs => M.bind (mSet i (.lst xs)) fun _ => evTs ts []
def evI : II → M (List D)
  | .sq e => M.bind (ev e) fun d => mList d
  | .rng e => M.bind (ev e) fun d => (match d with | .int n => if -(2 ^ 62) ≤ n ∧ n < 2 ^ 62 then M.pure (rngD 0 n.toNat) else M.bad | _ => M.bad)
  | .rng2 a b => M.bind (ev a) fun d => M.bind (ev b) fun e => (match d, e with | .int m, .int n => if -(2 ^ 62) ≤ m ∧ m < 2 ^ 62 ∧ -(2 ^ 62) ≤ n ∧ n < 2 ^ 62 then M.pure (rngD m (n - m).toNat) else M.bad | _, _ => M.bad)
  | .zip s a b => M.bind (ev a) fun d => M.bind (ev b) fun e => M.bind (mList d) fun xs => M.bind (mList e) fun ys => if xs.length = ys.length ∨ s = false then M.pure (zipD xs ys) else M.bad
  | .enum a => M.bind (ev a) fun d => M.bind (mList d) fun xs => M.pure (enumD 0 xs)
end
/-- forms whose list is a new one -/
def isFresh : IE → Bool
  | .lst _ => true
  | .bin .add _ _ => true
  | .bin .mul _ _ => true
  | .comp _ _ _ _ _ => true
  | .bi .list _ => true
  | _ => false
def mLst (d : D) : M (List D) := match d with | .tup xs => M.pure xs | .lst xs => M.pure xs | _ => M.bad
def asLst (d : D) : M (List D) := match d with | .lst xs => M.pure xs | _ => M.bad
def evF (e : IE) : M (List D) := if isFresh e then M.bind (ev P e) asLst else M.bad
def mRaise {α : Type} (c : Nat) (ds : List D) : M α := fun ρ S => match P.flds c with
  | [] => (match ds with | [.str _] => .exc ⟨c, []⟩ ρ S | [] => .exc ⟨c, []⟩ ρ S | _ => .bad)
  | fs => if fs.length = ds.length then .exc ⟨c, fs.zip ds⟩ ρ S else .bad
mutual
def exec : IS → M Flow
  | .asg t e => M.bind (ev P e) fun d => M.bind (evT P t d) fun _ => M.pure .nx
  | .own i e => M.bind (evF P e) fun xs => M.bind (mOwn i xs) fun _ => M.pure .nx
  | .app i e => M.bind (ev P e) fun d => M.bind (mApp i d) fun _ => M.pure .nx
  | .aug i o e => M.bind (mVar i) fun x => M.bind (ev P e) fun y => M.bind (M.of (bop o x y)) fun z => M.bind (mSet i z) fun _ => M.pure .nx
  | .ex e => M.bind (ev P e) fun _ => M.pure .nx
  | .ret e => M.bind (ev P e) fun d => M.pure (.rt d)
  | .retN => M.pure (.rt .non)
  | .ifS t a b => M.bind (ev P t) fun x => M.bind (mTruth x) fun c => if c then execs a else execs b
  | .forS t it b => M.bind (evI P it) fun ds => loopM (evT P t) (execs b) ds
  | .whl t b => whileM (M.bind (ev P t) mTruth) (execs b) P.fuel
  | .brk => M.pure .br
  | .cnt => M.pure .ct
  | .pas => M.pure .nx
  | .rai c es => M.bind (evs P es) fun ds => mRaise P c ds
  | .tri b hs => tryM (execs b) fun x => execH hs x
def execs : ISs → M Flow
  | .nil => M.pure .nx
  | .cons s r => M.bind (exec s) fun f => match f with
    | .nx => execs r
    | f => M.pure f
def execH : IHs → Exn → M Flow
  | .nil, x => fun ρ S => .exc x ρ S
  | .cons cs nm b r, x => if cs.any (P.sub x.c) then (match nm with
      | none => execs b
      | some i => M.bind (mSetX i x) fun _ => M.bind (execs b) fun f => M.bind (mClr i) fun _ => M.pure f)
    else execH r x
end
end
/-- a def: how many parameters, how many slots, the body -/
structure FDef where
  np : Nat
  ns : Nat
  body : ISs
def startE (fd : FDef) (ds : List D) : Env := (ds.map fun d => some (.fz d)) ++ List.replicate (fd.ns - ds.length) none
def runFn (P : Prm) (fd : FDef) (ds : List D) (S : Sto) : CR :=
  if ds.length = fd.np then match execs P fd.body (startE fd ds) S with
    | .ok .nx _ S' => .ok .non S'
    | .ok (.rt d) _ S' => .ok d S'
    | .ok _ _ _ => .bad
    | .exc x _ S' => .exc x S'
    | .bad => .bad
  else .bad
/-- the program: defs by number; what is as in Prm -/
structure Tab where
  fn : Nat → Option FDef
  shown : D → Option Txt
  sub : Nat → Nat → Bool
  flds : Nat → List Txt
  fuel : Nat
def Tab.prm (T : Tab) (c : Call) : Prm := { call := c, shown := T.shown, sub := T.sub, flds := T.flds, fuel := T.fuel }
def callN (T : Tab) : Nat → Call
  | 0 => fun _ _ _ => .bad
  | k + 1 => fun f ds S => match T.fn f with
    | none => .bad
    | some fd => runFn (T.prm (callN T k)) fd ds S
end Ev

set_option Elab.async false
set_option linter.all false
set_option autoImplicit false
set_option maxRecDepth 100000
/-! EvB: how the language's values stand on the layer's heap. -/
namespace Ev
open PySem PySem.Spec PyProof.Rows L2

abbrev St := L2.St
/-! ### values on the heap -/
def toStr (x : Txt) : Str := ⟨x.toArray⟩
/-- what stays through the law: the written part, the world, the classes' addresses -/
structure Kx where
  K : PySem.W.Frag
  w : World
  ca : Nat → Option Addr
def FlatV : D → V → Prop
  | .non, v => v = .non
  | .bl b, v => v = .bl b
  | .int i, v => v = .int i
  | .str x, v => v = .str (toStr x)
  | _, _ => False
/-- a written dict with texts as keys -/
def WDict (c : Kx) (kvs : List (D × D)) (a : Addr) : Prop :=
  (∃ es n, L2.KDict c.K c.w a es n) ∧ ∀ z : Txt, ∃ r, PySem.W.nsIn c.K a (toStr z) = some r ∧ (match dget (.str z) kvs with | none => r = none | some d => ∃ u v0, r = some u ∧ RelV v0 u ∧ FlatV d v0)
section
variable (c : Kx) (F : Hp) (m : List Addr)
mutual
def Rep : D → V → Prop
  | .non, v => v = .non
  | .bl b, v => v = .bl b
  | .int i, v => v = .int i
  | .str x, v => v = .str (toStr x)
  | .tup xs, v => ∃ a vs, v = .ref a ∧ SqT c.K F a vs ∧ RepL xs vs
  | .lst xs, v => ∃ a vs, v = .ref a ∧ F a = some (.lst vs) ∧ RepL xs vs
  | .dic kvs, v => ∃ a, v = .ref a ∧ ((kvs = [] ∧ F a = some (.dK [])) ∨ WDict c kvs a)
  | .ref n, v => ∃ a, m[n]? = some a ∧ v = .ref a
  | .scr ns, v => ∃ a, v = .ref a ∧ SqL c.K F a (ns.map V.int)
def RepL : List D → List V → Prop
  | [], vs => vs = []
  | x :: xs, vs => ∃ v r, vs = v :: r ∧ Rep x v ∧ RepL xs r
end
end
/-- more is tracked, more cells there are -/
structure Ext (F : Hp) (m : List Addr) (F' : Hp) (m' : List Addr) : Prop where
  f : ∀ a o, F a = some o → F' a = some o
  m : ∃ r, m' = m ++ r
theorem Ext.refl {F : Hp} {m : List Addr} : Ext F m F m := ⟨fun _ _ h => h, [], by simp⟩
theorem Ext.trans {F F1 F2 : Hp} {m m1 m2 : List Addr} (a : Ext F m F1 m1) (b : Ext F1 m1 F2 m2) : Ext F m F2 m2 := by
  refine ⟨fun x o h => b.f x o (a.f x o h), ?_⟩
  obtain ⟨r, rfl⟩ := a.m
  obtain ⟨s, rfl⟩ := b.m
  exact ⟨r ++ s, by simp⟩
theorem Ext.at_ {F F' : Hp} {m m' : List Addr} (e : Ext F m F' m') {n : Nat} {a : Addr} (h : m[n]? = some a) : m'[n]? = some a := by
  obtain ⟨r, rfl⟩ := e.m
  have hn : n < m.length := (List.getElem?_eq_some_iff.mp h).1
  rw [List.getElem?_append_left hn]
  exact h
theorem Ext.sqT {K : PySem.W.Frag} {F F' : Hp} {m m' : List Addr} (e : Ext F m F' m') {a : Addr} {vs : List V} (h : SqT K F a vs) : SqT K F' a vs := by
  rcases h with (h | ⟨o, h⟩) | h
  · exact .inl (.inl (e.f _ _ h))
  · exact .inl (.inr ⟨o, e.f _ _ h⟩)
  · exact .inr h
theorem Ext.sqL {K : PySem.W.Frag} {F F' : Hp} {m m' : List Addr} (e : Ext F m F' m') {a : Addr} {vs : List V} (h : SqL K F a vs) : SqL K F' a vs := by
  rcases h with (h | ⟨o, h⟩) | h
  · exact .inl (.inl (e.f _ _ h))
  · exact .inl (.inr ⟨o, e.f _ _ h⟩)
  · exact .inr h
section
variable {c : Kx} {F F' : Hp} {m m' : List Addr}
mutual
theorem Rep.ext (e : Ext F m F' m') : ∀ {d : D} {v : V}, Rep c F m d v → Rep c F' m' d v
  | .non, _, h => by simpa [Rep] using h
  | .bl _, _, h => by simpa [Rep] using h
  | .int _, _, h => by simpa [Rep] using h
  | .str _, _, h => by simpa [Rep] using h
  | .tup xs, v, h => by
    obtain ⟨a, vs, e1, h1, h2⟩ := (show ∃ a vs, v = .ref a ∧ SqT c.K F a vs ∧ RepL c F m xs vs by simpa [Rep] using h)
    have q := RepL.ext e h2
    simp only [Rep]
    exact ⟨a, vs, e1, e.sqT h1, q⟩
  | .lst xs, v, h => by
    obtain ⟨a, vs, e1, h1, h2⟩ := (show ∃ a vs, v = .ref a ∧ F a = some (.lst vs) ∧ RepL c F m xs vs by simpa [Rep] using h)
    have q := RepL.ext e h2
    simp only [Rep]
    exact ⟨a, vs, e1, e.f _ _ h1, q⟩
  | .dic kvs, v, h => by
    simp only [Rep] at h ⊢
    obtain ⟨a, e1, h1⟩ := h
    refine ⟨a, e1, ?_⟩
    rcases h1 with ⟨h1, h2⟩ | h1
    · exact .inl ⟨h1, e.f _ _ h2⟩
    · exact .inr h1
  | .ref n, v, h => by
    simp only [Rep] at h ⊢
    obtain ⟨a, h1, h2⟩ := h
    exact ⟨a, e.at_ h1, h2⟩
  | .scr ns, v, h => by
    simp only [Rep] at h ⊢
    obtain ⟨a, h1, h2⟩ := h
    exact ⟨a, h1, e.sqL h2⟩
theorem RepL.ext (e : Ext F m F' m') : ∀ {xs : List D} {vs : List V}, RepL c F m xs vs → RepL c F' m' xs vs
  | [], _, h => by simpa [RepL] using h
  | x :: xs, vs, h => by
    obtain ⟨v, r, e1, h1, h2⟩ := (show ∃ v r, vs = v :: r ∧ Rep c F m x v ∧ RepL c F m xs r by simpa [RepL] using h)
    have q1 := Rep.ext e h1
    have q2 := RepL.ext e h2
    simp only [RepL]
    exact ⟨v, r, e1, q1, q2⟩
end
end

/-! ### the state -/
/-- the ghost: what is protected, what stays, the cells' addresses, the slots, the cells -/
structure Gs where
  G : Hp
  F : Hp
  m : List Addr
  ρ : Env
  S : Sto
def CellR (c : Kx) (F : Hp) (m : List Addr) : Cell → Option HO → Prop
  | .lst xs, o => ∃ vs, o = some (.lst vs) ∧ RepL c F m xs vs
/-- a caught exception in a slot: wave one, nothing is asked of it but its class -/
def ExR (c : Kx) (x : Exn) (cls : Value) : Prop := ∃ C, c.ca x.c = some C ∧ cls = .ref C
structure RelB (c : Kx) (G F : Hp) (m : List Addr) (S : Sto) (H : Hp) : Prop where
  fh : ∀ a o, F a = some o → H a = some o
  gh : ∀ a o, G a = some o → H a = some o
  fg : ∀ a o, F a = some o → G a = none
  ml : m.length = S.length
  md : m.Nodup
  cl : ∀ (n : Nat) (x : Cell) (a : Addr), S[n]? = some x → m[n]? = some a → F a = none ∧ G a = none ∧ CellR c F m x (H a)
structure Rel (c : Kx) (g : Gs) (σ : St) (H : Hp) : Prop where
  b : RelB c g.G g.F g.m g.S H
  ln : g.ρ.length = σ.length
  sf : ∀ (i : Nat) (d : D), g.ρ[i]? = some (some (.fz d)) → ∃ v, σ[i]? = some (some v) ∧ Rep c g.F g.m d v
  so : ∀ (i : Nat) (xs : List D), g.ρ[i]? = some (some (.ow xs)) → ∃ a vs, σ[i]? = some (some (.ref a)) ∧ H a = some (.lst vs) ∧ RepL c g.F g.m xs vs ∧ g.F a = none ∧ g.G a = none ∧ a ∉ g.m
  sd : ∀ (i j : Nat) (xs ys : List D) (a : Addr), i ≠ j → g.ρ[i]? = some (some (.ow xs)) → g.ρ[j]? = some (some (.ow ys)) → σ[i]? = some (some (.ref a)) → σ[j]? ≠ some (some (.ref a))
  /-- a caught exception: it stands at the address that the context tells under 0 -/
  sx : ∀ (i : Nat) (x : Exn), g.ρ[i]? = some (some (.ex x)) → ∃ a, c.ca 0 = some a ∧ σ[i]? = some (some (.ref a))
structure GExt (g g' : Gs) : Prop where
  e : Ext g.F g.m g'.F g'.m
  pr : g'.G = g.G
theorem GExt.refl {g : Gs} : GExt g g := ⟨.refl, rfl⟩
theorem GExt.trans {g g1 g2 : Gs} (a : GExt g g1) (b : GExt g1 g2) : GExt g g2 := ⟨a.e.trans b.e, b.pr.trans a.pr⟩

section
variable {c : Kx} {g : Gs} {σ : St} {H H' : Hp}
/-- an address that is not tracked at all -/
theorem Rel.fresh (R : Rel c g σ H) {a : Addr} (h : H a = none) : g.F a = none ∧ g.G a = none ∧ a ∉ g.m := by
  refine ⟨?_, ?_, fun hm => ?_⟩
  · cases q : g.F a with
    | none => rfl
    | some o => have := R.b.fh _ _ q; rw [h] at this; cases this
  · cases q : g.G a with
    | none => rfl
    | some o => have := R.b.gh _ _ q; rw [h] at this; cases this
  · obtain ⟨n, hn, e⟩ := List.getElem_of_mem hm
    have hs : n < g.S.length := by rw [← R.b.ml]; exact hn
    obtain ⟨_, _, q⟩ := R.b.cl n g.S[n] a (by simp [hs]) (by rw [List.getElem?_eq_getElem hn, e])
    rw [h] at q
    revert q
    cases g.S[n] with
    | lst xs => rintro ⟨vs, z, _⟩; cases z
/-- an own list's address is tracked -/
theorem Rel.ownAt (R : Rel c g σ H) {i : Nat} {xs : List D} {a : Addr} (h : g.ρ[i]? = some (some (.ow xs))) (e : σ[i]? = some (some (.ref a))) : ∃ vs, H a = some (.lst vs) ∧ RepL c g.F g.m xs vs ∧ g.F a = none ∧ g.G a = none ∧ a ∉ g.m := by
  obtain ⟨b, vs, e1, h1, h2, h3, h4, h5⟩ := R.so i xs h
  rw [e] at e1; cases e1
  exact ⟨vs, h1, h2, h3, h4, h5⟩
/-- the heap has grown by an object that nothing here speaks of, or that stays from now on -/
theorem Rel.grow (R : Rel c g σ H) {p : Addr} {o : HO} (hp : H p = none) : Rel c { g with F := upd g.F p o } σ (upd H p o) ∧ GExt g { g with F := upd g.F p o } := by
  obtain ⟨f1, f2, f3⟩ := R.fresh hp
  have ne : ∀ {a : Addr} {u : HO}, H a = some u → a ≠ p := fun h z => by subst z; rw [hp] at h; cases h
  have ext : Ext g.F g.m (upd g.F p o) g.m := ⟨fun a u h => by rw [upd_ne (ne (R.b.fh _ _ h))]; exact h, [], by simp⟩
  refine ⟨⟨⟨fun a u h => ?_, fun a u h => ?_, fun a u h => ?_, R.b.ml, R.b.md, fun n x a h1 h2 => ?_⟩, R.ln, fun i d h => ?_, fun i xs h => ?_, R.sd, R.sx⟩, ext, rfl⟩
  · have h : upd g.F p o a = some u := h
    by_cases z : a = p
    · subst z; rw [upd_same] at h ⊢; exact h
    · rw [upd_ne z] at h ⊢; exact R.b.fh _ _ h
  · rw [upd_ne (ne (R.b.gh _ _ h))]; exact R.b.gh _ _ h
  · by_cases z : a = p
    · subst z; exact f2
    · have h : upd g.F p o a = some u := h
      rw [upd_ne z] at h; exact R.b.fg _ _ h
  · have hm : a ∈ g.m := List.mem_of_getElem? h2
    have z : a ≠ p := fun z => f3 (z ▸ hm)
    obtain ⟨q1, q2, q3⟩ := R.b.cl n x a h1 h2
    refine ⟨by show upd g.F p o a = none; rw [upd_ne z]; exact q1, q2, ?_⟩
    rw [upd_ne z]
    cases x with
    | lst xs => obtain ⟨vs, e, r⟩ := q3; exact ⟨vs, e, r.ext ext⟩
  · obtain ⟨v, e, r⟩ := R.sf i d h
    exact ⟨v, e, r.ext ext⟩
  · obtain ⟨a, vs, e, h1, r, h2, h3, h4⟩ := R.so i xs h
    have z := ne h1
    exact ⟨a, vs, e, by rw [upd_ne z]; exact h1, r.ext ext, by show upd g.F p o a = none; rw [upd_ne z]; exact h2, h3, h4⟩
/-- .. by one that is nobody's yet -/
theorem Rel.grow0 (R : Rel c g σ H) {p : Addr} {o : HO} (hp : H p = none) : Rel c g σ (upd H p o) := by
  have ne : ∀ {a : Addr} {u : HO}, H a = some u → a ≠ p := fun h z => by subst z; rw [hp] at h; cases h
  obtain ⟨f1, f2, f3⟩ := R.fresh hp
  refine ⟨⟨fun a u h => ?_, fun a u h => ?_, R.b.fg, R.b.ml, R.b.md, fun n x a h1 h2 => ?_⟩, R.ln, R.sf, fun i xs h => ?_, R.sd, R.sx⟩
  · rw [upd_ne (ne (R.b.fh _ _ h))]; exact R.b.fh _ _ h
  · rw [upd_ne (ne (R.b.gh _ _ h))]; exact R.b.gh _ _ h
  · have z : a ≠ p := fun z => f3 (z ▸ List.mem_of_getElem? h2)
    obtain ⟨q1, q2, q3⟩ := R.b.cl n x a h1 h2
    exact ⟨q1, q2, by rw [upd_ne z]; exact q3⟩
  · obtain ⟨a, vs, e, h1, r, h2, h3, h4⟩ := R.so i xs h
    exact ⟨a, vs, e, by rw [upd_ne (ne h1)]; exact h1, r, h2, h3, h4⟩
/-- a list that is nobody's: in the heap, not among what stays, nor a cell, nor a slot's own -/
structure Loose (c : Kx) (g : Gs) (σ : St) (H : Hp) (xs : List D) (a : Addr) : Prop where
  ex : ∃ vs, H a = some (.lst vs) ∧ RepL c g.F g.m xs vs
  f : g.F a = none
  gn : g.G a = none
  mn : a ∉ g.m
  s : ∀ (i : Nat) (ys : List D), g.ρ[i]? = some (some (.ow ys)) → σ[i]? ≠ some (some (.ref a))
theorem Rel.loose (R : Rel c g σ H) {p : Addr} {vs : List V} {xs : List D} (hp : H p = none) (r : RepL c g.F g.m xs vs) : Loose c g σ (upd H p (.lst vs)) xs p := by
  obtain ⟨f1, f2, f3⟩ := R.fresh hp
  refine ⟨⟨vs, upd_same, r⟩, f1, f2, f3, fun i ys h e => ?_⟩
  obtain ⟨a, vs', e', h1, _⟩ := R.so i ys h
  rw [e] at e'; cases e'
  rw [hp] at h1; cases h1
/-- it stays from now on -/
theorem Rel.freeze (R : Rel c g σ H) {a : Addr} {xs : List D} (L : Loose c g σ H xs a) : ∃ F', Rel c { g with F := F' } σ H ∧ GExt g { g with F := F' } ∧ Rep c F' g.m (.lst xs) (.ref a) := by
  obtain ⟨vs, hv, r⟩ := L.ex
  have ext : Ext g.F g.m (upd g.F a (.lst vs)) g.m := ⟨fun b u h => by rw [upd_ne (fun z => by subst z; rw [L.f] at h; cases h)]; exact h, [], by simp⟩
  refine ⟨upd g.F a (.lst vs), ⟨⟨fun b u h => ?_, R.b.gh, fun b u h => ?_, R.b.ml, R.b.md, fun n x b h1 h2 => ?_⟩, R.ln, fun i d h => ?_, fun i ys h => ?_, R.sd, R.sx⟩, ⟨ext, rfl⟩, ?_⟩
  · by_cases z : b = a
    · subst z; have h : upd g.F b (.lst vs) b = some u := h; rw [upd_same] at h; cases h; exact hv
    · have h : upd g.F a (.lst vs) b = some u := h; rw [upd_ne z] at h; exact R.b.fh _ _ h
  · by_cases z : b = a
    · subst z; exact L.gn
    · have h : upd g.F a (.lst vs) b = some u := h; rw [upd_ne z] at h; exact R.b.fg _ _ h
  · have z : b ≠ a := fun z => L.mn (z ▸ List.mem_of_getElem? h2)
    obtain ⟨q1, q2, q3⟩ := R.b.cl n x b h1 h2
    refine ⟨by show upd g.F a (.lst vs) b = none; rw [upd_ne z]; exact q1, q2, ?_⟩
    cases x with
    | lst ys => obtain ⟨ws, e, r⟩ := q3; exact ⟨ws, e, r.ext ext⟩
  · obtain ⟨v, e, r⟩ := R.sf i d h
    exact ⟨v, e, r.ext ext⟩
  · obtain ⟨b, ws, e, h1, r, h2, h3, h4⟩ := R.so i ys h
    have z : b ≠ a := fun z => L.s i ys h (z ▸ e)
    exact ⟨b, ws, e, h1, r.ext ext, by show upd g.F a (.lst vs) b = none; rw [upd_ne z]; exact h2, h3, h4⟩
  · simp only [Rep]
    exact ⟨a, vs, rfl, upd_same, r.ext ext⟩
/-- a name is bound -/
theorem Rel.set (R : Rel c g σ H) {i : Nat} {d : D} {v : V} (r : Rep c g.F g.m d v) : Rel c { g with ρ := g.ρ.set i (some (.fz d)) } (σ.set i (some v)) H := by
  refine ⟨R.b, by simp [R.ln], fun j e h => ?_, fun j xs h => ?_, fun j k xs ys a ne h1 h2 h3 => ?_, fun j x h => ?_⟩
  · by_cases z : j = i
    · subst z
      have hl : j < g.ρ.length := by
        have := (List.getElem?_eq_some_iff.mp h).1
        simpa using this
      have h : (g.ρ.set j (some (.fz d)))[j]? = some (some (.fz e)) := h
      rw [List.getElem?_set_self hl] at h
      cases h
      exact ⟨v, by rw [List.getElem?_set_self (by rw [← R.ln]; exact hl)], r⟩
    · have h : (g.ρ.set i (some (.fz d)))[j]? = some (some (.fz e)) := h
      rw [List.getElem?_set_ne (Ne.symm z)] at h
      obtain ⟨w, e1, r1⟩ := R.sf j e h
      exact ⟨w, by rw [List.getElem?_set_ne (Ne.symm z)]; exact e1, r1⟩
  · have z : j ≠ i := fun z => by
      subst z
      have hl : j < g.ρ.length := by
        have := (List.getElem?_eq_some_iff.mp h).1
        simpa using this
      have h : (g.ρ.set j (some (.fz d)))[j]? = some (some (.ow xs)) := h
      rw [List.getElem?_set_self hl] at h
      cases h
    have h : (g.ρ.set i (some (.fz d)))[j]? = some (some (.ow xs)) := h
    rw [List.getElem?_set_ne (Ne.symm z)] at h
    obtain ⟨a, vs, e1, q⟩ := R.so j xs h
    exact ⟨a, vs, by rw [List.getElem?_set_ne (Ne.symm z)]; exact e1, q⟩
  · have zz : ∀ {j : Nat} {xs : List D}, (g.ρ.set i (some (.fz d)))[j]? = some (some (.ow xs)) → j ≠ i := fun {j xs} h z => by
      subst z
      have hl : j < g.ρ.length := by
        have := (List.getElem?_eq_some_iff.mp h).1
        simpa using this
      rw [List.getElem?_set_self hl] at h
      cases h
    have h1 : (g.ρ.set i (some (.fz d)))[j]? = some (some (.ow xs)) := h1
    have h2 : (g.ρ.set i (some (.fz d)))[k]? = some (some (.ow ys)) := h2
    have z1 := zz h1
    have z2 := zz h2
    rw [List.getElem?_set_ne (Ne.symm z1)] at h1 h3
    rw [List.getElem?_set_ne (Ne.symm z2)] at h2 ⊢
    exact R.sd j k xs ys a ne h1 h2 h3
  · have z : j ≠ i := fun z => by
      subst z
      have hl : j < g.ρ.length := by
        have := (List.getElem?_eq_some_iff.mp h).1
        simpa using this
      have h : (g.ρ.set j (some (.fz d)))[j]? = some (some (.ex x)) := h
      rw [List.getElem?_set_self hl] at h
      cases h
    have h : (g.ρ.set i (some (.fz d)))[j]? = some (some (.ex x)) := h
    rw [List.getElem?_set_ne (Ne.symm z)] at h
    obtain ⟨a, e1, e2⟩ := R.sx j x h
    exact ⟨a, e1, by rw [List.getElem?_set_ne (Ne.symm z)]; exact e2⟩
end
end Ev

set_option Elab.async false
set_option linter.all false
set_option autoImplicit false
set_option maxRecDepth 100000
/-! EvC: what the meaning says of a run: the transformers tM (expressions), tB (tests), tA (argument lists). -/
namespace Ev
open PySem PySem.Spec PyProof.Rows L2

/-- an exception of ours, by class -/
def ExnR (c : Kx) (x : Exn) (cls : Value) (d : Option Addr) (H : Hp) : Prop := x.fs = [] ∧ d = none ∧ x.c ≠ 0 ∧ ∃ C, c.ca x.c = some C ∧ cls = .ref C
section
variable (c : Kx) (W : WX)
/-- what a result says: ok of the state behind it, or the exception is wished for -/
def After {α : Type} (g : Gs) (σ : St) (r : Res α) (ok : α → Gs → Hp → Prop) : Prop :=
  match r with
  | .ok a ρ S => ∀ g' H', g'.ρ = ρ → g'.S = S → GExt g g' → Rel c g' σ H' → ok a g' H'
  | .exc x ρ S => ∀ g' H' cls d, g'.ρ = ρ → g'.S = S → GExt g g' → Rel c g' σ H' → ExnR c x cls d H' → W cls d σ H'
  | .bad => False
/-- the reading of an expression with the meaning m -/
def tM (m : M D) : TE := fun σ H Q => ∃ g, Rel c g σ H ∧ After c W g σ (m g.ρ g.S) fun d g' H' => ∀ v, Rep c g'.F g'.m d v → Q v H'
/-- .. of a test -/
def tB (m : M Bool) : TT := fun σ H Q => ∃ g, Rel c g σ H ∧ After c W g σ (m g.ρ g.S) fun b g' H' => Q b H'
/-- .. of an argument list -/
def tA (m : M (List D)) : TA := fun σ H Q => ∃ g, Rel c g σ H ∧ After c W g σ (m g.ρ g.S) fun ds g' H' => ∀ vs, RepL c g'.F g'.m ds vs → Q vs H'
/-- .. of an expression whose list is a new one, nobody's yet -/
def tF (m : M (List D)) : TE := fun σ H Q => ∃ g, Rel c g σ H ∧ After c W g σ (m g.ρ g.S) fun xs g' H' => ∀ a H'', Rel c g' σ H'' → Loose c g' σ H'' xs a → Q (.ref a) H''
end
section
variable {c : Kx} {W : WX} {α β : Type} {g g1 : Gs} {σ : St} {H : Hp} {r : Res α} {ok ok' : α → Gs → Hp → Prop}
theorem After.shift (h : After c W g σ r ok) (e : GExt g g1) : After c W g1 σ r ok := by
  cases r with
  | ok a ρ S => exact fun g' H' e1 e2 e3 R => h g' H' e1 e2 (e.trans e3) R
  | exc x ρ S => exact fun g' H' cls d e1 e2 e3 R => h g' H' cls d e1 e2 (e.trans e3) R
  | bad => exact h
theorem After.imp (h : After c W g σ r ok) (f : ∀ a g' H', GExt g g' → Rel c g' σ H' → ok a g' H' → ok' a g' H') : After c W g σ r ok' := by
  cases r with
  | ok a ρ S => exact fun g' H' e1 e2 e3 R => f a g' H' e3 R (h g' H' e1 e2 e3 R)
  | exc x ρ S => exact h
  | bad => exact h
theorem After.bind {m : M α} {f : α → M β} {ok : β → Gs → Hp → Prop} (h : After c W g σ (M.bind m f g.ρ g.S) ok) : After c W g σ (m g.ρ g.S) fun a g1 H1 => After c W g1 σ (f a g1.ρ g1.S) ok := by
  unfold M.bind Res.bind at h
  cases e : m g.ρ g.S with
  | ok a ρ S =>
    rw [e] at h
    intro g' H' e1 e2 e3 R
    have h' : After c W g σ (f a ρ S) ok := h
    rw [e1, e2]
    exact h'.shift e3
  | exc x ρ S => rw [e] at h; exact h
  | bad => rw [e] at h; exact h
theorem After.pure {a : α} (h : After c W g σ (M.pure a g.ρ g.S) ok) (R : Rel c g σ H) : ok a g H := h g H rfl rfl .refl R
theorem After.of {o : Option α} (h : After c W g σ (M.of o g.ρ g.S) ok) : ∃ a, o = some a ∧ After c W g σ (.ok a g.ρ g.S) ok := by
  cases o with
  | some a => exact ⟨a, rfl, h⟩
  | none => exact h.elim
theorem After.app {a : α} {ρ : Env} {S : Sto} {g' : Gs} {H' : Hp} (h : After c W g σ (.ok a ρ S) ok) (R : Rel c g' σ H') (x : GExt g g') (e1 : g'.ρ = ρ) (e2 : g'.S = S) : ok a g' H' := h g' H' e1 e2 x R
theorem After.bad (h : After c W g σ (M.bad g.ρ g.S) ok) : False := h
end
section
variable {X : Cx} {e : Expr} {t t' : TE}
theorem PE.weak (h : PE X e t) (w : ∀ σ H Q, t' σ H Q → t σ H Q) : PE X e t' := ⟨fun pins s σ H Q I q => h.run pins s σ H Q I (w σ H Q q)⟩
theorem PE.any {ι : Type} {t : ι → TE} (h : ∀ i, PE X e (t i)) : PE X e (fun σ H Q => ∃ i, t i σ H Q) := ⟨fun pins s σ H Q I q => let ⟨i, q⟩ := q; (h i).run pins s σ H Q I q⟩
theorem PT.weak {t t' : TT} (h : PT X e t) (w : ∀ σ H Q, t' σ H Q → t σ H Q) : PT X e t' := ⟨fun pins s σ H Q I q => h.run pins s σ H Q I (w σ H Q q)⟩
theorem PW.weak {t t' : TT} (h : PW X e t) (w : ∀ σ H Q, t' σ H Q → t σ H Q) : PW X e t' := ⟨fun wh pins s σ H Q I q => h.run wh pins s σ H Q I (w σ H Q q)⟩
theorem PA.weak {es : List Expr} {t t' : TA} (h : PA X es t) (w : ∀ σ H Q, t' σ H Q → t σ H Q) : PA X es t' := ⟨fun p pins s σ H Q I q => h.run p pins s σ H Q I (w σ H Q q)⟩
end

/-! ### slots -/
section
variable {c : Kx} {g : Gs} {σ : St} {H : Hp}
/-- a slot is forgotten -/
theorem Rel.drop (R : Rel c g σ H) (i : Nat) : Rel c { g with ρ := g.ρ.set i none } σ H := by
  have zz : ∀ {j : Nat} {s : SV}, (g.ρ.set i none)[j]? = some (some s) → g.ρ[j]? = some (some s) ∧ j ≠ i := fun {j s} h => by
    by_cases z : j = i
    · subst z
      have hl : j < g.ρ.length := by
        have := (List.getElem?_eq_some_iff.mp h).1
        simpa using this
      rw [List.getElem?_set_self hl] at h
      cases h
    · rw [List.getElem?_set_ne (Ne.symm z)] at h
      exact ⟨h, z⟩
  exact ⟨R.b, by simp [R.ln], fun j d h => R.sf j d (zz h).1, fun j xs h => R.so j xs (zz h).1, fun j k xs ys a ne h1 h2 => R.sd j k xs ys a ne (zz h1).1 (zz h2).1, fun j x h => R.sx j x (zz h).1⟩
/-- a slot's own list stays from now on -/
theorem Rel.freezeSlot (R : Rel c g σ H) {i : Nat} {xs : List D} (h : g.ρ[i]? = some (some (.ow xs))) :
    ∃ a F', σ[i]? = some (some (.ref a)) ∧ Rel c { g with F := F', ρ := g.ρ.set i (some (.fz (.lst xs))) } σ H ∧ GExt g { g with F := F', ρ := g.ρ.set i (some (.fz (.lst xs))) } ∧ Rep c F' g.m (.lst xs) (.ref a) := by
  obtain ⟨a, vs, e1, h1, r, h2, h3, h4⟩ := R.so i xs h
  have R1 := R.drop i
  have L : Loose c { g with ρ := g.ρ.set i none } σ H xs a := by
    refine ⟨⟨vs, h1, r⟩, h2, h3, h4, fun j ys hj => ?_⟩
    have hj : (g.ρ.set i none)[j]? = some (some (.ow ys)) := hj
    by_cases z : j = i
    · subst z
      have hl : j < g.ρ.length := by
        have := (List.getElem?_eq_some_iff.mp h).1
        simpa using this
      rw [List.getElem?_set_self hl] at hj
      cases hj
    · rw [List.getElem?_set_ne (Ne.symm z)] at hj
      exact R.sd i j xs ys a (Ne.symm z) h hj e1
  obtain ⟨F', R2, e2, r2⟩ := R1.freeze L
  have R3 := R2.set (i := i) (d := .lst xs) (v := .ref a) r2
  have hi : i < σ.length := (List.getElem?_eq_some_iff.mp e1).1
  have es : σ.set i (some (.ref a)) = σ := by
    apply List.ext_getElem?
    intro j
    by_cases z : i = j
    · subst z; rw [List.getElem?_set_self hi, e1]
    · rw [List.getElem?_set_ne z]
  rw [es] at R3
  have er : (g.ρ.set i none).set i (some (SV.fz (.lst xs))) = g.ρ.set i (some (.fz (.lst xs))) := by rw [List.set_set]
  refine ⟨a, F', e1, ?_, ⟨e2.e, rfl⟩, r2⟩
  have R3 : Rel c { g with F := F', ρ := (g.ρ.set i none).set i (some (SV.fz (.lst xs))) } σ H := R3
  rw [er] at R3
  exact R3
end

/-! ### names, constants -/
section
variable {X : Cx} {c : Kx} {W : WX} {pos : Pos}
theorem ok_var {i : Nat} {x : Str} (hN : X.N[i]? = some x) (hv : Vis X.env.scope x) (hd : (x == ("__debug__" : Str)) = false) (hcd : (x == ("__classdict__" : Str)) = false) : PE X (.Name x pos) (tM c W (mVar i)) := by
  refine PE.weak (pe_var hN hv hd hcd) fun σ H Q ⟨g, R, h⟩ => ?_
  unfold mVar at h
  cases e : g.ρ[i]? with
  | none => rw [e] at h; exact h.elim
  | some o =>
    cases o with
    | none => rw [e] at h; exact h.elim
    | some s =>
      cases s with
      | fz d =>
        rw [e] at h
        obtain ⟨v, e1, r⟩ := R.sf i d e
        exact ⟨v, e1, h g H rfl rfl .refl R v r⟩
      | ow xs =>
        rw [e] at h
        obtain ⟨a, F', e1, R', ex, r⟩ := R.freezeSlot e
        exact ⟨.ref a, e1, After.app h R' ex rfl rfl _ r⟩
      | ex x => rw [e] at h; exact h.elim
theorem ok_cst {e : Expr} {v : V} {d : D} (h : PE X e (tC v)) (r : ∀ F m, Rep c F m d v) : PE X e (tM c W (M.pure d)) :=
  PE.weak h fun σ H Q ⟨g, R, q⟩ => q g H rfl rfl .refl R v (r _ _)
theorem ok_non {j pos'} : PE X (.Constant .none j pos') (tM c W (M.pure .non)) := ok_cst pe_non fun _ _ => by simp [Rep]
theorem ok_bl {b j pos'} : PE X (.Constant (.bool b) j pos') (tM c W (M.pure (.bl b))) := ok_cst pe_bl fun _ _ => by simp [Rep]
theorem ok_int {i j pos'} : PE X (.Constant (.int i) j pos') (tM c W (M.pure (.int i))) := ok_cst pe_int fun _ _ => by simp [Rep]
theorem ok_str {x : Str} {j pos'} : PE X (.Constant (.str x) j pos') (tM c W (M.pure (.str x.cps.toList))) := ok_cst pe_str fun _ _ => by simp [Rep, toStr]
end

/-! ### argument lists, displays -/
section
variable {X : Cx} {c : Kx} {W : WX} {pos : Pos} {e : Expr} {es : List Expr} {m : M D} {ms : M (List D)}
theorem ok_nil : PA X [] (tA c W (M.pure [])) := PA.weak pa_nil fun σ H Q ⟨g, R, h⟩ => h g H rfl rfl .refl R [] (by simp [RepL])
theorem RepL.cons_ {F : Hp} {m : List Addr} {d : D} {ds : List D} {v : V} {vs : List V} (h : Rep c F m d v) (h' : RepL c F m ds vs) : RepL c F m (d :: ds) (v :: vs) := by
  simp only [RepL]
  exact ⟨v, vs, rfl, h, h'⟩
theorem ok_cons (ha : PE X e (tM c W m)) (hr : PA X es (tA c W ms)) (hs : starEach (e :: es) X.env = (false, eval e X.env) :: starEach es X.env) :
    PA X (e :: es) (tA c W (M.bind m fun d => M.bind ms fun ds => M.pure (d :: ds))) := by
  refine PA.weak (pa_cons ha hr hs) fun σ H Q ⟨g, R, h⟩ => ⟨g, R, (After.bind h).imp fun d g1 H1 x1 R1 h1 v r => ⟨g1, R1, (After.bind h1).imp fun ds g2 H2 x2 R2 h2 vs rs => ?_⟩⟩
  exact After.pure h2 R2 (v :: vs) (RepL.cons_ (r.ext x2.e) rs)
theorem repL_length {F : Hp} {m : List Addr} : ∀ {ds : List D} {vs : List V}, RepL c F m ds vs → vs.length = ds.length
  | [], _, h => by simp [RepL] at h; subst h; rfl
  | d :: ds, vs, h => by
    simp only [RepL] at h
    obtain ⟨v, r, rfl, _, h⟩ := h
    simp [repL_length h]
theorem ok_tup {k : Nat} (h : PA X es (tA c W ms)) : PE X (.Tuple es k pos) (tM c W (M.bind ms fun ds => if ds.length ≤ SZ then M.pure (.tup ds) else M.bad)) := by
  refine PE.weak (pe_tup h) fun σ H Q ⟨g, R, h⟩ => ⟨g, R, (After.bind h).imp fun ds g1 H1 x1 R1 h1 vs rs => ?_⟩
  have hl := repL_length rs
  by_cases z : ds.length ≤ SZ
  · rw [if_pos z] at h1
    refine ⟨by rw [sizeLine_eq, hl]; exact z, fun p hp => ?_⟩
    obtain ⟨R2, x2⟩ := R1.grow (o := .tup vs) hp
    refine After.app h1 R2 x2 rfl rfl (.ref p) ?_
    simp only [Rep]
    exact ⟨p, vs, rfl, SqT.of upd_same, rs.ext x2.e⟩
  · rw [if_neg z] at h1; exact h1.elim
/-- a new list that is nobody's -/
theorem okF_lst (h : PA X es (tA c W ms)) : PE X (.List es pos) (tF c W (M.bind ms fun ds => if ds.length ≤ SZ then M.pure ds else M.bad)) := by
  refine PE.weak (pe_lst h) fun σ H Q ⟨g, R, h⟩ => ⟨g, R, (After.bind h).imp fun ds g1 H1 x1 R1 h1 vs rs => ?_⟩
  have hl := repL_length rs
  by_cases z : ds.length ≤ SZ
  · rw [if_pos z] at h1
    refine ⟨by rw [sizeLine_eq, hl]; exact z, fun p hp => ?_⟩
    exact h1 g1 H1 rfl rfl .refl R1 p _ (R1.grow0 hp) (R1.loose hp rs)
  · rw [if_neg z] at h1; exact h1.elim
/-- it is made to stay -/
theorem ok_ofF {ms : M (List D)} (h : PE X e (tF c W ms)) : PE X e (tM c W (M.bind ms fun xs => M.pure (.lst xs))) := by
  refine PE.weak h fun σ H Q ⟨g, R, h⟩ => ⟨g, R, (After.bind h).imp fun xs g1 H1 x1 R1 h1 a H2 R2 L => ?_⟩
  obtain ⟨F', R3, x3, r⟩ := R2.freeze L
  exact After.app h1 R3 x3 rfl rfl _ r
end
end Ev

set_option Elab.async false
set_option linter.all false
set_option autoImplicit false
set_option maxRecDepth 100000
/-! EvD: operators by values. -/
namespace Ev
open PySem PySem.Spec PyProof.Rows L2

theorem toStr_app (x y : Txt) : toStr x ++ toStr y = toStr (x ++ y) := by
  show Str.append (toStr x) (toStr y) = toStr (x ++ y)
  simp [Str.append, toStr]
theorem toStr_len (x : Txt) : (toStr x).length = x.length := by simp [Str.length, toStr]
theorem toStr_inj {x y : Txt} (h : toStr x = toStr y) : x = y := by
  simp [toStr] at h; exact h

section
variable {c : Kx} {W : WX} {g : Gs} {σ : St} {H : Hp} {d : D} {ds : List D} {v : V} {vs : List V} {Q : VK}
/-- what is wanted behind an operator that gives d -/
def AD (c : Kx) (W : WX) (g : Gs) (σ : St) (d : D) (Q : VK) : Prop := After c W g σ (.ok d g.ρ g.S) fun d g' H' => ∀ v, Rep c g'.F g'.m d v → Q v H'
theorem AD.here (h : AD c W g σ d Q) (R : Rel c g σ H) (r : Rep c g.F g.m d v) : Q v H := After.app h R .refl rfl rfl v r
theorem AD.tup (h : AD c W g σ (.tup ds) Q) (R : Rel c g σ H) (rs : RepL c g.F g.m ds vs) {p : Addr} (hp : H p = none) : Q (.ref p) (upd H p (.tup vs)) := by
  obtain ⟨R2, x2⟩ := R.grow (o := .tup vs) hp
  refine After.app h R2 x2 rfl rfl (.ref p) ?_
  simp only [Rep]
  exact ⟨p, vs, rfl, SqT.of upd_same, rs.ext x2.e⟩
theorem AD.lst (h : AD c W g σ (.lst ds) Q) (R : Rel c g σ H) (rs : RepL c g.F g.m ds vs) {p : Addr} (hp : H p = none) : Q (.ref p) (upd H p (.lst vs)) := by
  obtain ⟨R2, x2⟩ := R.grow (o := .lst vs) hp
  refine After.app h R2 x2 rfl rfl (.ref p) ?_
  simp only [Rep]
  exact ⟨p, vs, rfl, upd_same, rs.ext x2.e⟩
end

/-! ### lists of representatives -/
section
variable {c : Kx} {F : Hp} {m : List Addr}
theorem RepL.app : ∀ {xs ys : List D} {us vs : List V}, RepL c F m xs us → RepL c F m ys vs → RepL c F m (xs ++ ys) (us ++ vs)
  | [], _, us, _, h, h' => by simp only [RepL] at h; subst h; exact h'
  | x :: xs, ys, us, vs, h, h' => by
    simp only [RepL] at h
    obtain ⟨v, r, rfl, h1, h2⟩ := h
    exact RepL.cons_ h1 (RepL.app h2 h')
theorem RepL.drop_ : ∀ {xs : List D} {us : List V} (n : Nat), RepL c F m xs us → RepL c F m (xs.drop n) (us.drop n)
  | xs, us, 0, h => h
  | [], us, n + 1, h => by simp only [RepL] at h; subst h; simp [RepL]
  | x :: xs, us, n + 1, h => by
    simp only [RepL] at h
    obtain ⟨v, r, rfl, h1, h2⟩ := h
    exact RepL.drop_ n h2
theorem RepL.take_ : ∀ {xs : List D} {us : List V} (n : Nat), RepL c F m xs us → RepL c F m (xs.take n) (us.take n)
  | xs, us, 0, h => by simp [RepL]
  | [], us, n + 1, h => by simp only [RepL] at h; subst h; simp [RepL]
  | x :: xs, us, n + 1, h => by
    simp only [RepL] at h
    obtain ⟨v, r, rfl, h1, h2⟩ := h
    exact RepL.cons_ h1 (RepL.take_ n h2)
theorem RepL.get_ : ∀ {xs : List D} {us : List V} {n : Nat} {d : D}, RepL c F m xs us → xs[n]? = some d → ∃ v, us[n]? = some v ∧ Rep c F m d v
  | [], us, n, d, h, e => by simp at e
  | x :: xs, us, 0, d, h, e => by
    simp only [RepL] at h
    obtain ⟨v, r, rfl, h1, h2⟩ := h
    simp at e; subst e
    exact ⟨v, rfl, h1⟩
  | x :: xs, us, n + 1, d, h, e => by
    simp only [RepL] at h
    obtain ⟨v, r, rfl, h1, h2⟩ := h
    obtain ⟨w, e1, r1⟩ := RepL.get_ (n := n) h2 (by simpa using e)
    exact ⟨w, by simpa using e1, r1⟩
theorem RepL.set_ : ∀ {xs : List D} {us : List V} (n : Nat) {d : D} {v : V}, RepL c F m xs us → Rep c F m d v → RepL c F m (xs.set n d) (us.set n v)
  | [], us, n, d, v, h, r => by simp only [RepL] at h; subst h; simp [RepL]
  | x :: xs, us, 0, d, v, h, r => by
    simp only [RepL] at h
    obtain ⟨w, t, rfl, h1, h2⟩ := h
    exact RepL.cons_ r h2
  | x :: xs, us, n + 1, d, v, h, r => by
    simp only [RepL] at h
    obtain ⟨w, t, rfl, h1, h2⟩ := h
    exact RepL.cons_ h1 (RepL.set_ n h2 r)
theorem RepL.rep_ : ∀ {xs : List D} {us : List V} (n : Nat), RepL c F m xs us → RepL c F m (reps xs n) (List.replicate n us).flatten
  | xs, us, 0, h => by simp [reps, RepL]
  | xs, us, n + 1, h => by
    have q := RepL.rep_ n h
    unfold reps at q ⊢
    rw [List.replicate_succ, List.replicate_succ, List.flatten_cons, List.flatten_cons]
    exact RepL.app h q
theorem RepL.nil_ {xs : List D} {us : List V} (h : RepL c F m xs us) : us = [] ↔ xs = [] := by
  have := repL_length h
  cases xs <;> cases us <;> simp_all
theorem RepL.ints : ∀ {xs : List D} {us : List V} {is : List Int}, RepL c F m xs us → intsOf xs = some is → us = is.map V.int
  | [], us, is, h, e => by simp [intsOf] at e; subst e; simpa [RepL] using h
  | x :: xs, us, is, h, e => by
    simp only [RepL] at h
    obtain ⟨v, r, rfl, h1, h2⟩ := h
    cases x <;> simp [intsOf] at e
    obtain ⟨t, e1, rfl⟩ := e
    rw [RepL.ints h2 e1]
    simp [Rep] at h1
    rw [h1]; rfl
theorem RepL.bls : ∀ {xs : List D} {us : List V} {is : List Bool}, RepL c F m xs us → blsOf xs = some is → us = is.map V.bl
  | [], us, is, h, e => by simp [blsOf] at e; subst e; simpa [RepL] using h
  | x :: xs, us, is, h, e => by
    simp only [RepL] at h
    obtain ⟨v, r, rfl, h1, h2⟩ := h
    cases x <;> simp [blsOf] at e
    obtain ⟨t, e1, rfl⟩ := e
    rw [RepL.bls h2 e1]
    simp [Rep] at h1
    rw [h1]; rfl
theorem RepL.txts : ∀ {xs : List D} {us : List V} {is : List Txt}, RepL c F m xs us → txtsOf xs = some is → us = is.map fun x => V.str (toStr x)
  | [], us, is, h, e => by simp [txtsOf] at e; subst e; simpa [RepL] using h
  | x :: xs, us, is, h, e => by
    simp only [RepL] at h
    obtain ⟨v, r, rfl, h1, h2⟩ := h
    cases x <;> simp [txtsOf] at e
    obtain ⟨t, e1, rfl⟩ := e
    rw [RepL.txts h2 e1]
    simp [Rep] at h1
    rw [h1]; rfl
end

/-! ### a tuple times one is itself -/
theorem tup_mul_one (l : Addr) (items : Array Value) (n : Nat) (dd : Option Addr) (sl : Array (Option Value)) (u : Tok) :
    Meets (Builtin.«tuple.__mul__» ⟨[.ref l, .int 1 u], []⟩) (fun _ R s => s.heap.get? l = some { cls := .type "tuple", dict := dd, data := .seq items n, slots := sl } ∧ R (.ok (.ret (Value.ref l))) s) :=
  .of_wp fun prog w A R s h => by
    obtain ⟨hp, g, d, tk, os⟩ := s
    obtain ⟨hl, h⟩ := h
    have f1 := AutoSeq1.idx_int
    wp_walk using wpAny_loadPart' hl
    exact ⟨_, rfl, h⟩
def rTup1 (K : PySem.W.Frag) : R2 := fun x y H Q => ∃ l us, x = .ref l ∧ y = .int 1 ∧ SqT K H l us ∧ Q (.ref l) H
theorem op_tup1 {X : Cx} : OpR X (binaryOp .Mult) (rTup1 X.K) := by
  intro pins s σ H x y v u Q I rx ry ⟨l, us, e1, e2, hT, q⟩
  subst e1 e2
  cases rx
  obtain ⟨t, rfl⟩ := ry
  obtain ⟨its, r, ⟨ob, hob, hcl, n, hda⟩, _⟩ := I.tuple hT
  obtain ⟨oc, od, odt, osl⟩ := ob
  simp only at hcl hda
  subst hcl hda
  refine wpAny_binaryOp_repeat_ref (T := "tuple") (U := "int") (by decide) ⟨_, hob, rfl⟩ (fun s' => typeIs_int s' 1 t) noFill_tuple_mul F.fills_int_mul F.slot_int_rmul repeat_tuple F.slot_int_index.lookup ?_
  refine call_meets F.slot_int_rmul (typeIs_int s 1 t) F.entry_int_rmul (F.args_int_rmul_2 _ _) (int_rmul_tuple 1 t l its.toArray n od osl) ⟨hob, rfl, ⟨_, hob, rfl⟩, ?_⟩
  exact call_meets F.slot_tuple_mul ⟨_, hob, rfl⟩ F.entry_tuple_mul (F.args_tuple_mul_2 _ _) (tup_mul_one l its.toArray n od osl t) ⟨hob, .ref l, H, I, rfl, q⟩

/-! ### the binary operators -/
def bopOf : Bop → Operator
  | .add => .Add | .sub => .Sub | .mul => .Mult | .mod => .Mod | .fdv => .FloorDiv | .pow => .Pow | .shl => .LShift
section
variable {X : Cx} {c : Kx} {W : WX}
def rBin (c : Kx) (W : WX) (f : D → D → Option D) : R2 := fun x y H Q => ∃ g σ' a b d, Rel c g σ' H ∧ Rep c g.F g.m a x ∧ Rep c g.F g.m b y ∧ f a b = some d ∧ AD c W g σ' d Q
theorem op_bop (o : Bop) (hK : X.K = c.K) : OpR X (binaryOp (bopOf o)) (rBin c W (bop o)) := by
  intro pins s σ H x y v u Q I rx ry ⟨g, σ', a, b, d, R, ra, rb, e, q⟩
  unfold bop at e
  split at e
  case h_1 i j =>
    simp [Rep] at ra rb; subst ra rb; cases e
    exact op_add pins s σ H _ _ v u Q I rx ry ⟨i, j, rfl, rfl, q.here R (by simp [Rep])⟩
  case h_2 i j =>
    simp [Rep] at ra rb; subst ra rb
    split at e
    case isTrue z =>
      cases e
      refine op_add_str pins s σ H _ _ v u Q I rx ry ⟨_, _, rfl, rfl, by rw [toStr_len, toStr_len, sizeLine_eq]; exact z, ?_⟩
      rw [toStr_app]
      exact q.here R (by simp [Rep])
    case isFalse z => cases e
  case h_3 xs ys =>
    simp only [Rep] at ra rb
    obtain ⟨p1, us, rfl, s1, r1⟩ := ra
    obtain ⟨p2, ws, rfl, s2, r2⟩ := rb
    have l1 := repL_length r1
    have l2 := repL_length r2
    have sq : ∀ {a : Addr} {vs : List V}, SqT c.K g.F a vs → SqT X.K H a vs := fun h => by
      rw [hK]; rcases h with (h | ⟨o, h⟩) | h
      · exact .inl (.inl (R.b.fh _ _ h))
      · exact .inl (.inr ⟨o, R.b.fh _ _ h⟩)
      · exact .inr h
    split at e
    case isTrue z =>
      cases e
      refine op_catA pins s σ H _ _ v u Q I rx ry ⟨p1, p2, us, ws, rfl, rfl, sq s1, sq s2, by rw [l1, l2, sizeLine_eq]; exact z.2.2, fun h => ?_, fun h h' => ?_, fun h h' p hp => ?_⟩
      · have : xs = [] := r1.nil_.mp h
        subst this
        exact q.here R (by simp only [Rep]; exact ⟨p2, ws, rfl, s2, by simpa using r2⟩)
      · have : ys = [] := r2.nil_.mp h'
        subst this
        exact q.here R (by simp only [Rep]; exact ⟨p1, us, rfl, s1, by simpa using r1⟩)
      · exact q.tup R (r1.app r2) hp
    case isFalse z => cases e
  case h_4 xs ys =>
    simp only [Rep] at ra rb
    obtain ⟨p1, us, rfl, s1, r1⟩ := ra
    obtain ⟨p2, ws, rfl, s2, r2⟩ := rb
    have l1 := repL_length r1
    have l2 := repL_length r2
    split at e
    case isTrue z =>
      cases e
      exact op_cat pins s σ H _ _ v u Q I rx ry ⟨p1, p2, us, ws, rfl, rfl, R.b.fh _ _ s1, R.b.fh _ _ s2, by rw [l1, l2, sizeLine_eq]; exact z, fun p hp => q.lst R (r1.app r2) hp⟩
    case isFalse z => cases e
  case h_5 i j =>
    simp [Rep] at ra rb; subst ra rb; cases e
    exact op_sub pins s σ H _ _ v u Q I rx ry ⟨i, j, rfl, rfl, q.here R (by simp [Rep])⟩
  case h_6 i j =>
    simp [Rep] at ra rb; subst ra rb
    split at e
    case isTrue z =>
      cases e
      exact op_mul pins s σ H _ _ v u Q I rx ry ⟨i, j, rfl, rfl, by unfold CMul; unfold big64 at z; simpa using z, q.here R (by simp [Rep])⟩
    case isFalse z => cases e
  case h_7 xs k =>
    simp only [Rep] at ra rb
    obtain ⟨p1, us, rfl, s1, r1⟩ := ra
    subst rb
    have l1 := repL_length r1
    split at e
    case isTrue z =>
      cases e
      exact op_rep pins s σ H _ _ v u Q I rx ry ⟨p1, k, us, rfl, rfl, R.b.fh _ _ s1, z.1, z.2.1, by rw [l1, sizeLine_eq]; exact z.2.2, fun p hp => q.lst R (r1.rep_ _) hp⟩
    case isFalse z => cases e
  case h_8 xs k =>
    simp only [Rep] at ra rb
    obtain ⟨p1, us, rfl, s1, r1⟩ := ra
    subst rb
    have l1 := repL_length r1
    have sq : SqT X.K H p1 us := by
      rw [hK]; rcases s1 with (h | ⟨o, h⟩) | h
      · exact .inl (.inl (R.b.fh _ _ h))
      · exact .inl (.inr ⟨o, R.b.fh _ _ h⟩)
      · exact .inr h
    split at e
    case isTrue z =>
      cases e
      by_cases k1 : k = 1
      · subst k1
        refine op_tup1 pins s σ H _ _ v u Q I rx ry ⟨p1, us, rfl, rfl, sq, q.here R ?_⟩
        simp only [Rep]
        refine ⟨p1, us, rfl, s1, ?_⟩
        have e : reps xs (Int.toNat 1) = xs := by simp [reps]
        rw [e]; exact r1
      · exact op_repT pins s σ H _ _ v u Q I rx ry ⟨p1, k, us, rfl, rfl, sq, fun h => z.1 (r1.nil_.mp h), by omega, z.2.2.1, by rw [l1]; exact z.2.2.2, fun p hp => q.tup R (r1.rep_ _) hp⟩
    case isFalse z => cases e
  case h_9 i j =>
    simp [Rep] at ra rb; subst ra rb
    split at e
    case isTrue z =>
      cases e
      exact op_mod pins s σ H _ _ v u Q I rx ry ⟨i, j, rfl, rfl, z, q.here R (by simp [Rep])⟩
    case isFalse z => cases e
  case h_10 i j =>
    simp [Rep] at ra rb; subst ra rb
    split at e
    case isTrue z =>
      cases e
      exact op_fdiv pins s σ H _ _ v u Q I rx ry ⟨i, j, rfl, rfl, z, q.here R (by simp [Rep])⟩
    case isFalse z => cases e
  case h_11 i j =>
    simp [Rep] at ra rb; subst ra rb
    split at e
    case isTrue z =>
      cases e
      exact op_pow pins s σ H _ _ v u Q I rx ry ⟨i, j, rfl, rfl, z, q.here R (by simp [Rep])⟩
    case isFalse z => cases e
  case h_12 i j =>
    simp [Rep] at ra rb; subst ra rb
    split at e
    case isTrue z =>
      cases e
      exact op_shl pins s σ H _ _ v u Q I rx ry ⟨i, j, rfl, rfl, z, q.here R (by simp [Rep])⟩
    case isFalse z => cases e
  case h_13 x k =>
    simp [Rep] at ra rb; subst ra rb
    split at e
    case isTrue z =>
      cases e
      obtain ⟨z1, z2, z3, z4⟩ := z
      obtain ⟨t, rfl⟩ := rx
      obtain ⟨u', rfl⟩ := ry
      have hk : 2 ≤ k.toNat := by omega
      have hk2 : k.toNat ≤ 1000 := by omega
      have hx : (toStr x).length = x.length := toStr_len x
      have hx0 : 0 < x.length := List.length_pos_iff.mpr z1
      have hm : x.length * k.toNat ≤ 1000 * 1000 := Nat.mul_le_mul z4 hk2
      have hno : ¬ (k == 1 || (toStr x).length == 0) = true := by
        intro w
        rw [Bool.or_eq_true] at w
        rcases w with w | w
        · have := eq_of_beq w; omega
        · have := eq_of_beq w; omega
      have he : (⟨(List.replicate k.toNat (toStr x).cps).foldl (· ++ ·) #[]⟩ : Str) = toStr (reps x k.toNat) := by
        have q : ∀ (n : Nat) (acc : Array Nat), (List.replicate n x.toArray).foldl (· ++ ·) acc = acc ++ (reps x n).toArray := fun n => by
          induction n with
          | zero => intro acc; simp [reps]
          | succ n ih =>
            intro acc
            rw [List.replicate_succ, List.foldl_cons, ih]
            simp [reps, List.replicate_succ]
        show (⟨(List.replicate k.toNat x.toArray).foldl (· ++ ·) #[]⟩ : Str) = _
        rw [q]
        simp [toStr]
      have hlen : (reps x k.toNat).length = k.toNat * x.length := by simp [reps]
      refine P.mul_str (by rw [decide_eq_false (show ¬ k < -(2 ^ 63 : Int) by omega), decide_eq_false (show ¬ k ≥ 2 ^ 63 by omega)]; rfl) (fun _ _ => ?_) (fun _ _ => ?_) ?_
      · rw [hx]
        have : (x.length : Int) * k ≤ 1000 * 1000 := by
          have h1 : ((x.length * k.toNat : Nat) : Int) ≤ 1000 * 1000 := by exact_mod_cast hm
          rw [Int.natCast_mul, Int.toNat_of_nonneg (by omega)] at h1
          exact h1
        intro h2
        have h3 : (2 ^ 63 - 1) / k < (x.length : Int) := h2
        have h4 := (Int.ediv_lt_iff_lt_mul (show 0 < k by omega)).mp h3
        omega
      · rw [hx]
        show decide (x.length * k.toNat > sizeLine) = false
        rw [sizeLine_eq]
        simp; omega
      · rw [if_neg (by omega), if_neg hno, he]
        exact ⟨by rw [toStr_len, hlen, Nat.mul_comm, sizeLine_eq]; omega, .str _, H, I.tok _, ⟨_, rfl⟩, q.here R (by simp [Rep])⟩
    case isFalse z => cases e
  case h_14 => cases e
end
end Ev

set_option Elab.async false
set_option linter.all false
set_option autoImplicit false
set_option maxRecDepth 100000
/-! EvE: comparisons, truth, subscripts, slices, by values. -/
namespace Ev
open PySem PySem.Spec PyProof.Rows L2

/-! ### data as the library's data -/
mutual
def toPy : D → PyData
  | .non => .none | .bl b => .bool b | .int i => .int i | .str x => .str (toStr x)
  | .tup xs => .tuple (toPys xs) | .lst xs => .list (toPys xs)
  | .dic _ => .none | .ref _ => .none | .scr _ => .none
def toPys : List D → List PyData
  | [] => []
  | x :: xs => toPy x :: toPys xs
end
mutual
theorem toPy_eqv : ∀ (n k : Nat) (x y : D), D.plain n x = true → D.plain k y = true → PyData.eqv (toPy x) (toPy y) = D.eqb x y := fun n k x y hx hy => by
  cases x <;> cases y <;> first
    | rfl
    | (simp [D.plain] at hx; done)
    | (simp [D.plain] at hy; done)
    | (simp [toPy, PyData.eqv, D.eqb]; done)
    | skip
  · rename_i a b
    simp only [toPy, PyData.eqv, D.eqb]
    rw [Bool.eq_iff_iff]
    simp only [beq_iff_eq]
    exact ⟨toStr_inj, fun h => by rw [h]⟩
  · rename_i a b
    cases n with
    | zero => simp [D.plain] at hx
    | succ n =>
      cases k with
      | zero => simp [D.plain] at hy
      | succ k =>
        simp only [D.plain] at hx hy
        simp only [toPy, PyData.eqv, D.eqb]
        exact toPys_eqv n k a b hx hy
  · rename_i a b
    cases n with
    | zero => simp [D.plain] at hx
    | succ n =>
      cases k with
      | zero => simp [D.plain] at hy
      | succ k =>
        simp only [D.plain] at hx hy
        simp only [toPy, PyData.eqv, D.eqb]
        exact toPys_eqv n k a b hx hy
  termination_by n k x y => sizeOf x
theorem toPys_eqv : ∀ (n k : Nat) (xs ys : List D), D.plains n xs = true → D.plains k ys = true → PyData.eqvAll (toPys xs) (toPys ys) = D.eqbs xs ys
  | n, k, [], [], _, _ => rfl
  | n, k, [], y :: ys, _, _ => rfl
  | n, k, x :: xs, [], _, _ => rfl
  | n, k, x :: xs, y :: ys, hx, hy => by
    simp only [D.plains, Bool.and_eq_true] at hx hy
    simp only [toPys, PyData.eqvAll, D.eqbs]
    rw [toPy_eqv n k x y hx.1 hy.1, toPys_eqv n k xs ys hx.2 hy.2]
  termination_by n k xs => sizeOf xs
end
mutual
theorem plain_lay : ∀ (n : Nat) (x : D), D.plain n x = true → (toPy x).canLay0 = true ∧ (toPy x).depth ≤ n := fun n x hx => by
  cases x with
  | non => simp [toPy, PyData.canLay0, PyData.depth]
  | bl b => simp [toPy, PyData.canLay0, PyData.depth]
  | int i => simp [toPy, PyData.canLay0, PyData.depth]
  | str z =>
    simp only [D.plain] at hx
    simp [toPy, PyData.canLay0, PyData.depth, PyData.strOk, toStr]
    simpa using hx
  | tup xs =>
    cases n with
    | zero => simp [D.plain] at hx
    | succ n =>
      simp only [D.plain] at hx
      have q := plains_lay n xs hx
      simp only [toPy, PyData.canLay0, PyData.depth]
      exact ⟨q.1, by omega⟩
  | lst xs =>
    cases n with
    | zero => simp [D.plain] at hx
    | succ n =>
      simp only [D.plain] at hx
      have q := plains_lay n xs hx
      simp only [toPy, PyData.canLay0, PyData.depth]
      exact ⟨q.1, by omega⟩
  | dic _ => simp [D.plain] at hx
  | ref _ => simp [D.plain] at hx
  | scr _ => simp [D.plain] at hx
  termination_by n x => sizeOf x
theorem plains_lay : ∀ (n : Nat) (xs : List D), D.plains n xs = true → PyData.canLayAll0 (toPys xs) = true ∧ PyData.depthAll (toPys xs) ≤ n
  | n, [], _ => by simp [toPys, PyData.canLayAll0, PyData.depthAll]
  | n, x :: xs, h => by
    simp only [D.plains, Bool.and_eq_true] at h
    have q1 := plain_lay n x h.1
    have q2 := plains_lay n xs h.2
    simp only [toPys, PyData.canLayAll0, PyData.depthAll, Bool.and_eq_true]
    exact ⟨⟨q1.1, q2.1⟩, by omega⟩
  termination_by n xs => sizeOf xs
end
theorem plain_shaped {x : D} (h : D.plain 60 x = true) : SeqAt.shaped (toPy x) = true := by
  have q := plain_lay 60 x h
  unfold SeqAt.shaped
  simp only [Bool.and_eq_true, decide_eq_true_eq]
  exact ⟨q.1, by omega⟩
theorem toPys_any (x : D) (n : Nat) (hx : D.plain n x = true) : ∀ (k : Nat) (ys : List D), D.plains k ys = true → (toPys ys).any (fun z => PyData.eqv z (toPy x)) = ys.any fun y => D.eqb y x
  | _, [], _ => rfl
  | k, y :: ys, h => by
    simp only [D.plains, Bool.and_eq_true] at h
    simp only [toPys, List.any_cons]
    rw [toPy_eqv k n y x h.1 hx, toPys_any x n hx k ys h.2]

/-! ### a value looked at: what stays, or a slot's own list -/
def Bor (c : Kx) (g : Gs) (H : Hp) (d : D) (v : V) : Prop := Rep c g.F g.m d v ∨ ∃ xs a vs, d = .lst xs ∧ v = .ref a ∧ H a = some (.lst vs) ∧ RepL c g.F g.m xs vs
section
variable {c : Kx} {F H : Hp} {m : List Addr}
theorem sqT_of {K : PySem.W.Frag} (fh : ∀ a o, F a = some o → H a = some o) {a : Addr} {vs : List V} (h : SqT K F a vs) : SqT K H a vs := by
  rcases h with (h | ⟨o, h⟩) | h
  · exact .inl (.inl (fh _ _ h))
  · exact .inl (.inr ⟨o, fh _ _ h⟩)
  · exact .inr h
theorem sqL_of {K : PySem.W.Frag} (fh : ∀ a o, F a = some o → H a = some o) {a : Addr} {vs : List V} (h : SqL K F a vs) : SqL K H a vs := by
  rcases h with (h | ⟨o, h⟩) | h
  · exact .inl (.inl (fh _ _ h))
  · exact .inl (.inr ⟨o, fh _ _ h⟩)
  · exact .inr h
mutual
theorem Rep.dp (fh : ∀ a o, F a = some o → H a = some o) : ∀ (n : Nat) (d : D) (v : V), D.plain n d = true → Rep c F m d v → Dp c.K H v (toPy d) := fun n d v hp h => by
  cases d with
  | non => simp [Rep] at h; subst h; exact .non
  | bl b => simp [Rep] at h; subst h; exact .bl b
  | int i => simp [Rep] at h; subst h; exact .int i
  | str x => simp [Rep] at h; subst h; exact .str _
  | tup xs =>
    cases n with
    | zero => simp [D.plain] at hp
    | succ n =>
      simp only [D.plain] at hp
      simp only [Rep] at h
      obtain ⟨a, vs, rfl, s, r⟩ := h
      simp only [toPy]
      exact .tup (sqT_of fh s) (RepL.dp fh n xs vs hp r)
  | lst xs =>
    cases n with
    | zero => simp [D.plain] at hp
    | succ n =>
      simp only [D.plain] at hp
      simp only [Rep] at h
      obtain ⟨a, vs, rfl, s, r⟩ := h
      simp only [toPy]
      exact .lst (SqL.of (fh _ _ s)) (RepL.dp fh n xs vs hp r)
  | dic _ => simp [D.plain] at hp
  | ref _ => simp [D.plain] at hp
  | scr _ => simp [D.plain] at hp
  termination_by n d => sizeOf d
theorem RepL.dp (fh : ∀ a o, F a = some o → H a = some o) : ∀ (n : Nat) (ds : List D) (vs : List V), D.plains n ds = true → RepL c F m ds vs → DpAll c.K H vs (toPys ds)
  | n, [], vs, _, h => by simp only [RepL] at h; subst h; exact .nil
  | n, d :: ds, vs, hp, h => by
    simp only [D.plains, Bool.and_eq_true] at hp
    simp only [RepL] at h
    obtain ⟨v, r, rfl, h1, h2⟩ := h
    simp only [toPys]
    exact .cons (Rep.dp fh n d v hp.1 h1) (RepL.dp fh n ds r hp.2 h2)
  termination_by n ds => sizeOf ds
end
end
section
variable {c : Kx} {g : Gs} {H : Hp} {σ : St}
theorem Bor.of {d : D} {v : V} (h : Rep c g.F g.m d v) : Bor c g H d v := .inl h
theorem Bor.dp (R : Rel c g σ H) {d : D} {v : V} (hp : D.plain 60 d = true) (h : Bor c g H d v) : Dp c.K H v (toPy d) := by
  rcases h with h | ⟨xs, a, vs, rfl, rfl, e, r⟩
  · exact Rep.dp R.b.fh 60 d v hp h
  · simp only [D.plain] at hp
    simp only [toPy]
    exact .lst (SqL.of e) (RepL.dp R.b.fh 59 xs vs hp r)
/-- a list or tuple looked at -/
theorem Bor.lst (R : Rel c g σ H) {xs : List D} {v : V} (h : Bor c g H (.lst xs) v) : ∃ a vs, v = .ref a ∧ H a = some (.lst vs) ∧ RepL c g.F g.m xs vs := by
  rcases h with h | ⟨ys, a, vs, e, rfl, e2, r⟩
  · simp only [Rep] at h
    obtain ⟨a, vs, rfl, s, r⟩ := h
    exact ⟨a, vs, rfl, R.b.fh _ _ s, r⟩
  · cases e; exact ⟨a, vs, rfl, e2, r⟩
theorem Bor.rep {d : D} {v : V} (h : Bor c g H d v) (n : ∀ xs, d ≠ .lst xs) : Rep c g.F g.m d v := by
  rcases h with h | ⟨xs, a, vs, e, _⟩
  · exact h
  · exact absurd e (n xs)
theorem Bor.tup (R : Rel c g σ H) {xs : List D} {v : V} (h : Bor c g H (.tup xs) v) : ∃ a vs, v = .ref a ∧ SqT c.K H a vs ∧ RepL c g.F g.m xs vs := by
  have h := h.rep (fun _ z => by cases z)
  simp only [Rep] at h
  obtain ⟨a, vs, rfl, s, r⟩ := h
  exact ⟨a, vs, rfl, sqT_of R.b.fh s, r⟩
end

/-! ### flat values -/
theorem flat_rep {c : Kx} {F : Hp} {m : List Addr} {d : D} {v : V} (h : D.flat d = true) (r : Rep c F m d v) : flatV v = true := by
  cases d <;> simp [D.flat] at h <;> simp [Rep] at r <;> subst r <;> rfl
theorem flats_rep {c : Kx} {F : Hp} {m : List Addr} : ∀ {ds : List D} {vs : List V}, ds.all D.flat = true → RepL c F m ds vs → vs.all flatV = true
  | [], vs, _, h => by simp only [RepL] at h; subst h; rfl
  | d :: ds, vs, hf, h => by
    simp only [RepL] at h
    obtain ⟨v, r, rfl, h1, h2⟩ := h
    simp only [List.all_cons, Bool.and_eq_true] at hf ⊢
    exact ⟨flat_rep hf.1 h1, flats_rep hf.2 h2⟩
theorem str_beq (x y : Txt) : (toStr x == toStr y) = (x == y) := by
  rw [Bool.eq_iff_iff]; simp only [beq_iff_eq]; exact ⟨toStr_inj, fun h => by rw [h]⟩
theorem flat_eqV {c : Kx} {F : Hp} {m : List Addr} {d e : D} {v w : V} (h : D.flat d = true) (h' : D.flat e = true) (r : Rep c F m d v) (r' : Rep c F m e w) : eqV v w = D.eqb d e := by
  cases d <;> simp [D.flat] at h <;> cases e <;> simp [D.flat] at h' <;> simp [Rep] at r r' <;> subst r r' <;> first | rfl | (simp only [eqV, D.eqb]; exact str_beq _ _)
theorem flats_any {c : Kx} {F : Hp} {m : List Addr} {d : D} {v : V} (h : D.flat d = true) (r : Rep c F m d v) : ∀ {ds : List D} {vs : List V}, ds.all D.flat = true → RepL c F m ds vs → inV v vs = ds.any fun y => D.eqb y d
  | [], vs, _, h => by simp only [RepL] at h; subst h; rfl
  | e :: ds, vs, hf, h2 => by
    simp only [RepL] at h2
    obtain ⟨w, r', rfl, h1, h2⟩ := h2
    simp only [List.all_cons, Bool.and_eq_true] at hf
    have ih := flats_any h r hf.2 h2
    unfold inV at ih ⊢
    simp only [List.any_cons]
    rw [ih, flat_eqV hf.1 h h1 r]

/-! ### comparisons -/
def copOf : Cop → CmpOp
  | .eq => .Eq | .ne => .NotEq | .lt => .Lt | .le => .LtE | .gt => .Gt | .ge => .GtE | .is_ => .Is | .nis => .IsNot | .in_ => .In | .nin => .NotIn
section
variable {X : Cx} {c : Kx}
def rCop (c : Kx) (f : D → D → Option Bool) : R2 := fun x y H Q => ∃ g σ' a b k, Rel c g σ' H ∧ Bor c g H a x ∧ Bor c g H b y ∧ f a b = some k ∧ Q (.bl k) H
theorem eqo_cases {x y : D} {k : Bool} (h : eqo x y = some k) : (∃ a b, x = .str a ∧ y = .str b ∧ k = (a == b)) ∨ (∃ a b, x = .int a ∧ y = .int b ∧ k = (a == b)) ∨ (∃ a b, x = .bl a ∧ y = .bl b ∧ k = (a == b)) ∨
    (D.plain 60 x = true ∧ D.plain 60 y = true ∧ k = D.eqb x y) := by
  unfold eqo at h
  split at h
  · cases h; exact .inl ⟨_, _, rfl, rfl, rfl⟩
  · cases h; exact .inr (.inl ⟨_, _, rfl, rfl, rfl⟩)
  · cases h; exact .inr (.inr (.inl ⟨_, _, rfl, rfl, rfl⟩))
  · split at h
    · rename_i z
      simp only [Bool.and_eq_true] at z
      cases h
      exact .inr (.inr (.inr ⟨z.1, z.2, rfl⟩))
    · cases h
theorem op_eqo (hK : X.K = c.K) (hu : X.A.units + 64 < cLine) : OpR X (compareOp .Eq) (rCop c eqo) := by
  intro pins s σ H x y v u Q I rx ry ⟨g, σ', a, b, k, R, ra, rb, e, q⟩
  rcases eqo_cases e with ⟨i, j, rfl, rfl, rfl⟩ | ⟨i, j, rfl, rfl, rfl⟩ | ⟨i, j, rfl, rfl, rfl⟩ | ⟨h1, h2, rfl⟩
  · have ra := ra.rep (fun _ z => by cases z)
    have rb := rb.rep (fun _ z => by cases z)
    simp [Rep] at ra rb; subst ra rb
    refine op_eq pins s σ H _ _ v u Q I rx ry ⟨rfl, ?_⟩
    rw [dec_str, str_beq]; exact q
  · have ra := ra.rep (fun _ z => by cases z)
    have rb := rb.rep (fun _ z => by cases z)
    simp [Rep] at ra rb; subst ra rb
    refine op_eq pins s σ H _ _ v u Q I rx ry ⟨rfl, ?_⟩
    rw [dec_int]; exact q
  · have ra := ra.rep (fun _ z => by cases z)
    have rb := rb.rep (fun _ z => by cases z)
    simp [Rep] at ra rb; subst ra rb
    refine op_eq pins s σ H _ _ v u Q I rx ry ⟨rfl, ?_⟩
    rw [dec_bl]; exact q
  · refine op_eqD hu pins s σ H _ _ v u Q I rx ry ⟨toPy a, toPy b, by rw [hK]; exact ra.dp R h1, by rw [hK]; exact rb.dp R h2, plain_shaped h1, plain_shaped h2, ?_⟩
    rw [toPy_eqv 60 60 a b h1 h2]; exact q
theorem op_neo (hK : X.K = c.K) (hu : X.A.units + 64 < cLine) : OpR X (compareOp .NotEq) (rCop c fun x y => (eqo x y).map (!·)) := by
  intro pins s σ H x y v u Q I rx ry ⟨g, σ', a, b, k, R, ra, rb, e, q⟩
  obtain ⟨k', e', rfl⟩ := Option.map_eq_some_iff.mp e
  rcases eqo_cases e' with ⟨i, j, rfl, rfl, rfl⟩ | ⟨i, j, rfl, rfl, rfl⟩ | ⟨i, j, rfl, rfl, rfl⟩ | ⟨h1, h2, rfl⟩
  · have ra := ra.rep (fun _ z => by cases z)
    have rb := rb.rep (fun _ z => by cases z)
    simp [Rep] at ra rb; subst ra rb
    refine op_ne pins s σ H _ _ v u Q I rx ry ⟨rfl, ?_⟩
    rw [dec_str, str_beq]; exact q
  · have ra := ra.rep (fun _ z => by cases z)
    have rb := rb.rep (fun _ z => by cases z)
    simp [Rep] at ra rb; subst ra rb
    refine op_ne pins s σ H _ _ v u Q I rx ry ⟨rfl, ?_⟩
    rw [dec_int]; exact q
  · have ra := ra.rep (fun _ z => by cases z)
    have rb := rb.rep (fun _ z => by cases z)
    simp [Rep] at ra rb; subst ra rb
    refine op_ne pins s σ H _ _ v u Q I rx ry ⟨rfl, ?_⟩
    rw [dec_bl]; exact q
  · refine op_neD hu pins s σ H _ _ v u Q I rx ry ⟨toPy a, toPy b, by rw [hK]; exact ra.dp R h1, by rw [hK]; exact rb.dp R h2, plain_shaped h1, plain_shaped h2, ?_⟩
    rw [toPy_eqv 60 60 a b h1 h2]; exact q
theorem op_ino (neg : Bool) (hK : X.K = c.K) (hu : X.A.units + 65 < cLine) {x y : D} {ys : List D} (hy : y = .tup ys ∨ y = .lst ys) (ok : inOk x ys = true)
    {pins : List (Addr × Obj)} {s : Shared} {σ σ' : St} {H : Hp} {g : Gs} {v w : V} {u u' : Value} {Q : VK} (I : Inv X pins σ H s) (R : Rel c g σ' H) (ra : Bor c g H x v) (rb : Bor c g H y w) (rv : RelV v u) (rw' : RelV w u')
    (q : Q (.bl (if neg then !ys.any fun y => D.eqb y x else ys.any fun y => D.eqb y x)) H) : wpAny (model X.prog X.w) X.A (compareOp (if neg then .NotIn else .In) u u') (EP X pins σ Q) X.xe s := by
  unfold inOk at ok
  simp only [Bool.or_eq_true, Bool.and_eq_true] at ok
  obtain ⟨p, vs, e1, hs, r⟩ : ∃ p vs, w = .ref p ∧ (SqL X.K H p vs ∨ SqT X.K H p vs) ∧ RepL c g.F g.m ys vs := by
    rcases hy with rfl | rfl
    · obtain ⟨a, vs, e1, s1, r1⟩ := rb.tup R
      exact ⟨a, vs, e1, .inr (by rw [hK]; exact s1), r1⟩
    · obtain ⟨a, vs, e1, s1, r1⟩ := rb.lst R
      exact ⟨a, vs, e1, .inl (SqL.of s1), r1⟩
  subst e1
  rcases ok with ⟨f1, f2⟩ | ⟨f1, f2⟩
  · have ra := ra.rep (fun _ z => by rw [z] at f1; simp [D.flat] at f1)
    have e := flats_any f1 ra f2 r
    cases neg with
    | true => exact op_notIn_seq pins s σ H _ _ u u' Q I rv rw' ⟨p, vs, rfl, hs, flat_rep f1 ra, flats_rep f2 r, by simp only [if_true] at q ⊢; rw [e]; exact q⟩
    | false => exact op_in_seq pins s σ H _ _ u u' Q I rv rw' ⟨p, vs, rfl, hs, flat_rep f1 ra, flats_rep f2 r, by simp only [Bool.false_eq_true, if_false] at q ⊢; rw [e]; exact q⟩
  · obtain ⟨as, r1⟩ := Dp.reads I (toPy x) v u (by rw [hK]; exact ra.dp R f1) rv
    have l1 := plain_lay 60 x f1
    have l2 := plains_lay 60 ys f2
    have e := toPys_any x 60 f1 60 ys f2
    have hd := RepL.dp R.b.fh 60 ys vs f2 r
    have hu' : X.A.units + 1 + min (PyData.depthAll (toPys ys)) (toPy x).depth < cLine := by have := Nat.min_le_left (PyData.depthAll (toPys ys)) (toPy x).depth; omega
    rcases hs with hs | hs
    · obtain ⟨bs, r2⟩ := Dp.reads I (.list (toPys ys)) (.ref p) u' (.lst hs (by rw [hK]; exact hd)) rw'
      cases neg with
      | true => exact SeqAt.notIn_list_reads r2 r1 l2.1 l1.1 hu' ⟨.bl _, H, I, rfl, by rw [e]; exact q⟩
      | false => exact SeqAt.in_list_reads r2 r1 l2.1 l1.1 hu' ⟨.bl _, H, I, rfl, by rw [e]; exact q⟩
    · obtain ⟨bs, r2⟩ := Dp.reads I (.tuple (toPys ys)) (.ref p) u' (.tup hs (by rw [hK]; exact hd)) rw'
      cases neg with
      | true => exact SeqAt.notIn_tuple_reads r2 r1 l2.1 l1.1 hu' ⟨.bl _, H, I, rfl, by rw [e]; exact q⟩
      | false => exact SeqAt.in_tuple_reads r2 r1 l2.1 l1.1 hu' ⟨.bl _, H, I, rfl, by rw [e]; exact q⟩
theorem Rep.non_iff {F : Hp} {m : List Addr} {d : D} {v : V} (r : Rep c F m d v) : decide (v = .non) = D.isNon d := by
  cases d <;> simp only [Rep] at r
  case non => subst r; rfl
  case bl => subst r; rfl
  case int => subst r; rfl
  case str => subst r; rfl
  case tup => obtain ⟨a, vs, rfl, _⟩ := r; rfl
  case lst => obtain ⟨a, vs, rfl, _⟩ := r; rfl
  case dic => obtain ⟨a, rfl, _⟩ := r; rfl
  case ref => obtain ⟨a, _, rfl⟩ := r; rfl
  case scr => obtain ⟨a, rfl, _⟩ := r; rfl
theorem Bor.non_iff {g : Gs} {H : Hp} {d : D} {v : V} (r : Bor c g H d v) : decide (v = .non) = D.isNon d := by
  rcases r with r | ⟨xs, a, vs, rfl, rfl, _⟩
  · exact r.non_iff
  · rfl
theorem dec_any {p q : Prop} [Decidable p] [Decidable q] (h : p ↔ q) : decide p = decide q := decide_eq_decide.mpr h
theorem WDict.has {kvs : List (D × D)} {a : Addr} (h : WDict c kvs a) (z : Txt) : (∃ es n, L2.KDict c.K c.w a es n) ∧ ∃ r, PySem.W.nsIn c.K a (toStr z) = some r ∧ r.isSome = (dget (.str z) kvs).isSome := by
  refine ⟨h.1, ?_⟩
  obtain ⟨r, hr, hm⟩ := h.2 z
  refine ⟨r, hr, ?_⟩
  cases hg : dget (.str z) kvs with
  | none => rw [hg] at hm; subst hm; rfl
  | some w => rw [hg] at hm; obtain ⟨u, v0, rfl, _⟩ := hm; rfl
theorem Bor.wdict {g : Gs} {H : Hp} {p : D × D} {kvs : List (D × D)} {v : V} (r : Bor c g H (.dic (p :: kvs)) v) : ∃ a, v = .ref a ∧ WDict c (p :: kvs) a := by
  have r := r.rep (fun _ z => by cases z)
  simp only [Rep] at r
  obtain ⟨a, e, h | h⟩ := r
  · cases h.1
  · exact ⟨a, e, h⟩
theorem op_cop (o : Cop) (hK : X.K = c.K) (hw : X.w = c.w) (hu : X.A.units + 65 < cLine) : OpR X (compareOp (copOf o)) (rCop c (cop o)) := by
  intro pins s σ H x y v u Q I rx ry ⟨g, σ', a, b, k, R, ra, rb, e, q⟩
  unfold cop at e
  split at e
  case h_1 => exact op_eqo hK (by omega) pins s σ H x y v u Q I rx ry ⟨g, σ', a, b, k, R, ra, rb, e, q⟩
  case h_2 => exact op_neo hK (by omega) pins s σ H x y v u Q I rx ry ⟨g, σ', a, b, k, R, ra, rb, e, q⟩
  case h_3 i j =>
    have ra := ra.rep (fun _ z => by cases z)
    have rb := rb.rep (fun _ z => by cases z)
    simp [Rep] at ra rb; subst ra rb; cases e
    exact op_lt pins s σ H _ _ v u Q I rx ry ⟨_, _, rfl, rfl, q⟩
  case h_4 i j =>
    have ra := ra.rep (fun _ z => by cases z)
    have rb := rb.rep (fun _ z => by cases z)
    simp [Rep] at ra rb; subst ra rb; cases e
    exact op_lt_str pins s σ H _ _ v u Q I rx ry ⟨_, _, rfl, rfl, by rw [dec_any (q := i < j) (by simp [toStr])]; exact q⟩
  case h_5 i j =>
    have ra := ra.rep (fun _ z => by cases z)
    have rb := rb.rep (fun _ z => by cases z)
    simp [Rep] at ra rb; subst ra rb; cases e
    exact op_le pins s σ H _ _ v u Q I rx ry ⟨_, _, rfl, rfl, q⟩
  case h_6 i j =>
    have ra := ra.rep (fun _ z => by cases z)
    have rb := rb.rep (fun _ z => by cases z)
    simp [Rep] at ra rb; subst ra rb; cases e
    exact op_gt pins s σ H _ _ v u Q I rx ry ⟨_, _, rfl, rfl, q⟩
  case h_7 i j =>
    have ra := ra.rep (fun _ z => by cases z)
    have rb := rb.rep (fun _ z => by cases z)
    simp [Rep] at ra rb; subst ra rb; cases e
    exact op_ge pins s σ H _ _ v u Q I rx ry ⟨_, _, rfl, rfl, q⟩
  case h_8 =>
    have rb := rb.rep (fun _ z => by cases z)
    simp [Rep] at rb; subst rb; cases e
    exact op_isN pins s σ H _ _ v u Q I rx ry ⟨rfl, by rw [ra.non_iff]; exact q⟩
  case h_9 =>
    have rb := rb.rep (fun _ z => by cases z)
    simp [Rep] at rb; subst rb; cases e
    exact op_notN pins s σ H _ _ v u Q I rx ry ⟨rfl, by rw [ra.non_iff]; exact q⟩
  case h_10 i j =>
    have ra := ra.rep (fun _ z => by cases z)
    have rb := rb.rep (fun _ z => by cases z)
    simp [Rep] at ra rb; subst ra rb; cases e
    exact op_isBl pins s σ H _ _ v u Q I rx ry ⟨_, _, rfl, rfl, by rw [← Bool.beq_eq_decide_eq]; exact q⟩
  case h_11 i j =>
    have ra := ra.rep (fun _ z => by cases z)
    have rb := rb.rep (fun _ z => by cases z)
    simp [Rep] at ra rb; subst ra rb; cases e
    exact op_notBl pins s σ H _ _ v u Q I rx ry ⟨_, _, rfl, rfl, by rw [← Bool.beq_eq_decide_eq]; exact q⟩
  case h_12 i j =>
    have ra := ra.rep (fun _ z => by cases z)
    have rb := rb.rep (fun _ z => by cases z)
    simp [Rep] at ra rb; subst ra rb; cases e
    exact op_in_sign pins s σ H _ _ v u Q I rx ry ⟨i, toStr j, rfl, rfl, by rw [dec_any (q := i ∈ j) (by simp [toStr])]; exact q⟩
  case h_13 i j =>
    have ra := ra.rep (fun _ z => by cases z)
    have rb := rb.rep (fun _ z => by cases z)
    simp [Rep] at ra rb; subst ra rb; cases e
    exact op_notIn_sign pins s σ H _ _ v u Q I rx ry ⟨i, toStr j, rfl, rfl, by rw [dec_any (q := i ∈ j) (by simp [toStr])]; exact q⟩
  case h_14 ys =>
    split at e
    case isTrue z => cases e; exact op_ino false hK hu (.inl rfl) z I R ra rb rx ry q
    case isFalse z => cases e
  case h_15 ys =>
    split at e
    case isTrue z => cases e; exact op_ino true hK hu (.inl rfl) z I R ra rb rx ry q
    case isFalse z => cases e
  case h_16 ys =>
    split at e
    case isTrue z => cases e; exact op_ino false hK hu (.inr rfl) z I R ra rb rx ry q
    case isFalse z => cases e
  case h_17 ys =>
    split at e
    case isTrue z => cases e; exact op_ino true hK hu (.inr rfl) z I R ra rb rx ry q
    case isFalse z => cases e
  case h_18 z p kvs =>
    have ra := ra.rep (fun _ z => by cases z)
    simp only [Rep] at ra
    obtain ⟨d, rfl, hd⟩ := rb.wdict
    subst ra
    cases e
    obtain ⟨⟨es, n, D⟩, r, hr, hi⟩ := hd.has z
    exact op_in_kd (X := X) (by rw [hK, hw]; exact D) pins s σ H _ _ v u Q I rx ry ⟨_, r, rfl, rfl, by rw [hK]; exact hr, by rw [hi]; exact q⟩
  case h_19 z p kvs =>
    have ra := ra.rep (fun _ z => by cases z)
    simp only [Rep] at ra
    obtain ⟨d, rfl, hd⟩ := rb.wdict
    subst ra
    cases e
    obtain ⟨⟨es, n, D⟩, r, hr, hi⟩ := hd.has z
    exact op_notIn_kd (X := X) (by rw [hK, hw]; exact D) pins s σ H _ _ v u Q I rx ry ⟨_, r, rfl, rfl, by rw [hK]; exact hr, by rw [hi]; exact q⟩
  case h_20 => cases e
end
end Ev

set_option Elab.async false
set_option linter.all false
set_option autoImplicit false
set_option maxRecDepth 100000
/-! EvF: truth, subscripts, slices, built-ins and methods by values. -/
namespace Ev
open PySem PySem.Spec PyProof.Rows L2

/-- repr, where the library tells it -/
def shownD (d : D) : Option Txt := if D.plain 60 d && PyData.showable (toPy d) && decide ((PyData.shown (toPy d)).length ≤ SZ) then some (PyData.shown (toPy d)).cps.toList else none

section
variable {X : Cx} {c : Kx} {g : Gs} {σ : St} {H : Hp}
theorem isEmpty_repL {F : Hp} {m : List Addr} {xs : List D} {vs : List V} (r : RepL c F m xs vs) : vs.isEmpty = xs.isEmpty := by
  have := repL_length r
  cases xs <;> cases vs <;> simp_all
theorem truth_ok (hK : X.K = c.K) (R : Rel c g σ H) {d : D} {v : V} {k : Bool} (b : Bor c g H d v) (h : truth d = some k) : TruV X.K v H k := by
  cases d with
  | non => have b := b.rep (fun _ z => by cases z); simp [Rep] at b; subst b; simp [truth] at h; subst h; rfl
  | bl x => have b := b.rep (fun _ z => by cases z); simp [Rep] at b; subst b; simp [truth] at h; subst h; rfl
  | int i =>
    have b := b.rep (fun _ z => by cases z); simp [Rep] at b; subst b; simp only [truth, Option.some.injEq] at h; subst h
    show decide (i ≠ 0) = (i != 0)
    by_cases z : i = 0
    · subst z; rfl
    · simp [z]
  | str x =>
    have b := b.rep (fun _ z => by cases z); simp [Rep] at b; subst b
    simp only [truth] at h
    split at h
    · rename_i z
      simp only [Option.some.injEq] at h; subst h
      refine ⟨by rw [toStr_len, sizeLine_eq]; exact z, ?_⟩
      rw [toStr_len]
      cases x with
      | nil => rfl
      | cons a r =>
        simp only [List.isEmpty_cons, Bool.not_false, List.length_cons]
        symm
        simp
        omega
    · cases h
  | tup xs =>
    obtain ⟨a, vs, rfl, s, r⟩ := b.tup R
    simp only [truth, Option.some.injEq] at h; subst h
    exact .inr (.inl ⟨vs, by rw [hK]; exact s, by rw [isEmpty_repL r]⟩)
  | lst xs =>
    obtain ⟨a, vs, rfl, s, r⟩ := b.lst R
    simp only [truth, Option.some.injEq] at h; subst h
    exact .inl ⟨vs, SqL.of s, by rw [isEmpty_repL r]⟩
  | dic kvs => simp [truth] at h
  | ref n => simp [truth] at h
  | scr ns => simp [truth] at h

theorem atI_eq {α : Type} {xs : List α} {i : Int} {d : α} (h : Ev.atI xs i = some d) : ∃ n, L2.ixN xs.length i = some n ∧ xs[n]? = some d := by
  unfold Ev.atI at h
  unfold L2.ixN
  by_cases h0 : 0 ≤ i
  · rw [if_pos h0] at h ⊢
    have hl := (List.getElem?_eq_some_iff.mp h).1
    exact ⟨i.toNat, by rw [if_pos (by omega)], h⟩
  · rw [if_neg h0] at h ⊢
    by_cases h1 : 0 ≤ i + xs.length
    · rw [if_pos h1] at h
      exact ⟨(i + xs.length).toNat, by rw [if_pos (by omega)], h⟩
    · rw [if_neg h1] at h; cases h
theorem atI_V {F : Hp} {m : List Addr} {xs : List D} {vs : List V} {i : Int} {d : D} (r : RepL c F m xs vs) (h : Ev.atI xs i = some d) : ∃ v, L2.atI vs i = some v ∧ Rep c F m d v := by
  obtain ⟨n, h1, h2⟩ := atI_eq h
  obtain ⟨v, e, rv⟩ := r.get_ h2
  refine ⟨v, ?_, rv⟩
  unfold L2.atI
  rw [repL_length r, h1]; exact e
def rIdx (c : Kx) (W : WX) : R2 := fun x y H Q => ∃ g σ' a b d, Rel c g σ' H ∧ Bor c g H a x ∧ Rep c g.F g.m b y ∧ index a b = some d ∧ AD c W g σ' d Q
theorem ix_idx {W : WX} (hK : X.K = c.K) (hw : X.w = c.w) : IxR X (rIdx c W) := by
  intro value sli pins s σ H x y v u Q I rx ry ⟨g, σ', a, b, d, R, ra, rb, e, q⟩ hs
  unfold index at e
  split at e
  case h_1 ns i =>
    have ra := ra.rep (fun _ z => by cases z)
    simp only [Rep] at ra rb; subst rb
    obtain ⟨p, rfl, sq⟩ := ra
    obtain ⟨n, e', rfl⟩ := Option.map_eq_some_iff.mp e
    obtain ⟨k, h1, h2⟩ := atI_eq e'
    refine ix_list value sli pins s σ H _ _ v u Q I rx ry ⟨p, _, i, .int n, rfl, rfl, by rw [hK]; exact sqL_of R.b.fh sq, ?_, q.here R (by simp [Rep])⟩ hs
    unfold L2.atI
    rw [List.length_map, h1]
    show (ns.map V.int)[k]? = _
    rw [List.getElem?_map, h2]; rfl
  case h_2 xs i =>
    simp only [Rep] at rb; subst rb
    obtain ⟨p, vs, rfl, s1, r1⟩ := ra.tup R
    obtain ⟨w, h1, h2⟩ := atI_V r1 e
    exact ix_tup value sli pins s σ H _ _ v u Q I rx ry ⟨p, vs, i, w, rfl, rfl, by rw [hK]; exact s1, h1, q.here R h2⟩ hs
  case h_3 xs i =>
    simp only [Rep] at rb; subst rb
    obtain ⟨p, vs, rfl, s1, r1⟩ := ra.lst R
    obtain ⟨w, h1, h2⟩ := atI_V r1 e
    exact ix_list value sli pins s σ H _ _ v u Q I rx ry ⟨p, vs, i, w, rfl, rfl, SqL.of s1, h1, q.here R h2⟩ hs
  case h_4 z i =>
    have ra := ra.rep (fun _ z => by cases z)
    simp only [Rep] at ra rb; subst ra rb
    split at e
    case isTrue hz =>
      obtain ⟨n, e', rfl⟩ := Option.map_eq_some_iff.mp e
      obtain ⟨k, h1, h2⟩ := atI_eq e'
      refine ix_str value sli pins s σ H _ _ v u Q I rx ry ⟨toStr z, i, n, rfl, rfl, by rw [toStr_len, sizeLine_eq]; exact hz, ?_, q.here R (by simp [Rep, toStr])⟩ hs
      unfold L2.atI
      show (L2.ixN z.length i).bind (fun j => z[j]?) = some n
      rw [h1]; exact h2
    case isFalse hz => cases e
  case h_5 p kvs k =>
    obtain ⟨a, rfl, ⟨es, n, KD⟩, hd⟩ := ra.wdict
    simp only [Rep] at rb; subst rb
    obtain ⟨r, hr, hm⟩ := hd k
    rw [e] at hm
    obtain ⟨u0, v0, rfl, rv, fl⟩ := hm
    refine ix_kdict value sli pins s σ H _ _ v u Q I rx ry ⟨a, toStr k, v0, rfl, rfl, ⟨es, n, u0, by rw [hK]; exact KD.at_, by rw [hw]; exact KD.lit, by rw [hK]; exact hr, rv⟩, q.here R ?_⟩ hs
    cases d <;> simp only [FlatV] at fl <;> simp only [Rep] <;> exact fl
  case h_6 => cases e

theorem cut_cutV {F : Hp} {m : List Addr} {xs : List D} {vs : List V} (r : RepL c F m xs vs) (lo hi : Option Int) : RepL c F m (cut xs lo hi) (cutV vs lo hi) := by
  unfold cut cutV
  rw [repL_length r]
  have e : ∀ n d o, HT.sIx n d o = Ev.sIx n d o := fun n d o => by cases o <;> rfl
  rw [e, e]
  exact (r.drop_ _).take_ _
def rSli (c : Kx) (W : WX) : V → Option Int → Option Int → Hp → VK → Prop := fun x lo hi H Q => ∃ g σ' a d, Rel c g σ' H ∧ Bor c g H a x ∧ slice a lo hi = some d ∧ AD c W g σ' d Q
theorem sl_sli {W : WX} (hK : X.K = c.K) : SlR X (rSli c W) := by
  intro pins s σ H x v vl vu lo hi sl Q I rx hs pl pu ⟨g, σ', a, d, R, ra, e, q⟩
  unfold slice at e
  split at e
  case h_1 xs =>
    obtain ⟨p, vs, rfl, s1, r1⟩ := ra.tup R
    cases e
    refine sl_tupA pins s σ H _ v vl vu lo hi sl Q I rx hs pl pu ⟨p, vs, rfl, by rw [hK]; exact s1, fun hh => ?_, fun _ p' hp => q.tup R (cut_cutV r1 lo hi) hp⟩
    have ra := ra.rep (fun _ z => by cases z)
    have e : cut xs lo hi = xs := by
      have l := repL_length r1
      have e : ∀ n d o, HT.sIx n d o = Ev.sIx n d o := fun n d o => by cases o <;> rfl
      rw [e, e, l] at hh
      unfold cut
      rw [hh.1, hh.2]; simp
    rw [e] at q
    exact q.here R ra
  case h_2 xs =>
    obtain ⟨p, vs, rfl, s1, r1⟩ := ra.lst R
    cases e
    exact sl_list pins s σ H _ v vl vu lo hi sl Q I rx hs pl pu ⟨p, vs, rfl, SqL.of s1, fun p' hp => q.lst R (cut_cutV r1 lo hi) hp⟩
  case h_3 z =>
    have ra := ra.rep (fun _ z => by cases z)
    simp only [Rep] at ra; subst ra
    split at e
    case isTrue hz =>
      cases e
      refine sl_str pins s σ H _ v vl vu lo hi sl Q I rx hs pl pu ⟨toStr z, rfl, by rw [toStr_len, sizeLine_eq]; exact hz, q.here R ?_⟩
      simp only [Rep, V.str.injEq]
      unfold cutS cut
      have e : ∀ n d o, HT.sIx n d o = Ev.sIx n d o := fun n d o => by cases o <;> rfl
      rw [e, e, toStr_len]
      rfl
    case isFalse hz => cases e
  case h_4 => cases e
end
end Ev

set_option Elab.async false
set_option linter.all false
set_option autoImplicit false
set_option maxRecDepth 100000
/-! EvF2: built-in functions and methods by values. -/
namespace Ev
open PySem PySem.Spec PyProof.Rows L2

def rBi (c : Kx) (W : WX) (b : Bi) : List V → Hp → VK → Prop := fun xs H Q => ∃ g σ' ds d, Rel c g σ' H ∧ RepL c g.F g.m ds xs ∧ bip shownD b ds = some d ∧ AD c W g σ' d Q
/-- len of a value looked at -/
def rLen (c : Kx) (W : WX) : List V → Hp → VK → Prop := fun xs H Q => ∃ g σ' a x d, xs = [x] ∧ Rel c g σ' H ∧ Bor c g H a x ∧ bip shownD .len [a] = some d ∧ AD c W g σ' d Q
def biVal : Bi → Value
  | .len => .builtin "len" | .abs => .builtin "abs" | .max2 => .builtin "max" | .min2 => .builtin "min" | .max1 => .builtin "max" | .all => .builtin "all" | .any => .builtin "any"
  | .tuple => .type "tuple" | .str => .type "str" | .int => .type "int" | .divmod => .builtin "divmod" | .sum => .builtin "sum" | .repr => .builtin "repr" | .list => .type "list"
section
variable {X : Cx} {c : Kx} {W : WX}
theorem repL_one {F : Hp} {m : List Addr} {d : D} {vs : List V} (r : RepL c F m [d] vs) : ∃ v, vs = [v] ∧ Rep c F m d v := by
  simp only [RepL] at r
  obtain ⟨v, r, rfl, h, rfl⟩ := r
  exact ⟨v, rfl, h⟩
theorem repL_two {F : Hp} {m : List Addr} {d e : D} {vs : List V} (r : RepL c F m [d, e] vs) : ∃ v w, vs = [v, w] ∧ Rep c F m d v ∧ Rep c F m e w := by
  simp only [RepL] at r
  obtain ⟨v, r, rfl, h, w, t, rfl, h', rfl⟩ := r
  exact ⟨v, w, rfl, h, h'⟩
theorem bi_len (hK : X.K = c.K) : CallR X (.builtin "len") (rLen c W) := by
  intro pins s σ H xs us Q I r ⟨g, σ', a, x, d, e1, R, b, e, q⟩
  subst e1
  cases a with
  | str z =>
    have b := b.rep (fun _ z => by cases z)
    simp only [Rep] at b; subst b
    simp only [bip] at e
    split at e
    case isTrue hz => cases e; exact call_len pins s σ H _ us Q I r ⟨_, z.length, rfl, ⟨by rw [toStr_len, sizeLine_eq]; exact hz, (toStr_len z).symm⟩, q.here R (by simp [Rep])⟩
    case isFalse hz => cases e
  | tup ys =>
    simp only [bip] at e; cases e
    obtain ⟨p, vs, rfl, s1, r1⟩ := b.tup R
    exact call_len pins s σ H _ us Q I r ⟨_, ys.length, rfl, .inr ⟨vs, by rw [hK]; exact s1, (repL_length r1).symm⟩, q.here R (by simp [Rep])⟩
  | lst ys =>
    simp only [bip] at e; cases e
    obtain ⟨p, vs, rfl, s1, r1⟩ := b.lst R
    exact call_len pins s σ H _ us Q I r ⟨_, ys.length, rfl, .inl ⟨vs, SqL.of s1, (repL_length r1).symm⟩, q.here R (by simp [Rep])⟩
  | scr ns =>
    simp only [bip] at e; cases e
    have b := b.rep (fun _ z => by cases z)
    simp only [Rep] at b
    obtain ⟨p, rfl, sq⟩ := b
    exact call_len pins s σ H _ us Q I r ⟨_, ns.length, rfl, .inl ⟨_, by rw [hK]; exact sqL_of R.b.fh sq, by simp⟩, q.here R (by simp [Rep])⟩
  | _ => simp [bip] at e
theorem str_int (i : Int) : (Str.ofString (toString i) : Str) = toStr (intTxt i) := by
  unfold toStr intTxt
  rw [Str.ofString_eq_toList]
theorem div_by {j : Int} (h : j.natAbs.log2 < 9000) (i : Int) : Builtin.divisionGoesByPylong i j = false := PyProof.noPylong_of_log2 h
theorem fold_max : ∀ (r : List Int) (i : Int), (r.foldl max i ∈ i :: r) ∧ ∀ y, y ∈ i :: r → y ≤ r.foldl max i
  | [], i => by simp
  | j :: r, i => by
    obtain ⟨h1, h2⟩ := fold_max r (max i j)
    simp only [List.foldl_cons]
    have h3 := h2 (max i j) (by simp)
    refine ⟨?_, fun y hy => ?_⟩
    · rcases List.mem_cons.mp h1 with e | e
      · rw [e]
        by_cases z : i ≤ j
        · rw [Int.max_eq_right z]; simp
        · rw [Int.max_eq_left (by omega)]; simp
      · simp [e]
    · rcases List.mem_cons.mp hy with e | e
      · subst e; omega
      · rcases List.mem_cons.mp e with e | e
        · subst e; omega
        · exact h2 y (by simp [e])
theorem shownD_some {d : D} {t : Txt} (h : shownD d = some t) : D.plain 60 d = true ∧ PyData.showable (toPy d) = true ∧ (PyData.shown (toPy d)).length ≤ SZ ∧ t = (PyData.shown (toPy d)).cps.toList := by
  unfold shownD at h
  split at h
  · rename_i z
    simp only [Bool.and_eq_true, decide_eq_true_eq] at z
    cases h
    exact ⟨z.1.1, z.1.2, z.2, rfl⟩
  · cases h
theorem bi_ok (b : Bi) (hK : X.K = c.K) (hc : X.calm = true) (hg : X.A.guards = some []) (hu : X.A.units + 65 < cLine) : CallR X (biVal b) (rBi c W b) := by
  intro pins s σ H xs us Q I r ⟨g, σ', ds, d, R, rs, e, q⟩
  have e0 := e
  unfold bip at e
  split at e
  case h_1 z =>
    obtain ⟨v, rfl, h⟩ := repL_one rs
    exact bi_len (W := W) hK pins s σ H _ us Q I r ⟨g, σ', _, v, d, rfl, R, .inl h, e0, q⟩
  case h_2 z =>
    obtain ⟨v, rfl, h⟩ := repL_one rs
    exact bi_len (W := W) hK pins s σ H _ us Q I r ⟨g, σ', _, v, d, rfl, R, .inl h, e0, q⟩
  case h_3 z =>
    obtain ⟨v, rfl, h⟩ := repL_one rs
    exact bi_len (W := W) hK pins s σ H _ us Q I r ⟨g, σ', _, v, d, rfl, R, .inl h, e0, q⟩
  case h_4 z =>
    obtain ⟨v, rfl, h⟩ := repL_one rs
    exact bi_len (W := W) hK pins s σ H _ us Q I r ⟨g, σ', _, v, d, rfl, R, .inl h, e0, q⟩
  case h_5 i =>
    obtain ⟨v, rfl, h⟩ := repL_one rs
    simp only [Rep] at h; subst h; cases e
    exact call_abs pins s σ H _ us Q I r ⟨i, rfl, q.here R (by simp [Rep])⟩
  case h_6 i j =>
    obtain ⟨v, w, rfl, h, h'⟩ := repL_two rs
    simp only [Rep] at h h'; subst h h'; cases e
    exact call_max2 hc pins s σ H _ us Q I r ⟨i, j, rfl, q.here R (by simp [Rep])⟩
  case h_7 i j =>
    obtain ⟨v, w, rfl, h, h'⟩ := repL_two rs
    simp only [Rep] at h h'; subst h h'; cases e
    exact call_min2 hc pins s σ H _ us Q I r ⟨i, j, rfl, q.here R (by simp [Rep])⟩
  case h_8 ys =>
    obtain ⟨v, rfl, h⟩ := repL_one rs
    simp only [Rep] at h
    obtain ⟨p, vs, rfl, s1, r1⟩ := h
    obtain ⟨is, e1, e2⟩ := Option.bind_eq_some_iff.mp e
    have := r1.ints e1; subst this
    cases is with
    | nil => cases e2
    | cons i t =>
      cases e2
      obtain ⟨f1, f2⟩ := fold_max t i
      refine cr_max hc pins s σ H _ us Q I r ⟨p, i :: t, rfl, SqL.of (R.b.fh _ _ s1), by simp, fun k hk hl => ?_⟩
      have e : k = t.foldl max i := by
        have a1 := hl _ f1
        have a2 := f2 k hk
        omega
      rw [e]
      exact q.here R (by simp [Rep])
  case h_9 ys =>
    obtain ⟨v, rfl, h⟩ := repL_one rs
    simp only [Rep] at h
    obtain ⟨p, vs, rfl, s1, r1⟩ := h
    obtain ⟨bs, e', rfl⟩ := Option.map_eq_some_iff.mp e
    have := r1.bls e'; subst this
    exact cr_all hc pins s σ H _ us Q I r ⟨p, bs, rfl, SqL.of (R.b.fh _ _ s1), q.here R (by simp [Rep])⟩
  case h_10 ys =>
    obtain ⟨v, rfl, h⟩ := repL_one rs
    simp only [Rep] at h
    obtain ⟨p, vs, rfl, s1, r1⟩ := h
    obtain ⟨bs, e', rfl⟩ := Option.map_eq_some_iff.mp e
    have := r1.bls e'; subst this
    exact cr_any hc pins s σ H _ us Q I r ⟨p, bs, rfl, SqL.of (R.b.fh _ _ s1), q.here R (by simp [Rep])⟩
  case h_11 ys =>
    obtain ⟨v, rfl, h⟩ := repL_one rs
    have h0 := h
    simp only [Rep] at h
    obtain ⟨p, vs, rfl, s1, r1⟩ := h
    cases e
    exact call_tupleT pins s σ H _ us Q I r ⟨p, vs, rfl, by rw [hK]; exact sqT_of R.b.fh s1, q.here R h0⟩
  case h_12 ys =>
    obtain ⟨v, rfl, h⟩ := repL_one rs
    simp only [Rep] at h
    obtain ⟨p, vs, rfl, s1, r1⟩ := h
    cases e
    exact call_tuple_of pins s σ H _ us Q I r ⟨p, vs, rfl, .inl ⟨SqL.of (R.b.fh _ _ s1), fun l hl => q.tup R r1 hl⟩⟩
  case h_13 i =>
    obtain ⟨v, rfl, h⟩ := repL_one rs
    simp only [Rep] at h; subst h
    split at e
    case isTrue z =>
      cases e
      refine call_str_int pins s σ H _ us Q I r ⟨i, rfl, z, ?_⟩
      rw [str_int]; exact q.here R (by simp [Rep])
    case isFalse z => cases e
  case h_14 x =>
    obtain ⟨v, rfl, h⟩ := repL_one rs
    simp only [Rep] at h; subst h; cases e
    exact SkE.call_str_str pins s σ H _ us Q I r ⟨_, rfl, q.here R (by simp [Rep])⟩
  case h_15 i =>
    obtain ⟨v, rfl, h⟩ := repL_one rs
    simp only [Rep] at h; subst h; cases e
    exact call_int1 pins s σ H _ us Q I r (.inl ⟨i, rfl, q.here R (by simp [Rep])⟩)
  case h_16 k =>
    obtain ⟨v, rfl, h⟩ := repL_one rs
    simp only [Rep] at h; subst h; cases e
    exact call_int1 pins s σ H _ us Q I r (.inr ⟨k, rfl, q.here R (by simp [Rep])⟩)
  case h_17 i j =>
    obtain ⟨v, w, rfl, h, h'⟩ := repL_two rs
    simp only [Rep] at h h'; subst h h'
    split at e
    case isTrue z =>
      cases e
      exact call_divmodW pins s σ H _ us Q I r ⟨i, j, rfl, ⟨z.1, div_by z.2 i⟩, fun p hp => q.tup R (RepL.cons_ (by simp [Rep]) (RepL.cons_ (by simp [Rep]) (by simp [RepL]))) hp⟩
    case isFalse z => cases e
  case h_18 ys =>
    obtain ⟨v, rfl, h⟩ := repL_one rs
    simp only [Rep] at h
    obtain ⟨p, vs, rfl, s1, r1⟩ := h
    obtain ⟨is, e', rfl⟩ := Option.map_eq_some_iff.mp e
    have := r1.ints e'; subst this
    exact cr_sum hc pins s σ H _ us Q I r ⟨p, is, rfl, SqL.of (R.b.fh _ _ s1), q.here R (by simp [Rep])⟩
  case h_19 x =>
    obtain ⟨v, rfl, h⟩ := repL_one rs
    obtain ⟨t, e', rfl⟩ := Option.map_eq_some_iff.mp e
    obtain ⟨hp, hs, hl, rfl⟩ := shownD_some e'
    have hsz : (PyData.shown (toPy x)).length ≤ sizeLine := by rw [sizeLine_eq]; exact hl
    have fin : ∀ tk, EP X pins σ Q (.str (PyData.shown (toPy x)) tk) { s with toks := s.toks + 1 } := fun tk => ⟨.str _, H, I.tok _, ⟨_, rfl⟩, q.here R (by simp [Rep, toStr])⟩
    have hD : Dp X.K H v (toPy x) := by rw [hK]; exact Rep.dp R.b.fh 60 x v hp h
    obtain ⟨u, rfl, rv⟩ := vals1 r
    have hdep := (plain_lay 60 x hp).2
    have hnd := PyData.hasDict_of_canLay _ (plain_lay 60 x hp).1
    have deep : ∀ a, u = .ref a → wpAny (model X.prog X.w) X.A (call (.builtin "repr") [u]) (EP X pins σ Q) X.xe s := fun a ea => by
      subst ea
      obtain ⟨as, hr⟩ := Dp.reads I (toPy x) v (.ref a) hD rv
      exact repr_of_reads' hr hs (fun z => by rw [hnd] at z; cases z) hg (by omega) (fun _ _ e => e) (fun h' u tk hk => ⟨.str _, H, I.kept (t' := tk) hk, ⟨_, rfl⟩, q.here R (by simp [Rep, toStr])⟩) hsz
    cases x with
    | non => simp only [Rep] at h; subst h; cases rv; exact P.repr_of_none (fin _)
    | bl b => simp only [Rep] at h; subst h; cases rv; exact P.repr_of_bool (fin _)
    | int i => simp only [Rep] at h; subst h; obtain ⟨t, rfl⟩ := rv; exact P.repr_of_int (by simpa [toPy, PyData.showable] using hs) (fin _)
    | str z => simp only [Rep] at h; subst h; obtain ⟨t, rfl⟩ := rv; exact P.repr_of_str (fin _) hsz
    | tup ys => simp only [Rep] at h; obtain ⟨a, vs, rfl, _⟩ := h; exact deep a rv
    | lst ys => simp only [Rep] at h; obtain ⟨a, vs, rfl, _⟩ := h; exact deep a rv
    | dic _ => simp [D.plain] at hp
    | ref _ => simp [D.plain] at hp
    | scr _ => simp [D.plain] at hp
  case h_20 => cases e
end
end Ev

set_option Elab.async false
set_option linter.all false
set_option autoImplicit false
set_option maxRecDepth 100000
/-! EvG: methods of texts, lists, tuples; list(..); isinstance. -/
namespace Ev
open PySem PySem.Spec PyProof.Rows L2

/-! ### types -/
def tyNm : Ty → String
  | .str => "str" | .tuple => "tuple" | .list => "list" | .int => "int" | .bool => "bool" | .dict => "dict"
def tyOf : D → String
  | .non => "NoneType" | .bl _ => "bool" | .int _ => "int" | .str _ => "str" | .tup _ => "tuple" | .lst _ => "list" | .dic _ => "dict" | .ref _ => "list" | .scr _ => "list"
theorem kit_all (t : Ty) (d : D) (b : Bool) (h : isTy t d = some b) : kitB (tyOf d) (tyNm t) = some b := by
  cases t <;> cases d <;> simp [isTy] at h <;> subst h <;> (simp only [tyOf, tyNm]; decide +kernel)
section
variable {X : Cx} {c : Kx} {W : WX}
theorem Bor.ty {g : Gs} {σ : St} {H : Hp} (hK : X.K = c.K) (R : Rel c g σ H) {d : D} {v : V} (b : Bor c g H d v) (n1 : ∀ n, d ≠ .ref n) (n2 : ∀ ns, d ≠ .scr ns) : TyX X.K H v (.type (tyOf d)) := by
  cases d with
  | non => have b := b.rep (fun _ z => by cases z); simp only [Rep] at b; subst b; exact .base .non
  | bl x => have b := b.rep (fun _ z => by cases z); simp only [Rep] at b; subst b; exact .base (.bl x)
  | int i => have b := b.rep (fun _ z => by cases z); simp only [Rep] at b; subst b; exact .base (.int i)
  | str z => have b := b.rep (fun _ z => by cases z); simp only [Rep] at b; subst b; exact .base (.str _)
  | tup xs =>
    obtain ⟨a, vs, rfl, s, r⟩ := b.tup R
    rw [← hK] at s
    rcases s with (h | ⟨o, h⟩) | ⟨o, its, n, h, hc, _⟩
    · exact .base (.tup h)
    · exact .fTuple h
    · exact .kTuple h hc
  | lst xs =>
    obtain ⟨a, vs, rfl, s, r⟩ := b.lst R
    exact .base (.lst s)
  | dic kvs =>
    have b := b.rep (fun _ z => by cases z)
    simp only [Rep] at b
    obtain ⟨a, rfl, b2⟩ := b
    rcases b2 with ⟨_, h⟩ | h
    · exact .base (.dK (R.b.fh _ _ h))
    · obtain ⟨⟨es, n, KD⟩, _⟩ := h
      exact .kDict (by rw [hK]; exact KD.at_) rfl
  | ref n => exact absurd rfl (n1 n)
  | scr ns => exact absurd rfl (n2 ns)
/-- isinstance(x, T) by values: what is asked -/
def rIsi1 (c : Kx) (t : Ty) : List V → Hp → VK → Prop := fun xs H Q => ∃ g σ' a x k, xs = [x, .ty (tyNm t)] ∧ Rel c g σ' H ∧ Bor c g H a x ∧ isTy t a = some k ∧ Q (.bl k) H
theorem isi_ok (t : Ty) (hK : X.K = c.K) : CallR X (.builtin "isinstance") (rIsi1 c t) := by
  intro pins s σ H xs us Q I r ⟨g, σ', a, x, k, e1, R, b, e, q⟩
  subst e1
  refine call_isi pins s σ H _ us Q I r ⟨x, .ty (tyNm t), .type (tyOf a), .type (tyNm t), k, rfl, .ty _, b.ty hK R (fun n z => ?_) (fun ns z => ?_), kit_ty (kit_all t a k e), q⟩
  · subst z; simp [isTy] at e
  · subst z; simp [isTy] at e

/-! ### list(..) -/
def rListF (c : Kx) (W : WX) : List V → Hp → VK → Prop := fun xs H Q => ∃ g σ' d ys, Rel c g σ' H ∧ RepL c g.F g.m [d] xs ∧ (d = .tup ys ∨ d = .lst ys) ∧ ∀ a H'', Rel c g σ' H'' → Loose c g σ' H'' ys a → Q (.ref a) H''
theorem list_ok (hK : X.K = c.K) : CallR X (.type "list") (rListF c W) := by
  intro pins s σ H xs us Q I r ⟨g, σ', d, ys, R, rs, hd, q⟩
  obtain ⟨v, rfl, h⟩ := repL_one rs
  rcases hd with rfl | rfl
  · simp only [Rep] at h
    obtain ⟨p, vs, rfl, s1, r1⟩ := h
    exact call_list_of pins s σ H _ us Q I r ⟨p, vs, rfl, .inr (by rw [hK]; exact sqT_of R.b.fh s1), fun l hl => q l _ (R.grow0 hl) (R.loose hl r1)⟩
  · simp only [Rep] at h
    obtain ⟨p, vs, rfl, s1, r1⟩ := h
    exact call_list_of pins s σ H _ us Q I r ⟨p, vs, rfl, .inl (SqL.of (R.b.fh _ _ s1)), fun l hl => q l _ (R.grow0 hl) (R.loose hl r1)⟩

/-! ### methods -/
theorem joinT_eq (sep : Txt) : ∀ ts : List Txt, Str.join (toStr sep) (ts.map toStr) = toStr (joinT sep ts)
  | [] => rfl
  | [x] => rfl
  | x :: y :: r => by
    have ih := joinT_eq sep (y :: r)
    show toStr x ++ toStr sep ++ Str.join (toStr sep) ((y :: r).map toStr) = _
    rw [ih, toStr_app, toStr_app]
    rfl
theorem joinLen_eq (n : Nat) : ∀ ts : List Txt, ((ts.map toStr).map (·.length)).sum + (ts.map toStr).length * n = joinLen n ts
  | [] => by simp [joinLen]
  | x :: r => by
    have ih := joinLen_eq n r
    simp only [List.map_cons, List.sum_cons, List.length_cons, joinLen]
    rw [toStr_len, ← ih, Nat.add_mul]
    omega
theorem findD_spec (x : D) : ∀ (ys : List D) (k j : Nat), findD x ys k = some j → k ≤ j ∧ (∃ y, ys[j - k]? = some y ∧ D.eqb y x = true) ∧ ∀ n y, n < j - k → ys[n]? = some y → D.eqb y x = false
  | [], k, j, h => by simp [findD] at h
  | y :: ys, k, j, h => by
    unfold findD at h
    split at h
    · rename_i z
      cases h
      exact ⟨Nat.le_refl _, ⟨y, by simp, z⟩, fun n y h => by omega⟩
    · rename_i z
      obtain ⟨h1, ⟨w, h2, h3⟩, h4⟩ := findD_spec x ys (k + 1) j h
      refine ⟨by omega, ⟨w, ?_, h3⟩, fun n w hn hw => ?_⟩
      · have e : j - k = (j - (k + 1)) + 1 := by omega
        rw [e]; simpa using h2
      · cases n with
        | zero => simp at hw; subst hw; simpa using z
        | succ n => exact h4 n w (by omega) (by simpa using hw)
def rMt (c : Kx) (W : WX) (mt : Mt) (T : Ty) : V → List V → Hp → VK → Prop := fun x xs H Q => ∃ g σ' a ds d, Rel c g σ' H ∧ Rep c g.F g.m a x ∧ RepL c g.F g.m ds xs ∧ tyOf a = tyNm T ∧ mtp mt a ds = some d ∧ AD c W g σ' d Q
theorem mtp_one {mt : Mt} {a d : D} {ds : List D} (h : mtp mt a ds = some d) : ∃ x, ds = [x] := by
  cases ds with
  | nil => cases mt <;> cases a <;> simp [mtp] at h
  | cons x r =>
    cases r with
    | nil => exact ⟨x, rfl⟩
    | cons y t => cases mt <;> cases a <;> simp [mtp] at h
theorem mt_ok_join (hK : X.K = c.K) : MtR X "str.join" (rMt c W .join .str) := by
  intro pins s σ H x xs v us Q I rx rs ⟨g, σ', a, ds, d, R, ra, rds, ty, e, q⟩
  cases a <;> simp [tyOf, tyNm] at ty
  rename_i sep
  simp only [Rep] at ra; subst ra
  obtain ⟨y, rfl⟩ := mtp_one e
  obtain ⟨v', rfl, h⟩ := repL_one rds
  cases y <;> simp [mtp] at e
  rename_i ys
  simp only [Rep] at h
  obtain ⟨p, vs, rfl, s1, r1⟩ := h
  obtain ⟨ts, e1, e2⟩ := Option.bind_eq_some_iff.mp e
  have := r1.txts e1; subst this
  split at e2
  case isFalse z => cases e2
  case isTrue z =>
  cases e2
  refine mt_join pins s σ H _ _ v us Q I rx rs ⟨toStr sep, p, ts.map toStr, rfl, rfl, .inl (SqL.of (R.b.fh _ _ (by rw [List.map_map]; exact s1))), ?_, ?_⟩
  · rw [toStr_len, joinLen_eq]; exact z
  · rw [TL.join_eq, joinT_eq]; exact q.here R (by simp [Rep])
theorem mt_ok_lindex (hK : X.K = c.K) : MtR X "list.index" (rMt c W .index .list) := by
  intro pins s σ H x xs v us Q I rx rs ⟨g, σ', a, ds, d, R, ra, rds, ty, e, q⟩
  obtain ⟨y, rfl⟩ := mtp_one e
  obtain ⟨v', rfl, h⟩ := repL_one rds
  cases a <;> simp [tyOf, tyNm] at ty <;> try (simp [mtp] at e; done)
  rename_i ys
  simp only [Rep] at ra
  obtain ⟨p, vs, rfl, s1, r1⟩ := ra
  simp only [mtp] at e
  split at e
  case isFalse z => cases e
  case isTrue z =>
  simp only [Bool.and_eq_true] at z
  obtain ⟨j, e1, rfl⟩ := Option.map_eq_some_iff.mp e
  obtain ⟨_, ⟨w, h2, h3⟩, h4⟩ := findD_spec y ys 0 j e1
  simp only [Nat.sub_zero] at h2 h4
  obtain ⟨u, h5, h6⟩ := r1.get_ h2
  have fw : D.flat w = true := List.all_eq_true.mp z.2 w (List.mem_of_getElem? h2)
  refine mt_index pins s σ H _ _ v us Q I rx rs ⟨p, vs, v', j, u, rfl, rfl, SqL.of (R.b.fh _ _ s1), flat_rep z.1 h, flats_rep z.2 r1, h5, by rw [flat_eqV fw z.1 h6 h]; exact h3, fun m z' hm hz => ?_, q.here R (by simp [Rep])⟩
  have hl : m < ys.length := by rw [← repL_length r1]; exact (List.getElem?_eq_some_iff.mp hz).1
  obtain ⟨u', k1, k2⟩ := r1.get_ (List.getElem?_eq_getElem hl)
  rw [hz] at k1; cases k1
  rw [flat_eqV (List.all_eq_true.mp z.2 _ (List.getElem_mem hl)) z.1 k2 h]
  exact h4 m _ hm (List.getElem?_eq_getElem hl)
theorem txtsOf_get : ∀ {ys : List D} {ts : List Txt} {j : Nat} {t : Txt}, txtsOf ys = some ts → ys[j]? = some (.str t) → ts[j]? = some t
  | [], ts, j, t, h, e => by simp at e
  | y :: ys, ts, j, t, h, e => by
    cases y <;> simp [txtsOf] at h
    obtain ⟨r, h1, rfl⟩ := h
    cases j with
    | zero => simp at e; simp [e]
    | succ j => simpa using txtsOf_get (j := j) h1 (by simpa using e)
theorem txtsOf_map : ∀ {ys : List D} {ts : List Txt}, txtsOf ys = some ts → ys = ts.map D.str
  | [], ts, h => by simp [txtsOf] at h; subst h; rfl
  | y :: ys, ts, h => by
    cases y <;> simp [txtsOf] at h
    obtain ⟨r, h1, rfl⟩ := h
    rw [txtsOf_map h1]; rfl
theorem mt_ok_tindex (hK : X.K = c.K) : MtR X "tuple.index" (rMt c W .index .tuple) := by
  intro pins s σ H x xs v us Q I rx rs ⟨g, σ', a, ds, d, R, ra, rds, ty, e, q⟩
  obtain ⟨y, rfl⟩ := mtp_one e
  obtain ⟨v', rfl, h⟩ := repL_one rds
  cases a <;> simp [tyOf, tyNm] at ty
  rename_i ys
  simp only [Rep] at ra
  obtain ⟨p, vs, rfl, s1, r1⟩ := ra
  cases y <;> simp [mtp] at e
  rename_i z
  simp only [Rep] at h; subst h
  obtain ⟨ts, e1, e⟩ := Option.bind_eq_some_iff.mp e
  obtain ⟨j, e2, rfl⟩ := Option.map_eq_some_iff.mp e
  have := r1.txts e1; subst this
  have hys := txtsOf_map e1; subst hys
  obtain ⟨_, ⟨w, h2, h3⟩, h4⟩ := findD_spec _ _ 0 j e2
  simp only [Nat.sub_zero] at h2 h4
  rw [List.getElem?_map] at h2
  obtain ⟨t, h5, rfl⟩ := Option.map_eq_some_iff.mp h2
  have ht : t = z := by simpa [D.eqb] using h3
  subst ht
  refine mt_tup_index pins s σ H _ _ v us Q I rx rs ⟨p, ts.map toStr, toStr t, j, rfl, rfl, by rw [hK, List.map_map]; exact sqT_of R.b.fh s1, by rw [List.getElem?_map, h5]; rfl, fun m hm hz => ?_, q.here R (by simp [Rep])⟩
  rw [List.getElem?_map] at hz
  obtain ⟨t', k1, k2⟩ := Option.map_eq_some_iff.mp hz
  have k2 := toStr_inj k2
  subst k2
  have := h4 m (.str t') hm (by rw [List.getElem?_map, k1]; rfl)
  simp [D.eqb] at this
end
end Ev

set_option Elab.async false
set_option linter.all false
set_option autoImplicit false
set_option maxRecDepth 100000
/-! EvH: the expressions. -/
namespace Ev
open PySem PySem.Spec PyProof.Rows L2

section
variable (c : Kx) (W : WX)
/-- .. of a thing looked at only -/
def tBo (m : M D) : TE := fun σ H Q => ∃ g, Rel c g σ H ∧ After c W g σ (m g.ρ g.S) fun d g' H' => ∀ v, Bor c g' H' d v → Q v H'
/-- .. of what leaves the heap's objects as they are -/
def tSi (m : M D) : TE := fun σ H Q => ∃ g, Rel c g σ H ∧ After c W g σ (m g.ρ g.S) fun d g' H' => (∀ a o, H a = some o → H' a = some o) → ∀ v, Rep c g'.F g'.m d v → Q v H'
end
section
variable {X : Cx} {c : Kx} {W : WX} {pos : Pos} {a b e : Expr} {ma mb m : M D} {g g' : Gs} {σ : St} {H H' : Hp}
theorem Bor.keep {d : D} {v : V} (h : Bor c g H d v) (x : GExt g g') (k : ∀ a o, H a = some o → H' a = some o) : Bor c g' H' d v := by
  rcases h with h | ⟨xs, a, vs, e1, e2, h1, h2⟩
  · exact .inl (h.ext x.e)
  · exact .inr ⟨xs, a, vs, e1, e2, k _ _ h1, h2.ext x.e⟩
theorem PE.toBo (h : PE X e (tM c W m)) : PE X e (tBo c W m) := PE.weak h fun σ H Q ⟨g, R, h⟩ => ⟨g, R, h.imp fun d g' H' x R' h v r => h v (.inl r)⟩
theorem PE.ofSi (h : PE X e (tSi c W m)) : PE X e (tM c W m) := by
  refine PE.weak h fun σ H Q ⟨g, R, h⟩ => ⟨g, R, h.imp fun d g' H' x R' h _ v r => h v r⟩
theorem ok_bvar {i : Nat} {x : Str} (hN : X.N[i]? = some x) (hv : Vis X.env.scope x) (hd : (x == ("__debug__" : Str)) = false) (hcd : (x == ("__classdict__" : Str)) = false) : PE X (.Name x pos) (tBo c W (mBor i)) := by
  refine PE.weak (pe_var hN hv hd hcd) fun σ H Q ⟨g, R, h⟩ => ?_
  unfold mBor at h
  cases e : g.ρ[i]? with
  | none => rw [e] at h; exact h.elim
  | some o =>
    cases o with
    | none => rw [e] at h; exact h.elim
    | some s =>
      cases s with
      | fz d =>
        rw [e] at h
        obtain ⟨v, e1, r⟩ := R.sf i d e
        exact ⟨v, e1, h g H rfl rfl .refl R v (.inl r)⟩
      | ow xs =>
        rw [e] at h
        obtain ⟨a, vs, e1, h1, r, _⟩ := R.so i xs e
        exact ⟨.ref a, e1, h g H rfl rfl .refl R _ (.inr ⟨xs, a, vs, rfl, rfl, h1, r⟩)⟩
      | ex x => rw [e] at h; exact h.elim
theorem ok_svar {i : Nat} {x : Str} (hN : X.N[i]? = some x) (hv : Vis X.env.scope x) (hd : (x == ("__debug__" : Str)) = false) (hcd : (x == ("__classdict__" : Str)) = false) : PE X (.Name x pos) (tSi c W (mVar i)) := by
  refine PE.weak (pe_var hN hv hd hcd) fun σ H Q ⟨g, R, h⟩ => ?_
  unfold mVar at h
  cases e : g.ρ[i]? with
  | none => rw [e] at h; exact h.elim
  | some o =>
    cases o with
    | none => rw [e] at h; exact h.elim
    | some s =>
      cases s with
      | fz d =>
        rw [e] at h
        obtain ⟨v, e1, r⟩ := R.sf i d e
        exact ⟨v, e1, h g H rfl rfl .refl R (fun _ _ z => z) v r⟩
      | ow xs =>
        rw [e] at h
        obtain ⟨a, F', e1, R', ex, r⟩ := R.freezeSlot e
        exact ⟨.ref a, e1, After.app h R' ex rfl rfl (fun _ _ z => z) _ r⟩
      | ex x => rw [e] at h; exact h.elim
theorem ok_scst {e : Expr} {v : V} {d : D} (h : PE X e (tC v)) (r : ∀ F m, Rep c F m d v) : PE X e (tSi c W (M.pure d)) :=
  PE.weak h fun σ H Q ⟨g, R, q⟩ => q g H rfl rfl .refl R (fun _ _ z => z) v (r _ _)
theorem ok_snil : PE X (.List [] pos) (tSi c W (M.pure (.lst []))) := by
  refine PE.weak (pe_lst pa_nil) fun σ H Q ⟨g, R, h⟩ => ⟨by show 0 ≤ sizeLine; decide, fun p hp => ?_⟩
  obtain ⟨R2, x2⟩ := R.grow (o := .lst []) hp
  refine After.app h R2 x2 rfl rfl (fun a o z => by rw [upd_ne (ne_of_none z hp)]; exact z) (.ref p) ?_
  simp only [Rep]
  exact ⟨p, [], rfl, upd_same, by simp [RepL]⟩
theorem ok_sdct (hc : X.calm = true) : PE X (.Dict [] [] pos) (tSi c W (M.pure (.dic []))) := by
  refine PE.weak pe_dnewK fun σ H Q ⟨g, R, h⟩ => fun p hp => ?_
  obtain ⟨R2, x2⟩ := R.grow (o := .dK []) hp
  refine After.app h R2 x2 rfl rfl (fun a o z => by rw [upd_ne (ne_of_none z hp)]; exact z) (.ref p) ?_
  show ∃ a, V.ref p = .ref a ∧ _
  exact ⟨p, rfl, .inl ⟨rfl, upd_same⟩⟩
theorem ok_bin {o : Bop} (hK : X.K = c.K) (ha : PE X a (tM c W ma)) (hb : PE X b (tM c W mb)) : PE X (.BinOp a (bopOf o) b pos) (tM c W (M.bind ma fun x => M.bind mb fun y => M.of (bop o x y))) := by
  refine PE.weak (pe_op (op_bop (c := c) (W := W) o hK) ha hb) fun σ H Q ⟨g, R, h⟩ => ⟨g, R, (After.bind h).imp fun x g1 H1 x1 R1 h1 v r => ⟨g1, R1, (After.bind h1).imp fun y g2 H2 x2 R2 h2 u r' => ?_⟩⟩
  obtain ⟨d, e, q⟩ := After.of h2
  exact ⟨g2, σ, x, y, d, R2, r.ext x2.e, r', e, q⟩
/-- a list by + or *, a new one -/
theorem okF_add (hK : X.K = c.K) (ha : PE X a (tM c W ma)) (hb : PE X b (tM c W mb)) : PE X (.BinOp a .Add b pos) (tF c W (M.bind (M.bind ma fun x => M.bind mb fun y => M.of (bop .add x y)) asLst)) := by
  have op : OpR X (binaryOp .Add) (fun x y H Q => ∃ g σ' d e xs, Rel c g σ' H ∧ Rep c g.F g.m d x ∧ Rep c g.F g.m e y ∧ bop .add d e = some (.lst xs) ∧ ∀ a H'', Rel c g σ' H'' → Loose c g σ' H'' xs a → Q (.ref a) H'') := by
    intro pins s σ H x y v u Q I rx ry ⟨g, σ', d, e, xs, R, rd, re, eq, q⟩
    cases d <;> cases e <;> simp [bop] at eq
    rename_i us ws
    obtain ⟨hz, rfl⟩ := eq
    simp only [Rep] at rd re
    obtain ⟨p1, vs, rfl, s1, r1⟩ := rd
    obtain ⟨p2, zs, rfl, s2, r2⟩ := re
    have l1 := repL_length r1
    have l2 := repL_length r2
    exact op_cat pins s σ H _ _ v u Q I rx ry ⟨p1, p2, vs, zs, rfl, rfl, R.b.fh _ _ s1, R.b.fh _ _ s2, by rw [l1, l2, sizeLine_eq]; exact hz, fun p hp => q p _ (R.grow0 hp) (R.loose hp (r1.app r2))⟩
  refine PE.weak (pe_op op ha hb) fun σ H Q ⟨g, R, h⟩ => ⟨g, R, (After.bind (After.bind h)).imp fun x g1 H1 x1 R1 h1 v r => ⟨g1, R1, (After.bind h1).imp fun y g2 H2 x2 R2 h2 u r' => ?_⟩⟩
  obtain ⟨d, e, q⟩ := After.of h2
  have q1 := After.app q R2 .refl rfl rfl
  unfold asLst at q1
  cases d with
  | lst xs => exact ⟨g2, σ, x, y, xs, R2, r.ext x2.e, r', e, After.pure q1 R2⟩
  | _ => exact q1.elim
theorem okF_mul (hK : X.K = c.K) (ha : PE X a (tM c W ma)) (hb : PE X b (tM c W mb)) : PE X (.BinOp a .Mult b pos) (tF c W (M.bind (M.bind ma fun x => M.bind mb fun y => M.of (bop .mul x y)) asLst)) := by
  have op : OpR X (binaryOp .Mult) (fun x y H Q => ∃ g σ' d e xs, Rel c g σ' H ∧ Rep c g.F g.m d x ∧ Rep c g.F g.m e y ∧ bop .mul d e = some (.lst xs) ∧ ∀ a H'', Rel c g σ' H'' → Loose c g σ' H'' xs a → Q (.ref a) H'') := by
    intro pins s σ H x y v u Q I rx ry ⟨g, σ', d, e, xs, R, rd, re, eq, q⟩
    cases d <;> cases e <;> simp [bop] at eq
    rename_i us k
    obtain ⟨hz, rfl⟩ := eq
    simp only [Rep] at rd re
    obtain ⟨p1, vs, rfl, s1, r1⟩ := rd
    subst re
    have l1 := repL_length r1
    exact op_rep pins s σ H _ _ v u Q I rx ry ⟨p1, k, vs, rfl, rfl, R.b.fh _ _ s1, by simpa using hz.1, by simpa using hz.2.1, by rw [l1, sizeLine_eq]; exact hz.2.2, fun p hp => q p _ (R.grow0 hp) (R.loose hp (r1.rep_ _))⟩
  refine PE.weak (pe_op op ha hb) fun σ H Q ⟨g, R, h⟩ => ⟨g, R, (After.bind (After.bind h)).imp fun x g1 H1 x1 R1 h1 v r => ⟨g1, R1, (After.bind h1).imp fun y g2 H2 x2 R2 h2 u r' => ?_⟩⟩
  obtain ⟨d, e, q⟩ := After.of h2
  have q1 := After.app q R2 .refl rfl rfl
  unfold asLst at q1
  cases d with
  | lst xs => exact ⟨g2, σ, x, y, xs, R2, r.ext x2.e, r', e, After.pure q1 R2⟩
  | _ => exact q1.elim
theorem ok_neg (ha : PE X a (tM c W ma)) : PE X (.UnaryOp .USub a pos) (tM c W (M.bind ma fun x => match x with | .int i => M.pure (.int (-i)) | _ => M.bad)) := by
  refine PE.weak (pe_un un_neg ha) fun σ H Q ⟨g, R, h⟩ => ⟨g, R, (After.bind h).imp fun x g1 H1 x1 R1 h1 v r => ?_⟩
  cases x with
  | int i =>
    simp only [Rep] at r; subst r
    exact ⟨i, rfl, h1 g1 H1 rfl rfl .refl R1 _ (by simp [Rep])⟩
  | _ => exact h1.elim
/-- -n, n written -/
theorem ok_sneg {i : Int} {j p1} : PE X (.UnaryOp .USub (.Constant (.int i) j p1) pos) (tSi c W (M.bind (M.pure (D.int i)) fun x => match x with | .int i => M.pure (.int (-i)) | _ => M.bad)) := by
  refine PE.weak (pe_un un_neg pe_int) fun σ H Q ⟨g, R, h⟩ => ⟨i, rfl, h g H rfl rfl .refl R (fun _ _ z => z) _ (by simp [Rep])⟩

/-! ### comparisons -/
section
variable (hK : X.K = c.K) (hw : X.w = c.w) (hu : X.A.units + 65 < cLine)
include hK hw hu
/-- a comparison as a value -/
theorem ok_cmp (o : Cop) (ha : PE X a (tM c W ma)) (hb : PE X b (tBo c W mb)) (hm : behindInMarks (copOf o) b = false) : PE X (.Compare a [copOf o] [b] pos) (tM c W (M.bind ma fun x => M.bind mb fun y => M.bind (M.of (cop o x y)) fun l => M.pure (.bl l))) := by
  refine PE.weak (pe_cmpR (op_cop (c := c) o hK hw hu) ha hb hm) fun σ H Q ⟨g, R, h⟩ => ⟨g, R, (After.bind h).imp fun x g1 H1 x1 R1 h1 v r => ⟨g1, R1, (After.bind h1).imp fun y g2 H2 x2 R2 h2 u r' => ?_⟩⟩
  obtain ⟨l, e, q⟩ := After.of (After.bind h2)
  exact ⟨g2, σ, x, y, l, R2, .inl (r.ext x2.e), r', e, After.pure (After.app q R2 .refl rfl rfl) R2 _ (by simp [Rep])⟩
theorem ok_cmp2 (o : Cop) (ha : PE X a (tBo c W ma)) (hb : PE X b (tSi c W mb)) (hm : behindInMarks (copOf o) b = false) : PE X (.Compare a [copOf o] [b] pos) (tM c W (M.bind ma fun x => M.bind mb fun y => M.bind (M.of (cop o x y)) fun l => M.pure (.bl l))) := by
  refine PE.weak (pe_cmpR (op_cop (c := c) o hK hw hu) ha hb hm) fun σ H Q ⟨g, R, h⟩ => ⟨g, R, (After.bind h).imp fun x g1 H1 x1 R1 h1 v r => ⟨g1, R1, (After.bind h1).imp fun y g2 H2 x2 R2 h2 kp u r' => ?_⟩⟩
  obtain ⟨l, e, q⟩ := After.of (After.bind h2)
  exact ⟨g2, σ, x, y, l, R2, r.keep x2 kp, .inl r', e, After.pure (After.app q R2 .refl rfl rfl) R2 _ (by simp [Rep])⟩
/-- .. as a test -/
theorem okT_cmp (o : Cop) (ha : PE X a (tM c W ma)) (hb : PE X b (tBo c W mb)) (hm : behindInMarks (copOf o) b = false) : PT X (.Compare a [copOf o] [b] pos) (tB c W (M.bind (M.bind ma fun x => M.bind mb fun y => M.bind (M.of (cop o x y)) fun l => M.pure (.bl l)) mTruth)) := by
  refine PT.weak (pt_cmpR (op_cop (c := c) o hK hw hu) ha hb hm) fun σ H Q ⟨g, R, h⟩ => ⟨g, R, (After.bind (After.bind h)).imp fun x g1 H1 x1 R1 h1 v r => ⟨g1, R1, (After.bind h1).imp fun y g2 H2 x2 R2 h2 u r' => ?_⟩⟩
  obtain ⟨l, e, q⟩ := After.of (After.bind h2)
  have q2 := After.pure (After.app q R2 .refl rfl rfl) R2
  exact ⟨g2, σ, x, y, l, R2, .inl (r.ext x2.e), r', e, l, rfl, q2 g2 H2 rfl rfl .refl R2⟩
theorem okT_cmp2 (o : Cop) (ha : PE X a (tBo c W ma)) (hb : PE X b (tSi c W mb)) (hm : behindInMarks (copOf o) b = false) : PT X (.Compare a [copOf o] [b] pos) (tB c W (M.bind (M.bind ma fun x => M.bind mb fun y => M.bind (M.of (cop o x y)) fun l => M.pure (.bl l)) mTruth)) := by
  refine PT.weak (pt_cmpR (op_cop (c := c) o hK hw hu) ha hb hm) fun σ H Q ⟨g, R, h⟩ => ⟨g, R, (After.bind (After.bind h)).imp fun x g1 H1 x1 R1 h1 v r => ⟨g1, R1, (After.bind h1).imp fun y g2 H2 x2 R2 h2 kp u r' => ?_⟩⟩
  obtain ⟨l, e, q⟩ := After.of (After.bind h2)
  have q2 := After.pure (After.app q R2 .refl rfl rfl) R2
  exact ⟨g2, σ, x, y, l, R2, r.keep x2 kp, .inl r', e, l, rfl, q2 g2 H2 rfl rfl .refl R2⟩
end
end
end Ev

set_option Elab.async false
set_option linter.all false
set_option autoImplicit false
set_option maxRecDepth 100000
/-! EvI: the expressions, on. -/
namespace Ev
open PySem PySem.Spec PyProof.Rows L2

/-- a value's truth -/
def mT (m : M D) : M Bool := M.bind m mTruth
section
variable {α β γ : Type}
theorem M.assoc (m : M α) (f : α → M β) (k : β → M γ) : M.bind (M.bind m f) k = M.bind m fun a => M.bind (f a) k := by
  funext ρ S
  unfold M.bind Res.bind
  cases m ρ S <;> rfl
theorem M.pure_bind (a : α) (f : α → M β) : M.bind (M.pure a) f = f a := rfl
theorem M.bind_congr {m : M α} {f k : α → M β} (h : ∀ a, f a = k a) : M.bind m f = M.bind m k := by
  have : f = k := funext h
  rw [this]
end
def mNot (ma : M D) : M D := M.bind ma fun x => M.bind (mTruth x) fun k => M.pure (.bl (!k))
theorem mT_not (ma : M D) : mT (mNot ma) = M.bind (mT ma) fun k => M.pure (!k) := by
  unfold mT mNot
  rw [M.assoc, M.assoc]
  refine M.bind_congr fun x => ?_
  rw [M.assoc]
  rfl
def mAnd (ma mb : M D) : M D := M.bind ma fun x => M.bind (mTruth x) fun k => if k then mb else M.pure x
def mOr (ma mb : M D) : M D := M.bind ma fun x => M.bind (mTruth x) fun k => if k then M.pure x else mb
def mIte (mt ma mb : M D) : M D := M.bind mt fun x => M.bind (mTruth x) fun k => if k then ma else mb
theorem mT_and (ma mb : M D) : mT (mAnd ma mb) = M.bind (mT ma) fun k => if k then mT mb else M.pure false := by
  unfold mT mAnd
  rw [M.assoc, M.assoc]
  refine M.bind_congr fun x => ?_
  rw [M.assoc]
  funext ρ S
  unfold M.bind Res.bind mTruth M.of
  cases e : truth x with
  | none => rfl
  | some k =>
    cases k with
    | true => rfl
    | false => simp only [Bool.false_eq_true, if_false]; unfold M.pure; simp only [e]; rfl
theorem mT_or (ma mb : M D) : mT (mOr ma mb) = M.bind (mT ma) fun k => if k then M.pure true else mT mb := by
  unfold mT mOr
  rw [M.assoc, M.assoc]
  refine M.bind_congr fun x => ?_
  rw [M.assoc]
  funext ρ S
  unfold M.bind Res.bind mTruth M.of
  cases e : truth x with
  | none => rfl
  | some k =>
    cases k with
    | false => rfl
    | true => simp only [if_true]; unfold M.pure; simp only [e]; rfl
theorem mT_ite (mt ma mb : M D) : mT (mIte mt ma mb) = M.bind (mT mt) fun k => if k then mT ma else mT mb := by
  unfold mT mIte
  rw [M.assoc, M.assoc]
  refine M.bind_congr fun x => ?_
  rw [M.assoc]
  refine M.bind_congr fun k => ?_
  cases k <;> rfl
theorem mIte_eq (mt ma mb : M D) : mIte mt ma mb = M.bind (mT mt) fun k => if k then ma else mb := by
  unfold mT mIte
  rw [M.assoc]

section
variable {X : Cx} {c : Kx} {W : WX} {pos : Pos} {a b e t d : Expr} {es rest : List Expr} {ma mb mc m mt : M D} {ms : M (List D)} {g g' : Gs} {σ : St} {H H' : Hp}
theorem tr (hK : X.K = c.K) {d : D} {v : V} {ok : Bool → Gs → Hp → Prop} (R : Rel c g σ H) (r : Bor c g H d v) (h : After c W g σ (mTruth d g.ρ g.S) ok) : ∃ k, TruV X.K v H k ∧ truth d = some k ∧ ok k g H := by
  obtain ⟨k, e, q⟩ := After.of h
  exact ⟨k, truth_ok hK R r e, e, After.app q R .refl rfl rfl⟩
/-- a test by truth -/
theorem okT_truth (hK : X.K = c.K) (ha : PE X a (tM c W ma)) (he : ∀ whole, isTrue a X.env whole = (do let v ← whole; standAt a.pos; holding [v] (truthy v))) : PT X a (tB c W (mT ma)) := by
  refine PT.weak (pt_truth ha he) fun σ H Q ⟨g, R, h⟩ => ⟨g, R, (After.bind h).imp fun x g1 H1 x1 R1 h1 v r => ?_⟩
  obtain ⟨k, t, _, q⟩ := tr hK R1 (.inl r) h1
  exact ⟨k, t, q⟩
theorem ok_not (hK : X.K = c.K) (ha : PE X a (tM c W ma)) : PE X (.UnaryOp .Not a pos) (tM c W (mNot ma)) := by
  refine PE.weak (pe_notT ha) fun σ H Q ⟨g, R, h⟩ => ⟨g, R, (After.bind h).imp fun x g1 H1 x1 R1 h1 v r => ?_⟩
  obtain ⟨k, t, _, q⟩ := tr hK R1 (.inl r) (After.bind h1)
  exact ⟨k, t, After.pure q R1 _ (by simp [Rep])⟩
theorem okT_not (ha : PT X a (tB c W (mT ma))) : PT X (.UnaryOp .Not a pos) (tB c W (mT (mNot ma))) := by
  rw [mT_not]
  exact PT.weak (pt_not ha) fun σ H Q ⟨g, R, h⟩ => ⟨g, R, (After.bind h).imp fun k g1 H1 x1 R1 h1 => After.pure h1 R1⟩
/-! and, or -/
theorem ok_one {op : BoolOp} (ha : PE X a (tM c W ma)) : PE X (.BoolOp op [a] pos) (tM c W ma) := pe_one ha
theorem ok_and (hK : X.K = c.K) (ha : PE X a (tM c W ma)) (hb : PE X (.BoolOp .And (b :: rest) pos) (tM c W mb)) : PE X (.BoolOp .And (a :: b :: rest) pos) (tM c W (mAnd ma mb)) := by
  refine PE.weak (pe_andT ha hb) fun σ H Q ⟨g, R, h⟩ => ⟨g, R, (After.bind h).imp fun x g1 H1 x1 R1 h1 v r => ?_⟩
  obtain ⟨k, t, _, q⟩ := tr hK R1 (.inl r) (After.bind h1)
  refine ⟨k, t, ?_⟩
  cases k with
  | true => exact ⟨g1, R1, q⟩
  | false => exact After.pure q R1 v r
theorem ok_or (hK : X.K = c.K) (ha : PE X a (tM c W ma)) (hb : PE X (.BoolOp .Or (b :: rest) pos) (tM c W mb)) : PE X (.BoolOp .Or (a :: b :: rest) pos) (tM c W (mOr ma mb)) := by
  refine PE.weak (pe_orT ha hb) fun σ H Q ⟨g, R, h⟩ => ⟨g, R, (After.bind h).imp fun x g1 H1 x1 R1 h1 v r => ?_⟩
  obtain ⟨k, t, _, q⟩ := tr hK R1 (.inl r) (After.bind h1)
  refine ⟨k, t, ?_⟩
  cases k with
  | true => exact After.pure q R1 v r
  | false => exact ⟨g1, R1, q⟩
theorem okW_one_and (ha : PT X a (tB c W (mT ma))) : PW X (.BoolOp .And [a] pos) (tB c W (mT ma)) := pw_and1 ha
theorem okW_one_or (ha : PT X a (tB c W (mT ma))) : PW X (.BoolOp .Or [a] pos) (tB c W (mT ma)) := pw_or1 ha
theorem okW_and (ha : PT X a (tB c W (mT ma))) (hb : PW X (.BoolOp .And (b :: rest) pos) (tB c W (mT mb))) : PW X (.BoolOp .And (a :: b :: rest) pos) (tB c W (mT (mAnd ma mb))) := by
  rw [mT_and]
  refine PW.weak (pw_and ha hb) fun σ H Q ⟨g, R, h⟩ => ⟨g, R, (After.bind h).imp fun k g1 H1 x1 R1 h1 => ?_⟩
  cases k with
  | true => exact ⟨g1, R1, h1⟩
  | false => exact After.pure h1 R1
theorem okW_or (ha : PT X a (tB c W (mT ma))) (hb : PW X (.BoolOp .Or (b :: rest) pos) (tB c W (mT mb))) : PW X (.BoolOp .Or (a :: b :: rest) pos) (tB c W (mT (mOr ma mb))) := by
  rw [mT_or]
  refine PW.weak (pw_or ha hb) fun σ H Q ⟨g, R, h⟩ => ⟨g, R, (After.bind h).imp fun k g1 H1 x1 R1 h1 => ?_⟩
  cases k with
  | true => exact After.pure h1 R1
  | false => exact ⟨g1, R1, h1⟩
/-! a if t else b -/
theorem ok_ite (ht : PT X t (tB c W (mT mt))) (ha : PE X a (tM c W ma)) (hb : PE X b (tM c W mb)) : PE X (.IfExp t a b pos) (tM c W (mIte mt ma mb)) := by
  rw [mIte_eq]
  refine PE.weak (pe_ifExp ht ha hb) fun σ H Q ⟨g, R, h⟩ => ⟨g, R, (After.bind h).imp fun k g1 H1 x1 R1 h1 => ?_⟩
  cases k with
  | true => exact ⟨g1, R1, h1⟩
  | false => exact ⟨g1, R1, h1⟩
theorem okT_ite (ht : PT X t (tB c W (mT mt))) (ha : PT X a (tB c W (mT ma))) (hb : PT X b (tB c W (mT mb))) : PT X (.IfExp t a b pos) (tB c W (mT (mIte mt ma mb))) := by
  rw [mT_ite]
  refine ⟨fun pins s σ H Q I ⟨g, R, h⟩ => isTrue_IfExp ?_⟩
  have hq : tB c W (mT mt) σ H (fun k H1 => ∃ g1, Rel c g1 σ H1 ∧ After c W g1 σ ((if k = true then mT ma else mT mb) g1.ρ g1.S) fun b g' H' => Q b H') :=
    ⟨g, R, (After.bind h).imp fun k g1 H1 x1 R1 h1 => ⟨g1, R1, h1⟩⟩
  refine thn (ht.run pins s σ H _ I hq) fun k s1 ⟨H1, I1, q⟩ => ?_
  cases k with
  | true => exact ha.run pins s1 σ H1 Q I1 q
  | false => exact hb.run pins s1 σ H1 Q I1 q
/-! chains -/
def mChn (o p : Cop) (ma mb mc : M D) : M D := M.bind ma fun x => M.bind mb fun y => M.bind (M.of (cop o x y)) fun k => if k then M.bind mc fun z => M.bind (M.of (cop p y z)) fun l => M.pure (.bl l) else M.pure (.bl false)
theorem ok_chn (hK : X.K = c.K) (hw : X.w = c.w) (hu : X.A.units + 65 < cLine) (o p : Cop) (ha : PE X a (tM c W ma)) (hb : PE X b (tM c W mb)) (hd : PE X d (tM c W mc)) (hm : lastMarks [copOf o, copOf p] [b, d] = false) :
    PE X (.Compare a [copOf o, copOf p] [b, d] pos) (tM c W (mChn o p ma mb mc)) := by
  refine PE.weak (pe_chain (op_cop (c := c) o hK hw hu) (op_cop (c := c) p hK hw hu) ha hb hd hm) fun σ H Q ⟨g, R, h⟩ => ⟨g, R, (After.bind h).imp fun x g1 H1 x1 R1 h1 v r => ⟨g1, R1, (After.bind h1).imp fun y g2 H2 x2 R2 h2 u r' => ?_⟩⟩
  obtain ⟨k, e, q⟩ := After.of (After.bind h2)
  have q := After.app q R2 .refl rfl rfl
  refine ⟨g2, σ, x, y, k, R2, .inl (r.ext x2.e), .inl r', e, k, rfl, ?_⟩
  cases k with
  | false => exact After.pure q R2 _ (by simp [Rep])
  | true =>
    refine ⟨g2, R2, (After.bind q).imp fun z g3 H3 x3 R3 h3 w r3 => ?_⟩
    obtain ⟨l, e3, q3⟩ := After.of (After.bind h3)
    exact ⟨g3, σ, y, z, l, R3, .inl (r'.ext x3.e), .inl r3, e3, After.pure (After.app q3 R3 .refl rfl rfl) R3 _ (by simp [Rep])⟩
theorem okT_chn (hK : X.K = c.K) (hw : X.w = c.w) (hu : X.A.units + 65 < cLine) (o p : Cop) (ha : PE X a (tM c W ma)) (hb : PE X b (tM c W mb)) (hd : PE X d (tM c W mc)) (hm : lastMarks [copOf o, copOf p] [b, d] = false) :
    PT X (.Compare a [copOf o, copOf p] [b, d] pos) (tB c W (mT (mChn o p ma mb mc))) := by
  refine PT.weak (pt_chain (op_cop (c := c) o hK hw hu) (op_cop (c := c) p hK hw hu) ha hb hd hm) fun σ H Q ⟨g, R, h⟩ => ⟨g, R, (After.bind (After.bind h)).imp fun x g1 H1 x1 R1 h1 v r => ⟨g1, R1, (After.bind h1).imp fun y g2 H2 x2 R2 h2 u r' => ?_⟩⟩
  obtain ⟨k, e, q⟩ := After.of (After.bind h2)
  have q := After.app q R2 .refl rfl rfl
  refine ⟨g2, σ, x, y, k, R2, .inl (r.ext x2.e), .inl r', e, k, rfl, ?_⟩
  cases k with
  | false => exact ⟨false, rfl, (After.pure q R2) g2 H2 rfl rfl .refl R2⟩
  | true =>
    refine ⟨g2, R2, (After.bind q).imp fun z g3 H3 x3 R3 h3 w r3 => ?_⟩
    obtain ⟨l, e3, q3⟩ := After.of (After.bind h3)
    exact ⟨g3, σ, y, z, l, R3, .inl (r'.ext x3.e), .inl r3, e3, l, rfl, (After.pure (After.app q3 R3 .refl rfl rfl) R3) g3 H3 rfl rfl .refl R3⟩
/-! subscripts -/
theorem mIdx_pure {x i : D} (h : ∀ n, x ≠ .ref n) (ρ : Env) (S : Sto) : mIdx x i ρ S = M.of (index x i) ρ S := by
  cases x <;> first | rfl | exact absurd rfl (h _)
/-- a cell's item -/
theorem cell_at (hK : X.K = c.K) (R : Rel c g σ H) {n : Nat} {v : V} {xs : List D} {k : Int} {d : D} (r : Rep c g.F g.m (.ref n) v) (hS : g.S[n]? = some (.lst xs)) (hd : atI xs k = some d) : ∃ a vs w, v = .ref a ∧ H a = some (.lst vs) ∧ L2.atI vs k = some w ∧ Rep c g.F g.m d w := by
  simp only [Rep] at r
  obtain ⟨a, h1, rfl⟩ := r
  obtain ⟨_, _, vs, h2, r2⟩ := R.b.cl n _ a hS h1
  obtain ⟨w, h3, h4⟩ := atI_V r2 hd
  exact ⟨a, vs, w, rfl, h2, h3, h4⟩
def rIdx2 (c : Kx) (W : WX) : R2 := fun x y H Q => ∃ g σ' a b, Rel c g σ' H ∧ Bor c g H a x ∧ Rep c g.F g.m b y ∧ After c W g σ' (mIdx a b g.ρ g.S) fun d g' H' => ∀ v, Rep c g'.F g'.m d v → Q v H'
theorem ix_idx2 (hK : X.K = c.K) (hw : X.w = c.w) : IxR X (rIdx2 c W) := by
  intro value sli pins s σ H x y v u Q I rx ry ⟨g, σ', a, b, R, ra, rb, q⟩ hs
  by_cases z : ∃ n, a = .ref n
  · obtain ⟨n, rfl⟩ := z
    have ra := ra.rep (fun _ z => by cases z)
    unfold mIdx at q
    simp only at q
    cases hS : g.S[n]? with
    | none => rw [hS] at q; exact q.elim
    | some cl =>
      cases cl with
      | lst xs =>
        rw [hS] at q
        cases b <;> try exact q.elim
        rename_i k
        simp only at q
        cases hd : atI xs k with
        | none => rw [hd] at q; exact q.elim
        | some d =>
          rw [hd] at q
          obtain ⟨p, vs, w, rfl, h1, h2, h3⟩ := cell_at hK R ra hS hd
          simp only [Rep] at rb; subst rb
          exact ix_list value sli pins s σ H _ _ v u Q I rx ry ⟨p, vs, k, w, rfl, rfl, SqL.of h1, h2, q g H rfl rfl .refl R w h3⟩ hs
  · rw [mIdx_pure (fun n e => z ⟨n, e⟩)] at q
    obtain ⟨d, e, q⟩ := After.of q
    exact ix_idx (W := W) hK hw value sli pins s σ H x y v u Q I rx ry ⟨g, σ', a, b, d, R, ra, rb, e, q⟩ hs
theorem ok_idx (hK : X.K = c.K) (hw : X.w = c.w) (ha : PE X a (tM c W ma)) (hb : PE X b (tM c W mb)) (hs : PlainIx b) : PE X (.Subscript a b pos) (tM c W (M.bind ma fun x => M.bind mb fun k => mIdx x k)) := by
  refine PE.weak (pe_ix (ix_idx2 (W := W) hK hw) ha hb hs) fun σ H Q ⟨g, R, h⟩ => ⟨g, R, (After.bind h).imp fun x g1 H1 x1 R1 h1 v r => ⟨g1, R1, (After.bind h1).imp fun y g2 H2 x2 R2 h2 u r' => ?_⟩⟩
  exact ⟨g2, σ, x, y, R2, .inl (r.ext x2.e), r', h2⟩
theorem ok_idx2 (hK : X.K = c.K) (hw : X.w = c.w) (ha : PE X a (tBo c W ma)) (hb : PE X b (tSi c W mb)) (hs : PlainIx b) : PE X (.Subscript a b pos) (tM c W (M.bind ma fun x => M.bind mb fun k => mIdx x k)) := by
  refine PE.weak (pe_ix (ix_idx2 (W := W) hK hw) ha hb hs) fun σ H Q ⟨g, R, h⟩ => ⟨g, R, (After.bind h).imp fun x g1 H1 x1 R1 h1 v r => ⟨g1, R1, (After.bind h1).imp fun y g2 H2 x2 R2 h2 kp u r' => ?_⟩⟩
  exact ⟨g2, σ, x, y, R2, r.keep x2 kp, r', h2⟩
end
end Ev

set_option Elab.async false
set_option linter.all false
set_option autoImplicit false
set_option maxRecDepth 100000
/-! EvJ: slices, built-ins, methods, isinstance, f-strings. -/
namespace Ev
open PySem PySem.Spec PyProof.Rows L2

section
variable (c : Kx) (W : WX)
def tO (m : M (Option Int)) : TO := fun σ H Q => ∃ g, Rel c g σ H ∧ After c W g σ (m g.ρ g.S) fun o g' H' => Q o H'
def tOs (m : M (Option Int)) : TO := fun σ H Q => ∃ g, Rel c g σ H ∧ After c W g σ (m g.ρ g.S) fun o g' H' => (∀ a o, H a = some o → H' a = some o) → Q o H'
end
section
variable {X : Cx} {c : Kx} {W : WX} {pos p2 apos cpos : Pos} {a b e t d o : Expr} {lo hi : Option Expr} {es rest : List Expr} {ma mb mc m mt : M D} {ml mh : M (Option Int)} {ms : M (List D)} {g g' : Gs} {σ : St} {H H' : Hp}
def mPart (m : M D) : M (Option Int) := M.bind m fun d => match d with | .int i => M.pure (some i) | _ => M.bad
theorem po_no : PO X none (tO c W (M.pure none)) := ⟨fun pins s σ H Q I ⟨g, R, h⟩ => po_none.run pins s σ H Q I (After.pure h R)⟩
theorem po_nos : PO X none (tOs c W (M.pure none)) := ⟨fun pins s σ H Q I ⟨g, R, h⟩ => po_none.run pins s σ H Q I (After.pure h R fun _ _ z => z)⟩
theorem po_yes (h : PE X e (tM c W m)) : PO X (some e) (tO c W (mPart m)) := by
  refine ⟨fun pins s σ H Q I ⟨g, R, q⟩ => (po_some h).run pins s σ H Q I ⟨g, R, (After.bind q).imp fun x g1 H1 x1 R1 h1 v r => ?_⟩⟩
  cases x with
  | int i => simp only [Rep] at r; exact ⟨i, r, After.pure h1 R1⟩
  | _ => exact h1.elim
theorem po_yess (h : PE X e (tSi c W m)) : PO X (some e) (tOs c W (mPart m)) := by
  refine ⟨fun pins s σ H Q I ⟨g, R, q⟩ => (po_some h).run pins s σ H Q I ⟨g, R, (After.bind q).imp fun x g1 H1 x1 R1 h1 kp v r => ?_⟩⟩
  cases x with
  | int i => simp only [Rep] at r; exact ⟨i, r, After.pure h1 R1 kp⟩
  | _ => exact h1.elim
def mSlc (ma : M D) (ml mh : M (Option Int)) : M D := M.bind ma fun x => M.bind ml fun l => M.bind mh fun h => M.of (slice x l h)
theorem ok_slc (hK : X.K = c.K) (ha : PE X a (tM c W ma)) (hl : PO X lo (tO c W ml)) (hh : PO X hi (tO c W mh)) : PE X (.Subscript a (.Slice lo hi none p2) pos) (tM c W (mSlc ma ml mh)) := by
  refine PE.weak (pe_slice (sl_sli (W := W) hK) ha hl hh) fun σ H Q ⟨g, R, h⟩ => ⟨g, R, (After.bind h).imp fun x g1 H1 x1 R1 h1 v r => ⟨g1, R1, (After.bind h1).imp fun l g2 H2 x2 R2 h2 => ⟨g2, R2, (After.bind h2).imp fun u g3 H3 x3 R3 h3 => ?_⟩⟩⟩
  obtain ⟨w, e, q⟩ := After.of h3
  exact ⟨g3, σ, x, w, R3, .inl ((r.ext x2.e).ext x3.e), e, q⟩
theorem ok_slc2 (hK : X.K = c.K) (ha : PE X a (tBo c W ma)) (hl : PO X lo (tOs c W ml)) (hh : PO X hi (tOs c W mh)) : PE X (.Subscript a (.Slice lo hi none p2) pos) (tM c W (mSlc ma ml mh)) := by
  refine PE.weak (pe_slice (sl_sli (W := W) hK) ha hl hh) fun σ H Q ⟨g, R, h⟩ => ⟨g, R, (After.bind h).imp fun x g1 H1 x1 R1 h1 v r => ⟨g1, R1, (After.bind h1).imp fun l g2 H2 x2 R2 h2 k2 => ⟨g2, R2, (After.bind h2).imp fun u g3 H3 x3 R3 h3 k3 => ?_⟩⟩⟩
  obtain ⟨w, e, q⟩ := After.of h3
  exact ⟨g3, σ, x, w, R3, (r.keep x2 k2).keep x3 k3, e, q⟩

/-! ### built-ins -/
theorem ok_bi (bi : Bi) {x : Str} {p : Pos} {id : String} (hv : biVal bi = .builtin id) (hK : X.K = c.K) (hc : X.calm = true) (hgd : X.A.guards = some []) (hu : X.A.units + 65 < cLine)
    (hg : Gl X x) (hm : X.mg x = none) (hb : bootBuiltins x = some (.builtin id)) (hn : x ≠ "__name__") (hdb : (x == ("__debug__" : Str)) = false) (ha : PA X (e :: es) (tA c W ms))
    (he : starEach (e :: es) X.env = (false, eval e X.env) :: starEach es X.env) (hpl : (backTo pos (starEach es X.env)).any (·.1) = false) :
    PE X (.Call (.Name x p) (e :: es) [] pos) (tM c W (M.bind ms fun ds => M.of (bip shownD bi ds))) := by
  have op := bi_ok (c := c) (W := W) bi hK hc hgd hu
  rw [hv] at op
  refine PE.weak (pe_callB op hg hm hb ha hn hdb he hpl) fun σ H Q ⟨g, R, h⟩ => ⟨g, R, (After.bind h).imp fun ds g1 H1 x1 R1 h1 vs rs => ?_⟩
  obtain ⟨d, e, q⟩ := After.of h1
  exact ⟨g1, σ, ds, d, R1, rs, e, q⟩
theorem ok_biT (bi : Bi) {x : Str} {p : Pos} {T : String} (hv : biVal bi = .type T) (hK : X.K = c.K) (hc : X.calm = true) (hgd : X.A.guards = some []) (hu : X.A.units + 65 < cLine)
    (hg : Gl X x) (hm : X.mg x = none) (hb : bootBuiltins x = some (.type T)) (hn : x ≠ "__name__") (hdb : (x == ("__debug__" : Str)) = false) (ha : PA X (e :: es) (tA c W ms))
    (he : starEach (e :: es) X.env = (false, eval e X.env) :: starEach es X.env) (hpl : (backTo pos (starEach es X.env)).any (·.1) = false) :
    PE X (.Call (.Name x p) (e :: es) [] pos) (tM c W (M.bind ms fun ds => M.of (bip shownD bi ds))) := by
  have op := bi_ok (c := c) (W := W) bi hK hc hgd hu
  rw [hv] at op
  refine PE.weak (pe_callTy op hg hm hb ha hn hdb he hpl) fun σ H Q ⟨g, R, h⟩ => ⟨g, R, (After.bind h).imp fun ds g1 H1 x1 R1 h1 vs rs => ?_⟩
  obtain ⟨d, e, q⟩ := After.of h1
  exact ⟨g1, σ, ds, d, R1, rs, e, q⟩
theorem ok_len {x : Str} {p : Pos} (hK : X.K = c.K) (hg : Gl X x) (hm : X.mg x = none) (hb : bootBuiltins x = some (.builtin "len")) (hn : x ≠ "__name__") (hdb : (x == ("__debug__" : Str)) = false) (ha : PE X e (tBo c W m))
    (he : starEach [e] X.env = (false, eval e X.env) :: starEach [] X.env) (hpl : (backTo pos (starEach [] X.env)).any (·.1) = false) :
    PE X (.Call (.Name x p) [e] [] pos) (tM c W (M.bind m fun x => M.of (bip shownD .len [x]))) := by
  refine PE.weak (pe_callB (bi_len (c := c) (W := W) hK) hg hm hb (pa_cons ha pa_nil he) hn hdb he hpl) fun σ H Q ⟨g, R, h⟩ => ⟨g, R, (After.bind h).imp fun d g1 H1 x1 R1 h1 v r => ?_⟩
  obtain ⟨w, e, q⟩ := After.of h1
  exact ⟨g1, σ, d, v, w, rfl, R1, r, e, q⟩
def mListOf (ms : M (List D)) : M (List D) := M.bind ms fun ds => match ds with | [d] => mList d | _ => M.bad
/-- list(x), x a list or a tuple -/
theorem okF_list {x : Str} {p : Pos} (hK : X.K = c.K) (hg : Gl X x) (hm : X.mg x = none) (hb : bootBuiltins x = some (.type "list")) (hn : x ≠ "__name__") (hdb : (x == ("__debug__" : Str)) = false) (ha : PE X e (tM c W m))
    (he : starEach [e] X.env = (false, eval e X.env) :: starEach [] X.env) (hpl : (backTo pos (starEach [] X.env)).any (·.1) = false) :
    PE X (.Call (.Name x p) [e] [] pos) (tF c W (M.bind m mLst)) := by
  refine PE.weak (pe_callTy (list_ok (c := c) (W := W) hK) hg hm hb (pa_cons ha pa_nil he) hn hdb he hpl) fun σ H Q ⟨g, R, h⟩ => ⟨g, R, (After.bind h).imp fun d g1 H1 x1 R1 h1 v r => ?_⟩
  unfold mLst at h1
  cases d with
  | tup xs => exact ⟨g1, σ, _, xs, R1, RepL.cons_ r (by simp [RepL]), .inl rfl, After.pure h1 R1⟩
  | lst xs => exact ⟨g1, σ, _, xs, R1, RepL.cons_ r (by simp [RepL]), .inr rfl, After.pure h1 R1⟩
  | _ => exact h1.elim
/-! ### isinstance -/
theorem ok_isi (T : Ty) {x y : Str} {p p3 : Pos} (hK : X.K = c.K) (hg : Gl X x) (hm : X.mg x = none) (hb : bootBuiltins x = some (.builtin "isinstance")) (hn : x ≠ "__name__") (hdb : (x == ("__debug__" : Str)) = false)
    (hg2 : Gl X y) (hm2 : X.mg y = none) (hb2 : bootBuiltins y = some (.type (tyNm T))) (hn2 : y ≠ "__name__") (hdb2 : (y == ("__debug__" : Str)) = false) (ha : PE X e (tBo c W m))
    (he : starEach [e, .Name y p3] X.env = (false, eval e X.env) :: starEach [.Name y p3] X.env) (hpl : (backTo pos (starEach [.Name y p3] X.env)).any (·.1) = false) :
    PE X (.Call (.Name x p) [e, .Name y p3] [] pos) (tM c W (M.bind m fun x => M.bind (M.of (isTy T x)) fun k => M.pure (.bl k))) := by
  refine PE.weak (pe_callB (isi_ok (c := c) T hK) hg hm hb (pa_cons ha (pa_cons (pe_bltn (v := .ty (tyNm T)) hg2 hm2 hb2 rfl hn2 hdb2) pa_nil) he) hn hdb he hpl) fun σ H Q ⟨g, R, h⟩ => ⟨g, R, (After.bind h).imp fun d g1 H1 x1 R1 h1 v r => ?_⟩
  obtain ⟨k, e, q⟩ := After.of (After.bind h1)
  exact ⟨g1, σ, d, v, k, rfl, R1, r, e, After.pure (After.app q R1 .refl rfl rfl) R1 _ (by simp [Rep])⟩
/-! ### methods -/
def tyIs : Ty → D → Bool
  | .str, .str _ => true
  | .list, .lst _ => true
  | _, _ => false
theorem tyV_of (hK : X.K = c.K) (R : Rel c g σ H) {T : Ty} {d : D} {v : V} (h : tyIs T d = true) (r : Rep c g.F g.m d v) : tyV X.K (tyNm T) v H := by
  cases T <;> cases d <;> simp [tyIs] at h
  · simp only [Rep] at r; subst r; rfl
  · simp only [Rep] at r
    obtain ⟨a, vs, rfl, s, _⟩ := r
    exact .inl ⟨rfl, vs, SqL.of (R.b.fh _ _ s)⟩
def mMt (mt : Mt) (f : D → Bool) (m : M D) (ms : M (List D)) : M D := M.bind m fun x => if f x then M.bind ms fun ds => M.of (mtp mt x ds) else M.bad
section
variable {name : Str} {id : String}
theorem ok_mt (mt : Mt) (T : Ty) (hK : X.K = c.K) (pa : PlainAttrs (tyNm T)) (slot : Slot (tyNm T) name id) (hty : typeOf (.builtin id) = pure (.type "method_descriptor")) (hm : MtR X id (rMt c W mt T)) (ho : PE X o (tM c W m)) (ha : PA X (e :: es) (tA c W ms))
    (hbase : attributeBase o name X.env (eval o X.env) = eval o X.env)
    (hfew : ((backTo cpos (starEach (e :: es) X.env)).all (fun x => !x.1) && (backToKw cpos (keywordEach [] X.env)).all (fun x => x.1.isSome) && decide ((e :: es).length + ([] : List Keyword).length + (if ([] : List Keyword).isEmpty then 0 else 1) < 30)) = true)
    (hline : (apos.endLine == cpos.line) = true) (hs : starEach (e :: es) X.env = (false, eval e X.env) :: starEach es X.env) (hplain : (backTo cpos (starEach es X.env)).any (·.1) = false) :
    PE X (.Call (.Attribute o name apos) (e :: es) [] cpos) (tM c W (mMt mt (tyIs T) m ms)) := by
  refine PE.weak (pe_bm pa slot hty hm ho ha hbase hfew hline hs hplain) fun σ H Q ⟨g, R, h⟩ => ⟨g, R, (After.bind h).imp fun x g1 H1 x1 R1 h1 v r => ?_⟩
  cases ht : tyIs T x with
  | false => rw [ht] at h1; exact h1.elim
  | true =>
    rw [ht] at h1
    refine ⟨tyV_of hK R1 ht r, g1, R1, (After.bind h1).imp fun ds g2 H2 x2 R2 h2 vs rs => ?_⟩
    obtain ⟨d, e, q⟩ := After.of h2
    refine ⟨g2, σ, x, ds, d, R2, r.ext x2.e, rs, ?_, e, q⟩
    cases T <;> cases x <;> simp [tyIs] at ht <;> rfl
/-- .. of a written tuple -/
theorem ok_mtg (mt : Mt) {xs : List D} {p : Addr} (hK : X.K = c.K) (pa : PlainAttrs "tuple") (slot : Slot "tuple" name id) (hty : typeOf (.builtin id) = pure (.type "method_descriptor")) (hm : MtR X id (rMt c W mt .tuple)) (ho : PE X o (tC (.ref p)))
    (hp : ∃ ob, X.K.lookup p = some ob ∧ ob.cls = .type "tuple" ∧ ob.dict = none) (hr : ∀ F m, Rep c F m (.tup xs) (.ref p)) (ha : PA X (e :: es) (tA c W ms))
    (hbase : attributeBase o name X.env (eval o X.env) = eval o X.env)
    (hfew : ((backTo cpos (starEach (e :: es) X.env)).all (fun x => !x.1) && (backToKw cpos (keywordEach [] X.env)).all (fun x => x.1.isSome) && decide ((e :: es).length + ([] : List Keyword).length + (if ([] : List Keyword).isEmpty then 0 else 1) < 30)) = true)
    (hline : (apos.endLine == cpos.line) = true) (hs : starEach (e :: es) X.env = (false, eval e X.env) :: starEach es X.env) (hplain : (backTo cpos (starEach es X.env)).any (·.1) = false) :
    PE X (.Call (.Attribute o name apos) (e :: es) [] cpos) (tM c W (M.bind ms fun ds => M.of (mtp mt (.tup xs) ds))) := by
  refine PE.weak (pe_bm pa slot hty hm ho ha hbase hfew hline hs hplain) fun σ H Q ⟨g, R, h⟩ => ⟨.inr (.inl ⟨rfl, hp⟩), g, R, (After.bind h).imp fun ds g2 H2 x2 R2 h2 vs rs => ?_⟩
  obtain ⟨d, e, q⟩ := After.of h2
  exact ⟨g2, σ, .tup xs, ds, d, R2, hr _ _, rs, rfl, e, q⟩
end
/-! ### f-strings -/
/-- a piece as a text -/
def mFmt (m : M D) : M D := M.bind m fun d => match d with
  | .str x => if x.length ≤ SZ then M.pure (.str x) else M.bad
  | .int i => if i.natAbs.log2 < 1920 then M.pure (.str (intTxt i)) else M.bad
  | _ => M.bad
theorem ok_fmt (ha : PE X e (tM c W m)) : PE X (.FormattedValue e (-1) none pos) (tM c W (mFmt m)) := by
  refine PE.weak (pe_fmt ha) fun σ H Q ⟨g, R, h⟩ => ⟨g, R, (After.bind h).imp fun d g1 H1 x1 R1 h1 v r => ?_⟩
  cases d with
  | str x =>
    simp only [Rep] at r; subst r
    by_cases z : x.length ≤ SZ
    · simp only [if_pos z] at h1
      exact .inl ⟨_, rfl, by rw [toStr_len, sizeLine_eq]; exact z, After.pure h1 R1 _ (by simp [Rep])⟩
    · simp only [if_neg z] at h1; exact h1.elim
  | int i =>
    simp only [Rep] at r; subst r
    by_cases z : i.natAbs.log2 < 1920
    · simp only [if_pos z] at h1
      refine .inr ⟨i, rfl, z, ?_⟩
      rw [str_int]
      exact After.pure h1 R1 _ (by simp [Rep])
    · simp only [if_neg z] at h1; exact h1.elim
  | _ => exact h1.elim
/-- texts joined one behind the other -/
def mJoin : List (M D) → Txt → M D
  | [], acc => M.pure (.str acc)
  | m :: ms, acc => M.bind m fun d => match d with
    | .str x => if acc.length + x.length ≤ SZ then mJoin ms (acc ++ x) else M.bad
    | _ => M.bad
inductive PM (c : Kx) (W : WX) (X : Cx) : List Expr → List (M D) → Prop where
  | nil : PM c W X [] []
  | cons {e : Expr} {m : M D} {es : List Expr} {ms : List (M D)} (h : PE X e (tM c W m)) (r : PM c W X es ms) : PM c W X (e :: es) (m :: ms)
theorem PM.pj {es : List Expr} {ms : List (M D)} (h : PM c W X es ms) : PJ X es (ms.map (tM c W)) := by
  induction h with
  | nil => exact .nil
  | cons h r ih => exact .cons h ih
theorem pm_read : ∀ (ms : List (M D)) (acc : Txt) (σ : St) (H : Hp) (Q : VK) (g : Gs), Rel c g σ H → After c W g σ (mJoin ms acc g.ρ g.S) (fun d g' H' => ∀ v, Rep c g'.F g'.m d v → Q v H') → tJs (ms.map (tM c W)) (toStr acc) σ H fun out H1 => Q (.str out) H1
  | [], acc, σ, H, Q, g, R, h => After.pure h R _ (by simp [Rep])
  | m :: ms, acc, σ, H, Q, g, R, h => ⟨g, R, (After.bind h).imp fun d g1 H1 x1 R1 h1 v r => by
    cases d with
    | str x =>
      simp only [Rep] at r; subst r
      by_cases z : acc.length + x.length ≤ SZ
      · simp only [if_pos z] at h1
        refine ⟨_, rfl, by rw [toStr_app, toStr_len, sizeLine_eq, List.length_append]; exact z, ?_⟩
        rw [toStr_app]
        exact pm_read ms (acc ++ x) σ H1 Q g1 R1 h1
      · simp only [if_neg z] at h1; exact h1.elim
    | _ => exact h1.elim⟩
theorem ok_joined {v1 v2 : Expr} {ms : List (M D)} (h : PM c W X (v1 :: v2 :: rest) ms) : PE X (.JoinedStr (v1 :: v2 :: rest) pos) (tM c W (mJoin ms [])) :=
  PE.weak (pe_joined h.pj) fun σ H Q ⟨g, R, h⟩ => pm_read ms [] σ H Q g R h
end
end Ev

set_option Elab.async false
set_option linter.all false
set_option autoImplicit false
set_option maxRecDepth 100000
/-! EvK: defs and calls. -/
namespace Ev
open PySem PySem.Spec PyProof.Rows L2

/-- a def keeps a promise where no repr is under way; an exception may leave it -/
structure FnG (P : PySem.Program) (w : World) (K : PySem.W.Frag) (mg : Str → Option Value) (base : Heap) (k : Nat) (f : Addr) (fd : FuncData) (ps : List Str) (sp : Sp) : Prop where
  len : ∀ vs H Q E, sp vs H Q E → vs.length = ps.length
  run : ∀ (A : Around) (outer : List PySem.Env) (s : Shared) (H : Hp) (args : Args) (us : List Value) (vs : List V) (Q : VK) (E : XK), Room k A → A.guards = some [] → Env0 P w K mg base A outer s H → BindsTo s fd args (ps.zip us) → Vals vs us → sp vs H Q E →
    codeAny (model P w) A (.call (.ref f) args) (L2.CR (L2.CX P w) outer P w H s Q E) s
/-- by its body -/
theorem fnG_of {P : PySem.Program} {w : World} {K : PySem.W.Frag} {mg : Str → Option Value} {base : Heap} {x qual : Str} {params : Arguments} {body : List Stmt} {scope : Scope} {dvs : List V} {kws : List (Str × V)} {f : Addr} {fd : FuncData} {N ps : List Str} {k : Nat} {sp : Sp}
    (F : FunD K x qual params body scope dvs kws f fd) (S : FnScope N ps scope) (len : ∀ vs H Q E, sp vs H Q E → vs.length = ps.length)
    (hbody : ∀ (cdv : Value) (A : Around) (outer : List PySem.Env) (s : Shared) (H : Hp) (vs : List V) (Q : VK) (E : XK), Room k (A.deeper (envOfC qual scope s.heap.objs.size f cdv)) → A.guards = some [] → sp vs H Q E →
      ∃ t, PSs (cxOf (L2.CX P w) P w K mg base N qual scope f cdv A outer s H E) body t ∧ t { nx := fun _ H' => Q .non H', rt := Q } (start N vs) H) : FnG P w K mg base (k + 1) f fd ps sp := by
  obtain ⟨oc, od, dV, kV, doc, pm, an, cdv, ct, osl, e0, lk, hcd, _, _⟩ := F.ex
  subst e0
  refine ⟨len, fun A outer s H args us vs Q E hroom hguard en hbind rv hsp => ?_⟩
  have hlen := len _ _ _ _ hsp
  have hK : K.In s.heap := en.mod.kin.keeps (fun b o z => (en.bs b o z).1)
  have hlim : s.heap.NoLimit := en.mod.nolimit.keeps (fun b o z => (en.bs b o z).1)
  have kinds : ∀ y ∈ ps.zip us, scope.names.lookup y.1 = some .local ∨ (scope.names.lookup y.1 = some .cell ∧ ((cellsFrom (s.heap.objs.size + 1) scope.names []).lookup y.1).isSome = true) := by
    intro y hy
    cases S.par y.1 (List.of_mem_zip hy).1 with
    | inl q => exact Or.inl q
    | inr q => exact Or.inr ⟨q, PySem.W.cellsFrom_some _ _ _ (Or.inl q)⟩
  refine codeAny_call_function hroom.depth (hK _ _ lk) rfl S.co S.gen rfl (PySem.W.codeRec_of hK hcd) (hbind _ _ _ _ ?_)
  refine wpAny_newFunctionEnv_cells S.kind kinds (fun env he s1 ic => ?_)
  subst he
  refine ⟨hlim.keeps ic.toInCall.keep, codeAny_func ?_⟩
  obtain ⟨t, ht, hq⟩ := hbody cdv A outer s H vs Q E (hroom.deeper _) hguard hsp
  have hI := inv_start (CX := L2.CX P w) (P := P) (w := w) (K := K) (mg := mg) (base := base) (E := E) (H := H) (qual := qual) S hroom.hd en hlen rv ic
  refine wpAny_mono (ht.run [] s1 (start N vs) H _ hI hq) (fun fl s' hs => ?_) (fun e s' hs => hs)
  cases fl with
  | ret u => obtain ⟨v, σ', H', J, rv', q⟩ := hs; exact ⟨v, H', J.os, J.bare, J.base, J.hok, rv', q⟩
  | next => obtain ⟨σ', H', J, q⟩ := hs; exact ⟨V.non, H', J.os, J.bare, J.base, J.hok, rfl, q⟩
  | brk => obtain ⟨_, _, _, q⟩ := hs; exact q.elim
  | cont => obtain ⟨_, _, _, q⟩ := hs; exact q.elim

section
variable {X : Cx} {k : Nat} {f : Addr} {fd : FuncData} {ps ks : List Str} {sp : Sp} {x : Str} {p pos : Pos} {e : Expr} {es : List Expr} {t tk : TA} {W : WX}
/-- f(e, ..), every parameter given by place; what is raised is wished for at the slots -/
def tCallG (sp : Sp) (W : WX) (t : TA) : TE := fun σ H Q => t σ H fun vs H1 => sp vs H1 Q (fun cls d H' => W cls d σ H')
theorem passW (tk : Takes X W) {pins : List (Addr × Obj)} {σ : L2.St} {H : Hp} {s s' : Shared} {e : Value} (I : Inv X pins σ H s) (h : L2.CX X.prog X.w X.stack H s (fun cls d H' => W cls d σ H') e s') : X.xe e s' :=
  tk e s' (XE.of_call I (fun cls d H' z => z) h)
theorem run_G {pins : List (Addr × Obj)} {σ : L2.St} {H : Hp} {s : Shared} {Q : VK} {us ws : List Value} {vs : List V} {kw : List (Str × Value)} (F : FnG X.prog X.w X.K X.mg X.base k f fd ps sp) (hr : Room k X.A) (hg : X.A.guards = some []) (tk : Takes X W) (I : Inv X pins σ H s)
    (hb : BindsTo s fd ⟨us, kw⟩ (ps.zip ws)) (r : Vals vs ws) (h : sp vs H Q (fun cls d H' => W cls d σ H')) : wpAny (model X.prog X.w) X.A (call (.ref f) us kw) (EP X pins σ Q) X.xe s := by
  refine wpAny_call (codeAny_mono (F.run X.A X.stack s H ⟨us, kw⟩ ws vs Q _ hr hg I.env0 hb r h) fun r s' hq => ?_)
  cases r with
  | error e => exact passW tk I hq
  | ok fl =>
    cases fl with
    | ret u => exact I.after hq
    | next => exact hq.elim
    | brk => exact hq.elim
    | cont => exact hq.elim
theorem pe_callG (F : FnG X.prog X.w X.K X.mg X.base k f fd ps sp) (hr : Room k X.A) (hgd : X.A.guards = some []) (tk : Takes X W) (hg : Gl X x) (hm : X.mg x = some (.ref f)) (hk : PySem.W.keepIn X.K (.ref f) = true) (hb : Binds X.K fd ps [])
    (ha : PA X (e :: es) t) (hdb : (x == ("__debug__" : Str)) = false) (he : starEach (e :: es) X.env = (false, eval e X.env) :: starEach es X.env) (hpl : (backTo pos (starEach es X.env)).any (·.1) = false) : PE X (.Call (.Name x p) (e :: es) [] pos) (tCallG sp W t) := by
  refine ⟨fun pins s σ H Q I h => wpAny_Call_Name_kw (ld_glob I hg hm ?_ hdb)⟩
  refine PySem.W.callWith_K (h₀ := X.base) I.ok.mod.kin hk (thn (ha.run pos pins s σ H _ I h) fun us s1 ⟨vs, H1, I1, r, q⟩ => ⟨I1.kIn, ?_⟩) he hpl
  have hl : us.length = ps.length := by rw [← r.length]; exact F.len _ _ _ _ q
  have b := hb s1 us I1.kIn (by rw [List.append_nil]; exact hl)
  rw [List.append_nil] at b
  exact run_G F hr hgd tk I1 b r q
theorem pe_callG0 (F : FnG X.prog X.w X.K X.mg X.base k f fd ps sp) (hr : Room k X.A) (hgd : X.A.guards = some []) (tk : Takes X W) (hg : Gl X x) (hm : X.mg x = some (.ref f)) (hk : PySem.W.keepIn X.K (.ref f) = true) (hb : Binds X.K fd ps [])
    (hdb : (x == ("__debug__" : Str)) = false) : PE X (.Call (.Name x p) [] [] pos) (tCallG sp W tNil) := by
  refine ⟨fun pins s σ H Q I h => wpAny_Call_Name_kw (ld_glob I hg hm ?_ hdb)⟩
  have hl : ([] : List Value).length = ps.length := F.len _ _ _ _ h
  have b := hb s [] I.kIn (by rw [List.append_nil]; exact hl)
  rw [List.append_nil] at b
  exact PySem.W.callWith_K0 I.kIn hk (run_G F hr hgd tk I b .nil h)
end

/-! ### the promise of a def of the language -/
/-- what the meaning of a call says -/
def spF (c : Kx) (call : Call) (f np : Nat) : Sp := fun vs H Q E => ∃ (g : Gs) (ds : List D), g.ρ = [] ∧ RelB c g.G g.F g.m g.S H ∧ RepL c g.F g.m ds vs ∧ ds.length = np ∧
  match call f ds g.S with
  | .ok d S' => ∀ v H' F' m', RelB c g.G F' m' S' H' → Ext g.F g.m F' m' → Rep c F' m' d v → Q v H'
  | .exc x S' => ∀ cls dd H' F' m', RelB c g.G F' m' S' H' → Ext g.F g.m F' m' → ExnR c x cls dd H' → E cls dd H'
  | .bad => False
open Classical in
/-- what a caller's slots hold by themselves is protected in a call -/
noncomputable def protect (g : Gs) (σ : St) (H : Hp) : Hp := fun a => if ∃ (i : Nat) (xs : List D), g.ρ[i]? = some (some (.ow xs)) ∧ σ[i]? = some (some (.ref a)) then H a else g.G a
theorem protect_own {g : Gs} {σ : St} {H : Hp} {a : Addr} (h : ∃ (i : Nat) (xs : List D), g.ρ[i]? = some (some (.ow xs)) ∧ σ[i]? = some (some (.ref a))) : protect g σ H a = H a := by unfold protect; rw [if_pos h]
theorem protect_else {g : Gs} {σ : St} {H : Hp} {a : Addr} (h : ¬ ∃ (i : Nat) (xs : List D), g.ρ[i]? = some (some (.ow xs)) ∧ σ[i]? = some (some (.ref a))) : protect g σ H a = g.G a := by unfold protect; rw [if_neg h]
section
variable {c : Kx} {g : Gs} {σ : St} {H : Hp}
theorem Rel.toCall (R : Rel c g σ H) : RelB c (protect g σ H) g.F g.m g.S H := by
  refine ⟨R.b.fh, fun a o h => ?_, fun a o h => ?_, R.b.ml, R.b.md, fun n x a h1 h2 => ?_⟩
  · by_cases z : ∃ (i : Nat) (xs : List D), g.ρ[i]? = some (some (.ow xs)) ∧ σ[i]? = some (some (.ref a))
    · rw [protect_own z] at h; exact h
    · rw [protect_else z] at h; exact R.b.gh a o h
  · by_cases z : ∃ (i : Nat) (xs : List D), g.ρ[i]? = some (some (.ow xs)) ∧ σ[i]? = some (some (.ref a))
    · obtain ⟨i, xs, e1, e2⟩ := z
      obtain ⟨vs, _, _, f, _⟩ := R.ownAt e1 e2
      rw [f] at h; cases h
    · rw [protect_else z]; exact R.b.fg a o h
  · obtain ⟨q1, q2, q3⟩ := R.b.cl n x a h1 h2
    refine ⟨q1, ?_, q3⟩
    rw [protect_else]
    · exact q2
    · rintro ⟨i, xs, e1, e2⟩
      obtain ⟨vs, _, _, _, _, hm⟩ := R.ownAt e1 e2
      exact hm (List.mem_of_getElem? h2)
/-- behind the call -/
theorem Rel.ofCall (R : Rel c g σ H) {F' : Hp} {m' : List Addr} {S' : Sto} {H' : Hp} (B : RelB c (protect g σ H) F' m' S' H') (x : Ext g.F g.m F' m') :
    Rel c { g with F := F', m := m', S := S' } σ H' ∧ GExt g { g with F := F', m := m', S := S' } := by
  have own : ∀ {i : Nat} {xs : List D} {a : Addr}, g.ρ[i]? = some (some (.ow xs)) → σ[i]? = some (some (.ref a)) → ∃ vs, H a = some (.lst vs) ∧ protect g σ H a = some (.lst vs) ∧ RepL c g.F g.m xs vs ∧ g.G a = none := fun {i xs a} e1 e2 => by
    obtain ⟨vs, h1, r, _, h2, _⟩ := R.ownAt e1 e2
    exact ⟨vs, h1, by rw [protect_own ⟨i, xs, e1, e2⟩]; exact h1, r, h2⟩
  refine ⟨⟨⟨B.fh, fun a o h => ?_, fun a o h => ?_, B.ml, B.md, fun n y a h1 h2 => ?_⟩, R.ln, fun i d h => ?_, fun i xs h => ?_, R.sd, R.sx⟩, x, rfl⟩
  · by_cases z : ∃ (i : Nat) (xs : List D), g.ρ[i]? = some (some (.ow xs)) ∧ σ[i]? = some (some (.ref a))
    · obtain ⟨i, xs, e1, e2⟩ := z
      obtain ⟨vs, _, _, _, q⟩ := own e1 e2
      have h : g.G a = some o := h
      rw [q] at h; cases h
    · exact B.gh a o (by rw [protect_else z]; exact h)
  · have q := B.fg a o h
    by_cases z : ∃ (i : Nat) (xs : List D), g.ρ[i]? = some (some (.ow xs)) ∧ σ[i]? = some (some (.ref a))
    · obtain ⟨i, xs, e1, e2⟩ := z
      obtain ⟨vs, _, _, _, q⟩ := own e1 e2
      exact q
    · rw [protect_else z] at q; exact q
  · obtain ⟨q1, q2, q3⟩ := B.cl n y a h1 h2
    refine ⟨q1, ?_, q3⟩
    by_cases z : ∃ (i : Nat) (xs : List D), g.ρ[i]? = some (some (.ow xs)) ∧ σ[i]? = some (some (.ref a))
    · obtain ⟨i, xs, e1, e2⟩ := z
      obtain ⟨vs, _, _, _, q⟩ := own e1 e2
      exact q
    · rw [protect_else z] at q2; exact q2
  · obtain ⟨v, e1, r⟩ := R.sf i d h
    exact ⟨v, e1, r.ext x⟩
  · obtain ⟨a, vs, e1, h1, r, h2, h3, h4⟩ := R.so i xs h
    obtain ⟨vs', q1, q2, _, _⟩ := own h e1
    rw [h1] at q1; cases q1
    refine ⟨a, vs, e1, B.gh a _ q2, r.ext x, ?_, h3, fun hm => ?_⟩
    · show F' a = none
      cases q : F' a with
      | none => rfl
      | some o => have z := B.fg a o q; rw [q2] at z; cases z
    · obtain ⟨n, hn, e⟩ := List.getElem_of_mem hm
      have hs : n < S'.length := by rw [← B.ml]; exact hn
      obtain ⟨_, q, _⟩ := B.cl n S'[n] a (by simp [hs]) (by rw [List.getElem?_eq_getElem hn, e])
      rw [q2] at q; cases q
end
section
variable {X : Cx} {c : Kx} {W : WX} {k : Nat} {f : Addr} {fd : FuncData} {ps : List Str} {x : Str} {p pos : Pos} {e : Expr} {es : List Expr} {ms : M (List D)} {P : Prm} {n np : Nat}
/-- the meaning of a call is what the promise asks -/
theorem call_read {g : Gs} {σ : St} {H : Hp} {Q : VK} {ds : List D} {vs : List V} (R : Rel c g σ H) (rs : RepL c g.F g.m ds vs) (hl : ds.length = np) (h : After c W g σ (mCall P n ds g.ρ g.S) fun d g' H' => ∀ v, Rep c g'.F g'.m d v → Q v H') :
    spF c P.call n np vs H Q (fun cls d H' => W cls d σ H') := by
  refine ⟨{ g with G := protect g σ H, ρ := [] }, ds, rfl, R.toCall, rs, hl, ?_⟩
  unfold mCall at h
  show (match P.call n ds g.S with | .ok d S' => _ | .exc x S' => _ | .bad => False)
  cases eq : P.call n ds g.S with
  | bad => rw [eq] at h; exact h
  | ok d S' =>
    rw [eq] at h
    intro v H' F' m' B x r
    obtain ⟨R', x'⟩ := R.ofCall B x
    exact After.app h R' x' rfl rfl v r
  | exc y S' =>
    rw [eq] at h
    intro cls dd H' F' m' B x r
    obtain ⟨R', x'⟩ := R.ofCall B x
    exact h { g with F := F', m := m', S := S' } H' cls dd rfl rfl x' R' r
theorem ok_call (F : FnG X.prog X.w X.K X.mg X.base k f fd ps (spF c P.call n np)) (hr : Room k X.A) (hgd : X.A.guards = some []) (tk : Takes X W) (hg : Gl X x) (hm : X.mg x = some (.ref f)) (hk : PySem.W.keepIn X.K (.ref f) = true) (hb : Binds X.K fd ps [])
    (ha : PA X (e :: es) (tA c W ms)) (hl : ∀ ρ S ds ρ' S', ms ρ S = .ok ds ρ' S' → ds.length = np) (hdb : (x == ("__debug__" : Str)) = false) (he : starEach (e :: es) X.env = (false, eval e X.env) :: starEach es X.env) (hpl : (backTo pos (starEach es X.env)).any (·.1) = false) :
    PE X (.Call (.Name x p) (e :: es) [] pos) (tM c W (M.bind ms fun ds => mCall P n ds)) := by
  refine PE.weak (pe_callG F hr hgd tk hg hm hk hb ha hdb he hpl) fun σ H Q ⟨g, R, h⟩ => ⟨g, R, ?_⟩
  have h1 := After.bind h
  cases eq : ms g.ρ g.S with
  | bad => rw [eq] at h1; exact h1
  | exc y ρ S => rw [eq] at h1; exact h1
  | ok ds ρ S =>
    rw [eq] at h1
    have hn := hl _ _ _ _ _ eq
    intro g1 H1 e1 e2 x1 R1 vs rs
    exact call_read R1 rs hn (h1 g1 H1 e1 e2 x1 R1)
end
end Ev

set_option Elab.async false
set_option linter.all false
set_option autoImplicit false
set_option maxRecDepth 100000
/-! EvL: statements. -/
namespace Ev
open PySem PySem.Spec PyProof.Rows L2
section
variable (c : Kx) (W : WX)
/-- as After, where the slots may have changed -/
def After2 {α : Type} (g : Gs) (r : Res α) (ok : α → Gs → St → Hp → Prop) : Prop :=
  match r with
  | .ok a ρ S => ∀ g' σ' H', g'.ρ = ρ → g'.S = S → GExt g g' → Rel c g' σ' H' → ok a g' σ' H'
  | .exc x ρ S => ∀ g' σ' H' cls d, g'.ρ = ρ → g'.S = S → GExt g g' → Rel c g' σ' H' → ExnR c x cls d H' → W cls d σ' H'
  | .bad => False
def flowOk (D : Ends) : Flow → Gs → St → Hp → Prop
  | .nx, _, σ, H => D.nx σ H
  | .br, _, σ, H => D.bk σ H
  | .ct, _, σ, H => D.ct σ H
  | .rt d, g, _, H => ∀ v, Rep c g.F g.m d v → D.rt v H
/-- the reading of a statement with the meaning m -/
def tS (m : M Flow) : TS := fun D σ H => ∃ g, Rel c g σ H ∧ After2 c W g (m g.ρ g.S) (flowOk c D)
end
section
variable {c : Kx} {W : WX} {α β : Type} {g g1 : Gs} {σ : St} {H : Hp} {r : Res α} {ok ok' : α → Gs → St → Hp → Prop}
theorem After2.shift (h : After2 c W g r ok) (e : GExt g g1) : After2 c W g1 r ok := by
  cases r with
  | ok a ρ S => exact fun g' σ' H' e1 e2 e3 R => h g' σ' H' e1 e2 (e.trans e3) R
  | exc x ρ S => exact fun g' σ' H' cls d e1 e2 e3 R => h g' σ' H' cls d e1 e2 (e.trans e3) R
  | bad => exact h
theorem After2.imp (h : After2 c W g r ok) (f : ∀ a g' σ' H', GExt g g' → Rel c g' σ' H' → ok a g' σ' H' → ok' a g' σ' H') : After2 c W g r ok' := by
  cases r with
  | ok a ρ S => exact fun g' σ' H' e1 e2 e3 R => f a g' σ' H' e3 R (h g' σ' H' e1 e2 e3 R)
  | exc x ρ S => exact h
  | bad => exact h
theorem After2.bind {m : M α} {f : α → M β} {ok : β → Gs → St → Hp → Prop} (h : After2 c W g (M.bind m f g.ρ g.S) ok) : After2 c W g (m g.ρ g.S) fun a g1 _ _ => After2 c W g1 (f a g1.ρ g1.S) ok := by
  unfold M.bind Res.bind at h
  cases e : m g.ρ g.S with
  | ok a ρ S =>
    rw [e] at h
    intro g' σ' H' e1 e2 e3 R
    have h' : After2 c W g (f a ρ S) ok := h
    rw [e1, e2]
    exact h'.shift e3
  | exc x ρ S => rw [e] at h; exact h
  | bad => rw [e] at h; exact h
/-- an expression ahead -/
theorem After2.one (h : After2 c W g r ok) (σ : St) : After c W g σ r fun a g' H' => ok a g' σ H' := by
  cases r with
  | ok a ρ S => exact fun g' H' e1 e2 e3 R => h g' σ H' e1 e2 e3 R
  | exc x ρ S => exact fun g' H' cls d e1 e2 e3 R => h g' σ H' cls d e1 e2 e3 R
  | bad => exact h
theorem After2.pure {a : α} (h : After2 c W g (M.pure a g.ρ g.S) ok) (R : Rel c g σ H) : ok a g σ H := h g σ H rfl rfl .refl R
theorem After2.app {a : α} {ρ : Env} {S : Sto} {g' : Gs} {H' : Hp} (h : After2 c W g (.ok a ρ S) ok) (R : Rel c g' σ H') (x : GExt g g') (e1 : g'.ρ = ρ) (e2 : g'.S = S) : ok a g' σ H' := h g' σ H' e1 e2 x R
end
section
variable {X : Cx} {st : Stmt} {sts : List Stmt}
theorem PS.weak {t t' : TS} (h : PS X st t) (w : ∀ D σ H, t' D σ H → t D σ H) : PS X st t' := ⟨fun pins s σ H D I q => h.run pins s σ H D I (w D σ H q)⟩
theorem PSs.weak {t t' : TS} (h : PSs X sts t) (w : ∀ D σ H, t' D σ H → t D σ H) : PSs X sts t' := ⟨fun pins s σ H D I q => h.run pins s σ H D I (w D σ H q)⟩
end

/-! ### blocks and small statements -/
def sNx : M Flow := M.pure .nx
def sSeq (a b : M Flow) : M Flow := M.bind a fun f => match f with | .nx => b | f => M.pure f
def sEx (m : M D) : M Flow := M.bind m fun _ => sNx
def sRet (m : M D) : M Flow := M.bind m fun d => M.pure (.rt d)
def sRetN : M Flow := M.pure (.rt .non)
def sIf (t : M Bool) (a b : M Flow) : M Flow := M.bind t fun k => if k then a else b
def sAsg (m : M D) (f : D → M Unit) : M Flow := M.bind m fun d => M.bind (f d) fun _ => sNx
def sOwn (i : Nat) (m : M (List D)) : M Flow := M.bind m fun xs => M.bind (mOwn i xs) fun _ => sNx
def sAug (i : Nat) (o : Bop) (m : M D) : M Flow := M.bind (mVar i) fun x => M.bind m fun y => M.bind (M.of (bop o x y)) fun z => M.bind (mSet i z) fun _ => sNx
section
variable {X : Cx} {c : Kx} {W : WX} {st : Stmt} {rest : List Stmt} {a b : M Flow} {e : Expr} {m : M D} {pos : Pos}
theorem os_nil : PSs X [] (tS c W sNx) := PSs.weak pss_nil fun D σ H ⟨g, R, h⟩ => After2.pure h R
theorem os_seq (h1 : PS X st (tS c W a)) (h2 : PSs X rest (tS c W b)) : PSs X (st :: rest) (tS c W (sSeq a b)) := by
  refine PSs.weak (pss_cons h1 h2) fun D σ H ⟨g, R, h⟩ => ⟨g, R, (After2.bind h).imp fun f g1 σ1 H1 x1 R1 q => ?_⟩
  cases f with
  | nx => exact ⟨g1, R1, q⟩
  | br => exact After2.pure (W := W) q R1
  | ct => exact After2.pure (W := W) q R1
  | rt d => exact After2.pure (W := W) q R1
theorem os_one (h1 : PS X st (tS c W a)) : PSs X [st] (tS c W a) := PSs.weak (pss_one h1) fun D σ H q => q
theorem os_pass : PS X (.Pass pos) (tS c W sNx) := PS.weak ps_pass fun D σ H ⟨g, R, h⟩ => After2.pure h R
theorem os_break : PS X (.Break pos) (tS c W (M.pure .br)) := PS.weak ps_break fun D σ H ⟨g, R, h⟩ => After2.pure h R
theorem os_continue : PS X (.Continue pos) (tS c W (M.pure .ct)) := PS.weak ps_continue fun D σ H ⟨g, R, h⟩ => After2.pure h R
theorem os_doc {x j pos'} : PS X (.Expr (.Constant (.str x) j pos) pos') (tS c W sNx) := PS.weak ps_doc fun D σ H ⟨g, R, h⟩ => After2.pure h R
theorem os_ex (he : PE X e (tM c W m)) (hs : swapsWith e none pos.line X.env = pure false) : PS X (.Expr e pos) (tS c W (sEx m)) :=
  PS.weak (ps_expr he hs) fun D σ H ⟨g, R, h⟩ => ⟨g, R, ((After2.bind h).one σ).imp fun d g1 H1 x1 R1 q v _ => After2.pure q R1⟩
theorem os_ret (he : PE X e (tM c W m)) : PS X (.Return (some e) pos) (tS c W (sRet m)) :=
  PS.weak (ps_ret he) fun D σ H ⟨g, R, h⟩ => ⟨g, R, ((After2.bind h).one σ).imp fun d g1 H1 x1 R1 q v r => After2.pure q R1 v r⟩
theorem os_retN : PS X (.Return none pos) (tS c W sRetN) := PS.weak ps_retN fun D σ H ⟨g, R, h⟩ => After2.pure h R V.non (by simp [Rep])
theorem os_if {t : Expr} {sa sb : List Stmt} {mt : M Bool} (ht : PT X t (tB c W mt)) (ha : PSs X sa (tS c W a)) (hb : PSs X sb (tS c W b)) : PS X (.If t sa sb pos) (tS c W (sIf mt a b)) := by
  refine PS.weak (ps_if ht ha hb) fun D σ H ⟨g, R, h⟩ => ⟨g, R, ((After2.bind h).one σ).imp fun k g1 H1 x1 R1 q => ?_⟩
  cases k with
  | true => exact ⟨g1, R1, q⟩
  | false => exact ⟨g1, R1, q⟩
end

/-! ### targets -/
section
variable (c : Kx) (W : WX)
def tG (Z : St → St → Prop) (f : D → M Unit) : TG := fun v σ H Q => ∃ g d, Rel c g σ H ∧ Rep c g.F g.m d v ∧ After2 c W g (f d g.ρ g.S) fun _ _ σ' H' => Z σ σ' → Q σ' H'
def tGs (Z : St → St → Prop) (f : List D → M Unit) : TGs := fun vs σ H Q => ∃ g ds, Rel c g σ H ∧ RepL c g.F g.m ds vs ∧ After2 c W g (f ds g.ρ g.S) fun _ _ σ' H' => Z σ σ' → Q σ' H'
end
/-- what a target does to the slots -/
structure Zr (Z : St → St → Prop) : Prop where
  refl : ∀ σ, Z σ σ
  trans : ∀ a b d, Z a b → Z b d → Z a d
def zAny : St → St → Prop := fun _ _ => True
theorem zr_any : Zr zAny := ⟨fun _ => trivial, fun _ _ _ _ _ => trivial⟩
/-- no more things -/
def gEnd (ds : List D) : M Unit := match ds with | [] => M.pure () | _ :: _ => M.bad
def gCon (f : D → M Unit) (k : List D → M Unit) (ds : List D) : M Unit := match ds with | [] => M.bad | d :: r => M.bind (f d) fun _ => k r
/-- a, b, .. of a tuple or a list -/
def gUnp (n : Nat) (k : List D → M Unit) (d : D) : M Unit := M.bind (mLst d) fun ds => if ds.length = n then k ds else M.bad
section
variable {X : Cx} {c : Kx} {W : WX} {pos : Pos} {e tg : Expr} {es : List Expr} {m : M D} {f : D → M Unit} {k : List D → M Unit} {Z : St → St → Prop}
theorem PG.weak {t t' : TG} (h : PG X tg t) (w : ∀ v σ H Q, t' v σ H Q → t v σ H Q) : PG X tg t' := ⟨fun pins s σ H v u Q I r q => h.run pins s σ H v u Q I r (w v σ H Q q)⟩
theorem PGs.weak {t t' : TGs} (h : PGs X es t) (w : ∀ v σ H Q, t' v σ H Q → t v σ H Q) : PGs X es t' := ⟨fun pins s σ H v u Q I r q => h.run pins s σ H v u Q I r (w v σ H Q q)⟩
theorem og_name {i : Nat} {x : Str} (hN : X.N.Nodup) (hi : X.N[i]? = some x) (hx : Loc X.env.scope x) (hf : X.fn x = true ∨ X.env.scope.names.lookup x = some .local) (hz : ∀ σ v, Z σ (σ.set i (some v))) : PG X (.Name x pos) (tG c W Z (mSet i)) := by
  refine PG.weak (pg_name hN hi hx hf) fun v σ H Q ⟨g, d, R, r, h⟩ => ?_
  unfold mSet at h
  by_cases z : i < g.ρ.length
  · rw [if_pos z] at h
    exact After2.app h (R.set r) ⟨.refl, rfl⟩ rfl rfl (hz _ _)
  · rw [if_neg z] at h; exact h.elim
theorem ogs_nil (zr : Zr Z) : PGs X [] (tGs c W Z gEnd) := by
  refine PGs.weak pgs_nil fun vs σ H Q ⟨g, ds, R, r, h⟩ => ?_
  cases ds with
  | nil => simp only [RepL] at r; exact ⟨r, After2.pure h R (zr.refl _)⟩
  | cons d ds => exact h.elim
theorem ogs_cons (zr : Zr Z) (h1 : PG X e (tG c W Z f)) (h2 : PGs X es (tGs c W Z k)) (hs : (assignEach (e :: es) X.env).map (·.2) = assign e X.env :: (assignEach es X.env).map (·.2)) : PGs X (e :: es) (tGs c W Z (gCon f k)) := by
  refine PGs.weak (pgs_cons h1 h2 hs) fun vs σ H Q ⟨g, ds, R, r, h⟩ => ?_
  cases ds with
  | nil => exact h.elim
  | cons d ds =>
    simp only [RepL] at r
    obtain ⟨v, vr, rfl, r1, r2⟩ := r
    exact ⟨v, vr, rfl, g, d, R, r1, (After2.bind h).imp fun _ g1 σ1 H1 x1 R1 q z1 => ⟨g1, ds, R1, r2.ext x1.e, q.imp fun _ _ _ _ _ _ q z2 => q (zr.trans _ _ _ z1 z2)⟩⟩
theorem og_unp {k' n : Nat} (hK : X.K = c.K) (hc : X.calm = true) (h : PGs X es (tGs c W Z k)) (hn : (assignEach es X.env).length = n) (hst : (assignEach es X.env).findIdx? (·.1) = none) : PG X (.Tuple es k' pos) (tG c W Z (gUnp n k)) := by
  have p1 := pg_tup (k := k') (pos := pos) hc h hn hst
  have p2 := pg_unl (k := k') (pos := pos) hc h hn hst
  refine ⟨fun pins s σ H v u Q I r ⟨g, d, R, rr, hh⟩ => ?_⟩
  have h1 := After2.bind hh
  unfold mLst at h1
  cases d with
  | tup ds =>
    have h2 := After2.pure h1 R
    simp only [Rep] at rr
    obtain ⟨a, vs, rfl, hq, rs⟩ := rr
    by_cases z : ds.length = n
    · rw [if_pos z] at h2
      exact p1.run pins s σ H _ u Q I r ⟨a, vs, rfl, by rw [hK]; exact sqT_of R.b.fh hq, by rw [repL_length rs, z], g, ds, R, rs, h2⟩
    · rw [if_neg z] at h2; exact h2.elim
  | lst ds =>
    have h2 := After2.pure h1 R
    simp only [Rep] at rr
    obtain ⟨a, vs, rfl, hq, rs⟩ := rr
    by_cases z : ds.length = n
    · rw [if_pos z] at h2
      exact p2.run pins s σ H _ u Q I r ⟨a, vs, rfl, .of (R.b.fh _ _ hq), by rw [repL_length rs, z], g, ds, R, rs, h2⟩
    · rw [if_neg z] at h2; exact h2.elim
  | non => exact h1.elim
  | bl b => exact h1.elim
  | int b => exact h1.elim
  | str b => exact h1.elim
  | dic b => exact h1.elim
  | ref b => exact h1.elim
  | scr b => exact h1.elim
theorem os_asg (he : PE X e (tM c W m)) (hg : PG X tg (tG c W zAny f)) (hs : swapsWithSole [tg] e pos.line X.env = pure false) (hw : swappedStores [tg] e X.env = pure none)
    (h1 : (assignEach [tg] X.env).map (·.2) = [assign tg X.env]) : PS X (.Assign [tg] e pos) (tS c W (sAsg m f)) := by
  refine PS.weak (ps_asg he hg hs hw h1) fun D σ H ⟨g, R, h⟩ => ⟨g, R, ((After2.bind h).one σ).imp fun d g1 H1 x1 R1 q v r => ⟨g1, d, R1, r, (After2.bind q).imp fun _ g2 σ2 H2 x2 R2 q _ => ?_⟩⟩
  exact After2.pure q R2
end
end Ev

set_option Elab.async false
set_option linter.all false
set_option autoImplicit false
set_option maxRecDepth 100000
/-! EvM: own lists, append, what is walked, for, while. -/
namespace Ev
open PySem PySem.Spec PyProof.Rows L2

/-! ### own lists -/
section
variable {c : Kx} {g : Gs} {σ : St} {H : Hp}
/-- a loose list becomes a slot's own -/
theorem Rel.setOwn (R : Rel c g σ H) {i : Nat} {xs : List D} {a : Addr} (L : Loose c g σ H xs a) : Rel c { g with ρ := g.ρ.set i (some (.ow xs)) } (σ.set i (some (.ref a))) H := by
  have lt : ∀ {j : Nat} {s : SV}, (g.ρ.set i (some (.ow xs)))[j]? = some (some s) → (j = i ∧ s = .ow xs ∧ i < g.ρ.length) ∨ (j ≠ i ∧ g.ρ[j]? = some (some s)) := fun {j s} h => by
    by_cases z : j = i
    · subst z
      have hl : j < g.ρ.length := by
        have := (List.getElem?_eq_some_iff.mp h).1
        simpa using this
      rw [List.getElem?_set_self hl] at h
      cases h
      exact .inl ⟨rfl, rfl, hl⟩
    · rw [List.getElem?_set_ne (Ne.symm z)] at h
      exact .inr ⟨z, h⟩
  refine ⟨R.b, by simp [R.ln], fun j d h => ?_, fun j ys h => ?_, fun j k ys zs b ne h1 h2 h3 => ?_, fun j x h => (lt h).elim (fun q => by cases q.2.1) fun ⟨z, h⟩ => ?_⟩
  · rcases lt h with ⟨_, z, _⟩ | ⟨z, h⟩
    · cases z
    · obtain ⟨v, e1, r⟩ := R.sf j d h
      exact ⟨v, by rw [List.getElem?_set_ne (Ne.symm z)]; exact e1, r⟩
  · rcases lt h with ⟨rfl, z, hl⟩ | ⟨z, h⟩
    · cases z
      obtain ⟨vs, hv, r⟩ := L.ex
      exact ⟨a, vs, by rw [List.getElem?_set_self (by rw [← R.ln]; exact hl)], hv, r, L.f, L.gn, L.mn⟩
    · obtain ⟨b, vs, e1, q⟩ := R.so j ys h
      exact ⟨b, vs, by rw [List.getElem?_set_ne (Ne.symm z)]; exact e1, q⟩
  · rcases lt h1 with ⟨rfl, _, hl⟩ | ⟨z1, h1'⟩
    · rcases lt h2 with ⟨rfl, _, _⟩ | ⟨z2, h2'⟩
      · exact absurd rfl ne
      · rw [List.getElem?_set_self (by rw [← R.ln]; exact hl)] at h3
        cases h3
        rw [List.getElem?_set_ne (Ne.symm z2)]
        exact L.s k zs h2'
    · rw [List.getElem?_set_ne (Ne.symm z1)] at h3
      rcases lt h2 with ⟨rfl, z, hl⟩ | ⟨z2, h2'⟩
      · rw [List.getElem?_set_self (by rw [← R.ln]; exact hl)]
        intro e; cases e
        exact L.s j ys h1' h3
      · rw [List.getElem?_set_ne (Ne.symm z2)]
        exact R.sd j k ys zs b ne h1' h2' h3
  · obtain ⟨b, e1, e2⟩ := R.sx j x h
    exact ⟨b, e1, by rw [List.getElem?_set_ne (Ne.symm z)]; exact e2⟩
/-- an own list grows -/
theorem Rel.pushOwn (R : Rel c g σ H) {i : Nat} {xs : List D} {d : D} {v : V} {a : Addr} {vs : List V} (hi : g.ρ[i]? = some (some (.ow xs))) (hs : σ[i]? = some (some (.ref a))) (ha : H a = some (.lst vs)) (r : Rep c g.F g.m d v) :
    Rel c { g with ρ := g.ρ.set i (some (.ow (xs ++ [d]))) } σ (upd H a (.lst (vs ++ [v]))) := by
  obtain ⟨ws, h1, rs, h2, h3, h4⟩ := R.ownAt hi hs
  rw [ha] at h1; cases h1
  have hl : i < g.ρ.length := (List.getElem?_eq_some_iff.mp hi).1
  have lt : ∀ {j : Nat} {s : SV}, (g.ρ.set i (some (.ow (xs ++ [d]))))[j]? = some (some s) → (j = i ∧ s = .ow (xs ++ [d])) ∨ (j ≠ i ∧ g.ρ[j]? = some (some s)) := fun {j s} h => by
    by_cases z : j = i
    · subst z
      rw [List.getElem?_set_self hl] at h
      cases h
      exact .inl ⟨rfl, rfl⟩
    · rw [List.getElem?_set_ne (Ne.symm z)] at h
      exact .inr ⟨z, h⟩
  have old : ∀ {j : Nat} {ys : List D}, (g.ρ.set i (some (.ow (xs ++ [d]))))[j]? = some (some (.ow ys)) → ∃ zs, g.ρ[j]? = some (some (.ow zs)) := fun {j ys} h => by
    rcases lt h with ⟨rfl, _⟩ | ⟨_, h⟩
    · exact ⟨_, hi⟩
    · exact ⟨_, h⟩
  refine ⟨⟨fun b o h => ?_, fun b o h => ?_, R.b.fg, R.b.ml, R.b.md, fun n x b q1 q2 => ?_⟩, by simp [R.ln], fun j e h => ?_, fun j ys h => ?_, fun j k ys zs b ne q1 q2 q3 => ?_, fun j x h => (lt h).elim (fun q => by cases q.2) fun q => R.sx j x q.2⟩
  · rw [upd_ne (fun z => by subst z; have h : g.F b = some o := h; rw [h2] at h; cases h)]; exact R.b.fh b o h
  · rw [upd_ne (fun z => by subst z; have h : g.G b = some o := h; rw [h3] at h; cases h)]; exact R.b.gh b o h
  · rw [upd_ne (fun z : b = a => h4 (z ▸ List.mem_of_getElem? q2))]
    exact R.b.cl n x b q1 q2
  · rcases lt h with ⟨_, z⟩ | ⟨_, h⟩
    · cases z
    · exact R.sf j e h
  · rcases lt h with ⟨rfl, z⟩ | ⟨z, h⟩
    · cases z
      refine ⟨a, vs ++ [v], hs, upd_same, ?_, h2, h3, h4⟩
      exact rs.app (by simp only [RepL]; exact ⟨v, [], rfl, r, rfl⟩)
    · obtain ⟨b, us, e1, p1, p2, p3, p4, p5⟩ := R.so j ys h
      have nb : b ≠ a := fun q => by subst q; exact R.sd i j xs ys b (Ne.symm z) hi h hs e1
      exact ⟨b, us, e1, by rw [upd_ne nb]; exact p1, p2, p3, p4, p5⟩
  · obtain ⟨ys', q1⟩ := old q1
    obtain ⟨zs', q2⟩ := old q2
    exact R.sd j k ys' zs' b ne q1 q2 q3
end
section
variable {X : Cx} {c : Kx} {W : WX} {pos pos' : Pos} {e : Expr} {m : M D} {ms : M (List D)}
theorem os_own {i : Nat} {x : Str} (hN : X.N.Nodup) (hi : X.N[i]? = some x) (hx : Loc X.env.scope x) (he : PE X e (tF c W ms)) (hs : swapsWith e (some (.Name x pos')) pos.line X.env = pure false) (hf : X.fn x = true ∨ X.env.scope.names.lookup x = some .local) :
    PS X (.Assign [.Name x pos'] e pos) (tS c W (sOwn i ms)) := by
  refine PS.weak (ps_set hN hi hx he hs hf) fun D σ H ⟨g, R, h⟩ => ⟨g, R, ((After2.bind h).one σ).imp fun xs g1 H1 x1 R1 q a H2 R2 L => ?_⟩
  have q1 := After2.bind q
  unfold mOwn at q1
  by_cases z : i < g1.ρ.length
  · rw [if_pos z] at q1
    have R3 := R2.setOwn (i := i) L
    exact After2.pure (After2.app q1 R3 ⟨.refl, rfl⟩ rfl rfl) R3
  · rw [if_neg z] at q1; exact q1.elim
/-- x.append(e) -/
def mOwnHere (i : Nat) : M Unit := fun ρ S => match ρ[i]? with | some (some (.ow _)) => .ok () ρ S | _ => .bad
def sApp (i : Nat) (m : M D) : M Flow := M.bind (mOwnHere i) fun _ => M.bind m fun d => M.bind (mApp i d) fun _ => sNx
end
end Ev

set_option Elab.async false
set_option linter.all false
set_option autoImplicit false
set_option maxRecDepth 100000
/-! EvM2: append, what is walked, for, while. -/
namespace Ev
open PySem PySem.Spec PyProof.Rows L2
section
variable {X : Cx} {c : Kx} {W : WX} {pos : Pos} {e : Expr} {m : M D}
theorem os_app {i : Nat} {x : Str} {p apos cpos : Pos} (hK : X.K = c.K) (hN : X.N[i]? = some x) (hv : Vis X.env.scope x) (hd : (x == ("__debug__" : Str)) = false) (hcd : (x == ("__classdict__" : Str)) = false) (he : PE X e (tM c W m))
    (hbase : attributeBase (.Name x p) "append" X.env (eval (.Name x p) X.env) = eval (.Name x p) X.env)
    (hfew : ((backTo cpos (starEach [e] X.env)).all (fun x => !x.1) && (backToKw cpos (keywordEach [] X.env)).all (fun x => x.1.isSome)
      && decide (([e] : List Expr).length + ([] : List Keyword).length + (if ([] : List Keyword).isEmpty then 0 else 1) < 30)) = true)
    (hline : (apos.endLine == cpos.line) = true) (hs : starEach [e] X.env = (false, eval e X.env) :: starEach [] X.env)
    (hsw : swapsWith (.Call (.Attribute (.Name x p) "append" apos) [e] [] cpos) none pos.line X.env = pure false) :
    PS X (.Expr (.Call (.Attribute (.Name x p) "append" apos) [e] [] cpos) pos) (tS c W (sApp i m)) := by
  refine PS.weak (ps_expr (pe_bm PySem.F.plainAttrs_list PySem.F.slot_list_append PySem.F.type_list_append mt_append (pe_var hN hv hd hcd) (pa_cons he pa_nil hs) hbase hfew hline hs rfl) hsw) fun D σ H ⟨g, R, h⟩ => ?_
  have h0 := (After2.bind h)
  unfold mOwnHere at h0
  cases eq : g.ρ[i]? with
  | none => rw [eq] at h0; exact h0.elim
  | some o =>
    cases o with
    | none => rw [eq] at h0; exact h0.elim
    | some sv =>
      cases sv with
      | fz d => rw [eq] at h0; exact h0.elim
      | ex x => rw [eq] at h0; exact h0.elim
      | ow xs =>
        rw [eq] at h0
        have h1 := After2.app h0 R .refl rfl rfl
        obtain ⟨a, vs, e1, ha, rs, n1, n2, n3⟩ := R.so i xs eq
        refine ⟨.ref a, e1, ?_, g, R, ((After2.bind h1).one σ).imp fun d g1 H1 x1 R1 q v r => ?_⟩
        · exact .inl ⟨rfl, vs, .of ha⟩
        · have q1 := After2.bind q
          unfold mApp at q1
          cases eq1 : g1.ρ[i]? with
          | none => rw [eq1] at q1; exact q1.elim
          | some o =>
            cases o with
            | none => rw [eq1] at q1; exact q1.elim
            | some sv =>
              cases sv with
              | fz d => rw [eq1] at q1; exact q1.elim
              | ex x => rw [eq1] at q1; exact q1.elim
              | ow ys =>
                rw [eq1] at q1
                obtain ⟨vs1, hb, rs1, _⟩ := R1.ownAt eq1 e1
                by_cases z : ys.length < SZ
                · simp only [if_pos z] at q1
                  have R2 := R1.pushOwn eq1 e1 hb r
                  exact ⟨a, vs1, v, rfl, rfl, hb, by rw [sizeLine_eq, repL_length rs1]; exact z, After2.pure (After2.app q1 R2 ⟨.refl, rfl⟩ rfl rfl) R2⟩
                · simp only [if_neg z] at q1; exact q1.elim
end

/-! ### what is walked -/
/-- an iterator tells the things ds, one by one -/
def ItR (c : Kx) (g0 : Gs) (J : It) (ds : List D) : Prop := ∀ g σ H, Ext g0.F g0.m g.F g.m → Rel c g σ H →
  (∀ i d, ds[i]? = some d → J.go i H ∧ ∀ x H', J.yld i H x H' → ∃ F', Rel c { g with F := F' } σ H' ∧ Ext g.F g.m F' g.m ∧ Rep c F' g.m d x) ∧ (∀ i, ds.length ≤ i → J.stop i H)
def tI (c : Kx) (W : WX) (m : M (List D)) : TI := fun σ H R => ∃ g, Rel c g σ H ∧ After c W g σ (m g.ρ g.S) fun ds g' H' => ∀ J, ItR c g' J ds → R J H'
section
variable {X : Cx} {c : Kx} {W : WX} {e tg : Expr} {m : M D} {ms : M (List D)} {pos : Pos}
theorem PI.weak {w w' : TI} (h : PI X tg e w) (k : ∀ σ H R, w' σ H R → w σ H R) : PI X tg e w' := ⟨fun pins s σ H R I q => h.run pins s σ H R I (k σ H R q)⟩
theorem repL_at {F : Hp} {m : List Addr} {d : D} : ∀ {ds : List D} {vs : List V} {i : Nat}, RepL c F m ds vs → ds[i]? = some d → ∃ v, vs[i]? = some v ∧ Rep c F m d v
  | [], _, _, _, e => by simp at e
  | x :: xs, vs, i, h, e => by
    simp only [RepL] at h
    obtain ⟨v, r, rfl, h1, h2⟩ := h
    cases i with
    | zero => simp at e; subst e; exact ⟨v, rfl, h1⟩
    | succ i => simpa using repL_at (i := i) h2 (by simpa using e)
def mItems (m : M D) : M (List D) := M.bind m mList
theorem itr_lst {g0 : Gs} {a : Addr} {vs : List V} {ds : List D} (hK : X.K = c.K) (h : g0.F a = some (.lst vs)) (r : RepL c g0.F g0.m ds vs) : ItR c g0 (Itl X.K a) ds := by
  intro g σ H x R
  have ha : H a = some (.lst vs) := R.b.fh _ _ (x.f _ _ h)
  have hl := repL_length r
  refine ⟨fun i d e => ?_, fun i hi => ⟨vs, .of ha, by rw [hl]; exact hi⟩⟩
  obtain ⟨v, e1, r1⟩ := repL_at r e
  refine ⟨⟨vs, v, .of ha, e1⟩, fun y H' ⟨e2, q⟩ => ⟨g.F, ?_, .refl, ?_⟩⟩
  · rw [e2]; exact R
  · have := q vs (.of ha)
    rw [e1] at this; cases this
    exact r1.ext x
theorem itr_tup {g0 : Gs} {a : Addr} {vs : List V} {ds : List D} (hK : X.K = c.K) (h : SqT c.K g0.F a vs) (r : RepL c g0.F g0.m ds vs) : ItR c g0 (Itt X.K a) ds := by
  intro g σ H x R
  have ha : SqT X.K H a vs := by rw [hK]; exact sqT_of R.b.fh (x.sqT h)
  have hl := repL_length r
  refine ⟨fun i d e => ?_, fun i hi => ⟨vs, ha, by rw [hl]; exact hi⟩⟩
  obtain ⟨v, e1, r1⟩ := repL_at r e
  refine ⟨⟨vs, v, ha, e1⟩, fun y H' ⟨e2, q⟩ => ⟨g.F, ?_, .refl, ?_⟩⟩
  · rw [e2]; exact R
  · have := q vs ha
    rw [e1] at this; cases this
    exact r1.ext x
theorem oi_sq (hK : X.K = c.K) (he : PE X e (tM c W m)) : PI X tg e (tI c W (mItems m)) := by
  refine ⟨fun pins s σ H Rr I ⟨g, R, h⟩ => ?_⟩
  have h1 := After.bind h
  cases eq : m g.ρ g.S with
  | bad => rw [eq] at h1; exact h1.elim
  | exc x ρ S =>
    refine (pi_list he).run pins s σ H Rr I ⟨g, R, ?_⟩
    rw [eq] at h1 ⊢; exact h1
  | ok d ρ S =>
    rw [eq] at h1
    have go : ∀ {ok' : D → Gs → Hp → Prop}, (∀ g' H', g'.ρ = ρ → g'.S = S → GExt g g' → Rel c g' σ H' → After c W g' σ (mList d g'.ρ g'.S) (fun ds g' H' => ∀ J, ItR c g' J ds → Rr J H') → ok' d g' H') → After c W g σ (m g.ρ g.S) ok' := fun {ok'} f => by
      rw [eq]
      intro g' H' e1 e2 x1 R1
      exact f g' H' e1 e2 x1 R1 (h1 g' H' e1 e2 x1 R1)
    have dead : ∀ {g' : Gs} {H' : Hp}, After c W g' σ (M.bad g'.ρ g'.S) (fun (ds : List D) g' H' => ∀ J, ItR c g' J ds → Rr J H') → False := fun q => q
    have nope : (∀ ρ S, mList d ρ S = .bad) → wpAny (model X.prog X.w) X.A (eval e X.env) (fun v s1 => wpAny (model X.prog X.w) X.A (pyIter v) (PIE X pins σ tg Rr) X.xe s1) X.xe s := fun z => by
      refine (pi_list he).run pins s σ H Rr I ⟨g, R, go fun g' H' e1 e2 x1 R1 q => ?_⟩
      rw [z] at q; exact q.elim
    cases d with
    | lst ds =>
      refine (pi_list he).run pins s σ H Rr I ⟨g, R, go fun g' H' e1 e2 x1 R1 q v r => ?_⟩
      have q1 := After.pure q R1
      simp only [Rep] at r
      obtain ⟨a, vs, rfl, ha, rs⟩ := r
      exact ⟨a, rfl, ⟨vs, .of (R1.b.fh _ _ ha)⟩, q1 _ (itr_lst hK ha rs)⟩
    | tup ds =>
      refine (pi_tup he).run pins s σ H Rr I ⟨g, R, go fun g' H' e1 e2 x1 R1 q v r => ?_⟩
      have q1 := After.pure q R1
      simp only [Rep] at r
      obtain ⟨a, vs, rfl, ha, rs⟩ := r
      exact ⟨a, rfl, ⟨vs, by rw [hK]; exact sqT_of R1.b.fh ha⟩, q1 _ (itr_tup hK ha rs)⟩
    | str x =>
      refine (pi_str he).run pins s σ H Rr I ⟨g, R, go fun g' H' e1 e2 x1 R1 q v r => ?_⟩
      simp only [Rep] at r
      subst r
      unfold mList at q
      by_cases z : x.length ≤ SZ
      · simp only [if_pos z] at q
        refine ⟨_, rfl, After.pure q R1 _ fun g2 σ2 H2 x2 R2 => ⟨fun i d ed => ?_, fun i hi => ?_⟩⟩
        · rw [List.getElem?_map] at ed
          cases ex : x[i]? with
          | none => rw [ex] at ed; cases ed
          | some k =>
            rw [ex] at ed
            have ed : D.str [k] = d := by simpa using ed
            subst ed
            have hi := (List.getElem?_eq_some_iff.mp ex).1
            have ec : (toStr x).cps[i]? = some k := by simp [toStr, ex]
            refine ⟨show i < (toStr x).cps.size by simpa [toStr] using hi, fun y H' ⟨e2, k', ek, ey⟩ => ⟨g2.F, by rw [e2]; exact R2, .refl, ?_⟩⟩
            rw [ec] at ek; cases ek
            simp only [Rep]
            exact ey
        · show (toStr x).cps.size ≤ i
          simpa [toStr] using hi
      · simp only [if_neg z] at q; exact q.elim
    | non => exact nope fun _ _ => rfl
    | bl b => exact nope fun _ _ => rfl
    | int b => exact nope fun _ _ => rfl
    | dic b => exact nope fun _ _ => rfl
    | ref b => exact nope fun _ _ => rfl
    | scr b => exact nope fun _ _ => rfl
theorem rng_at (lo : Int) : ∀ (n i : Nat), (rngD lo n)[i]? = if i < n then some (.int (lo + i)) else none := by
  intro n
  induction n generalizing lo with
  | zero => intro i; simp [rngD]
  | succ n ih =>
    intro i
    cases i with
    | zero => simp [rngD]
    | succ i =>
      simp only [rngD, List.getElem?_cons_succ, ih]
      have e : lo + 1 + (i : Int) = lo + ((i + 1 : Nat) : Int) := by omega
      rw [e]
      by_cases z : i < n
      · rw [if_pos z, if_pos (by omega)]
      · rw [if_neg z, if_neg (by omega)]
theorem rng_len (lo : Int) : ∀ n : Nat, (rngD lo n).length = n := by
  intro n
  induction n generalizing lo with
  | zero => rfl
  | succ n ih => simp [rngD, ih]
theorem itr_rng {g0 : Gs} {lo : Int} {n : Nat} : ItR c g0 (Itr lo n) (rngD lo n) := by
  intro g σ H x R
  refine ⟨fun i d e => ?_, fun i hi => by rw [rng_len] at hi; exact hi⟩
  rw [rng_at] at e
  by_cases z : i < n
  · rw [if_pos z] at e; cases e
    exact ⟨z, fun y H' ⟨e2, ey⟩ => ⟨g.F, by rw [e2]; exact R, .refl, by simp only [Rep]; exact ey⟩⟩
  · rw [if_neg z] at e; cases e
def mRng1 (ms : M (List D)) : M (List D) := M.bind ms fun ds => match ds with
  | [.int n] => if -(2 ^ 62) ≤ n ∧ n < 2 ^ 62 then M.pure (rngD 0 n.toNat) else M.bad
  | _ => M.bad
def mRng2 (ms : M (List D)) : M (List D) := M.bind ms fun ds => match ds with
  | [.int l, .int n] => if -(2 ^ 62) ≤ l ∧ l < 2 ^ 62 ∧ -(2 ^ 62) ≤ n ∧ n < 2 ^ 62 then M.pure (rngD l (n - l).toNat) else M.bad
  | _ => M.bad
theorem oi_rng1 {a : Expr} {p : Pos} (hg : Gl X "range") (hm : X.mg "range" = none) (ha : PA X [a] (tA c W ms)) (hs : starEach [a] X.env = [(false, eval a X.env)]) :
    PI X tg (.Call (.Name "range" p) [a] [] pos) (tI c W (mRng1 ms)) := by
  refine PI.weak (pi_range1 hg hm ha hs) fun σ H Q ⟨g, R, h⟩ => ⟨g, R, (After.bind h).imp fun ds g1 H1 x1 R1 q vs rs => ?_⟩
  split at q
  · rename_i n
    obtain ⟨v, rfl, r⟩ := repL_one rs
    simp only [Rep] at r
    subst r
    by_cases z : -(2 ^ 62) ≤ n ∧ n < 2 ^ 62
    · rw [if_pos z] at q
      exact ⟨n, rfl, z.1, z.2, After.pure q R1 _ itr_rng⟩
    · rw [if_neg z] at q; exact q.elim
  · exact q.elim
theorem oi_rng2 {a b : Expr} {p : Pos} (hg : Gl X "range") (hm : X.mg "range" = none) (ha : PA X [a, b] (tA c W ms)) (hs : starEach [a, b] X.env = [(false, eval a X.env), (false, eval b X.env)]) (hs2 : starEach [b] X.env = [(false, eval b X.env)]) :
    PI X tg (.Call (.Name "range" p) [a, b] [] pos) (tI c W (mRng2 ms)) := by
  refine PI.weak (pi_range2 hg hm ha hs hs2) fun σ H Q ⟨g, R, h⟩ => ⟨g, R, (After.bind h).imp fun ds g1 H1 x1 R1 q vs rs => ?_⟩
  split at q
  · rename_i l n
    obtain ⟨v, w, rfl, r1, r2⟩ := repL_two rs
    simp only [Rep] at r1 r2
    subst r1 r2
    by_cases z : -(2 ^ 62) ≤ l ∧ l < 2 ^ 62 ∧ -(2 ^ 62) ≤ n ∧ n < 2 ^ 62
    · rw [if_pos z] at q
      exact ⟨l, n, rfl, z, After.pure q R1 _ itr_rng⟩
    · rw [if_neg z] at q; exact q.elim
  · exact q.elim
end
end Ev

set_option Elab.async false
set_option linter.all false
set_option autoImplicit false
set_option maxRecDepth 100000
/-! EvN: for, while, zip, enumerate. -/
namespace Ev
open PySem PySem.Spec PyProof.Rows L2
def sFor (mi : M (List D)) (f : D → M Unit) (b : M Flow) : M Flow := M.bind mi (loopM f b)
def sWhl (fuel : Nat) (t : M Bool) (b : M Flow) : M Flow := whileM t b fuel
section
variable {c : Kx} {W : WX} {α : Type} {g g1 : Gs}
/-- what is known at g is known at g1, where the slots and the cells are the same -/
theorem After2.at_ {m : M α} {ok : α → Gs → St → Hp → Prop} (h : After2 c W g (m g.ρ g.S) ok) (x : GExt g g1) (e1 : g1.ρ = g.ρ) (e2 : g1.S = g.S) : After2 c W g1 (m g1.ρ g1.S) ok := by
  rw [e1, e2]; exact h.shift x
theorem After.at_ {σ : St} {m : M α} {ok : α → Gs → Hp → Prop} (h : After c W g σ (m g.ρ g.S) ok) (x : GExt g g1) (e1 : g1.ρ = g.ρ) (e2 : g1.S = g.S) : After c W g1 σ (m g1.ρ g1.S) ok := by
  rw [e1, e2]; exact h.shift x
theorem GExt.ofF {F' : Hp} (x : Ext g.F g.m F' g.m) : GExt g { g with F := F' } := ⟨x, rfl⟩
end
theorem drop_at {α : Type} {ds : List α} {i : Nat} {d : α} (h : ds[i]? = some d) : ds.drop i = d :: ds.drop (i + 1) := by
  obtain ⟨hl, e⟩ := List.getElem?_eq_some_iff.mp h
  rw [List.drop_eq_getElem_cons hl, e]
section
variable {X : Cx} {c : Kx} {W : WX} {e tg iter : Expr} {body : List Stmt} {m : M D} {mi : M (List D)} {f : D → M Unit} {b : M Flow} {pos : Pos}
theorem os_for (hp : PassesOwn (model X.prog X.w) X.A X.env X.xe) (hc : X.calm = true) (hi : PI X tg iter (tI c W mi)) (hg : PG X tg (tG c W zAny f)) (hb : PSs X body (tS c W b)) (hs : ∀ x, foldedSetIterable iter X.env x = pure x) :
    PS X (.For tg iter body [] pos) (tS c W (sFor mi f b)) := by
  refine PS.weak (ps_for hp hc hi hg hb hs) fun Dn σ H ⟨g, R, h⟩ => ⟨g, R, ((After2.bind h).one σ).imp fun ds g1 H1 x1 R1 q J hJ => ?_⟩
  refine ⟨fun i n σ H => ∃ g2, GExt g1 g2 ∧ Rel c g2 σ H ∧ n = ds.length - i ∧ i ≤ ds.length ∧ After2 c W g2 (loopM f b (ds.drop i) g2.ρ g2.S) (flowOk c Dn), ⟨_, g1, .refl, R1, rfl, Nat.zero_le _, q⟩, ?_⟩
  rintro i n σ2 H2 ⟨g2, x2, R2, en, hle, q2⟩
  obtain ⟨j1, j2⟩ := hJ g2 σ2 H2 x2.e R2
  cases ed : ds[i]? with
  | none =>
    have hl : ds.length ≤ i := List.getElem?_eq_none_iff.mp ed
    rw [List.drop_eq_nil_of_le hl] at q2
    exact .inl ⟨j2 i hl, After2.pure q2 R2⟩
  | some d =>
    have hlt : i < ds.length := (List.getElem?_eq_some_iff.mp ed).1
    obtain ⟨go, yl⟩ := j1 i d ed
    rw [drop_at ed] at q2
    refine .inr ⟨go, fun σ' H' => ∃ g3, GExt g1 g3 ∧ Rel c g3 σ' H' ∧ After2 c W g3 (loopM f b (ds.drop (i + 1)) g3.ρ g3.S) (flowOk c Dn), fun σ' H' ⟨g3, x3, R3, q3⟩ => ⟨ds.length - (i + 1), by omega, g3, x3, R3, rfl, hlt, q3⟩, fun y H' hy => ?_⟩
    obtain ⟨F', R3, x3, r3⟩ := yl y H' hy
    have q3 := After2.at_ q2 (GExt.ofF x3) rfl rfl
    refine ⟨_, d, R3, r3, (After2.bind q3).imp fun _ g4 σ4 H4 x4 R4 q4 _ => ⟨g4, R4, (After2.bind q4).imp fun fl g5 σ5 H5 x5 R5 q5 => ?_⟩⟩
    have x15 := ((x2.trans (GExt.ofF x3)).trans x4).trans x5
    cases fl with
    | nx => exact ⟨g5, x15, R5, q5⟩
    | ct => exact ⟨g5, x15, R5, q5⟩
    | br => exact After2.pure (W := W) q5 R5
    | rt v => exact After2.pure (W := W) q5 R5
theorem os_whl {t : Expr} {mt : M Bool} {fuel : Nat} (hp : PassesOwn (model X.prog X.w) X.A X.env X.xe) (ht : PT X t (tB c W mt)) (hb : PSs X body (tS c W b)) :
    PS X (.While t body [] pos) (tS c W (sWhl fuel mt b)) := by
  refine PS.weak (ps_while hp ht hb) fun Dn σ H ⟨g, R, h⟩ => ?_
  refine ⟨fun n σ H => ∃ g2, Rel c g2 σ H ∧ After2 c W g2 (whileM mt b n g2.ρ g2.S) (flowOk c Dn), ⟨fuel, g, R, h⟩, ?_⟩
  rintro n σ2 H2 ⟨g2, R2, q2⟩
  cases n with
  | zero => exact q2.elim
  | succ n =>
    refine ⟨g2, R2, ((After2.bind q2).one σ2).imp fun k g3 H3 x3 R3 q3 => ?_⟩
    cases k with
    | false => exact After2.pure (W := W) q3 R3
    | true =>
      refine ⟨fun σ' H' => ∃ g2, Rel c g2 σ' H' ∧ After2 c W g2 (whileM mt b n g2.ρ g2.S) (flowOk c Dn), fun σ' H' q => ⟨n, Nat.lt_succ_self _, q⟩, g3, R3, ?_⟩
      have q3 : After2 c W g3 (M.bind b (fun f => match f with | .nx => whileM mt b n | .ct => whileM mt b n | .br => M.pure .nx | .rt v => M.pure (.rt v)) g3.ρ g3.S) (flowOk c Dn) := q3
      refine (After2.bind q3).imp fun fl g5 σ5 H5 x5 R5 q5 => ?_
      cases fl with
      | nx => exact ⟨g5, R5, q5⟩
      | ct => exact ⟨g5, R5, q5⟩
      | br => exact After2.pure (W := W) q5 R5
      | rt v => exact After2.pure (W := W) q5 R5

/-! ### zip, enumerate -/
theorem zip_at : ∀ (xs ys : List D) (i : Nat), (zipD xs ys)[i]? = match xs[i]?, ys[i]? with | some x, some y => some (.tup [x, y]) | _, _ => none
  | [], ys, i => by simp [zipD]
  | x :: xs, [], i => by simp [zipD]
  | x :: xs, y :: ys, 0 => by simp [zipD]
  | x :: xs, y :: ys, i + 1 => by simpa [zipD] using zip_at xs ys i
theorem zip_len : ∀ (xs ys : List D), (zipD xs ys).length = min xs.length ys.length
  | [], ys => by simp [zipD]
  | x :: xs, [] => by simp [zipD]
  | x :: xs, y :: ys => by simp [zipD, zip_len xs ys]
/-- a new tuple of known things -/
theorem Rel.tup (c : Kx) {g : Gs} {σ : St} {H : Hp} (R : Rel c g σ H) {T : Addr} {ds : List D} {vs : List V} (hT : H T = none) (r : RepL c g.F g.m ds vs) :
    ∃ F', Rel c { g with F := F' } σ (upd H T (.tup vs)) ∧ Ext g.F g.m F' g.m ∧ Rep c F' g.m (.tup ds) (.ref T) := by
  obtain ⟨R2, x2⟩ := R.grow (o := .tup vs) hT
  refine ⟨_, R2, x2.e, ?_⟩
  simp only [Rep]
  exact ⟨T, vs, rfl, SqT.of upd_same, r.ext x2.e⟩
theorem RepL.two {F : Hp} {m : List Addr} {d e : D} {v w : V} (h1 : Rep c F m d v) (h2 : Rep c F m e w) : RepL c F m [d, e] [v, w] := RepL.cons_ h1 (RepL.cons_ h2 (by simp [RepL]))
theorem itr_zipL {g0 : Gs} {a a2 : Addr} {vs ws : List V} {ds es : List D} (hK : X.K = c.K) (h : g0.F a = some (.lst vs)) (h2 : g0.F a2 = some (.lst ws)) (r : RepL c g0.F g0.m ds vs) (r2 : RepL c g0.F g0.m es ws) : ItR c g0 (Itz X.K a a2) (zipD ds es) := by
  intro g σ H x R
  have ha : H a = some (.lst vs) := R.b.fh _ _ (x.f _ _ h)
  have hb : H a2 = some (.lst ws) := R.b.fh _ _ (x.f _ _ h2)
  have hl := repL_length r
  have hl2 := repL_length r2
  refine ⟨fun i d e => ?_, fun i hi => ⟨vs, ws, .of ha, .of hb, by rw [zip_len] at hi; rw [hl, hl2]; omega⟩⟩
  rw [zip_at] at e
  cases e1 : ds[i]? with
  | none => rw [e1] at e; cases e
  | some d1 =>
    cases e2 : es[i]? with
    | none => rw [e1, e2] at e; cases e
    | some d2 =>
      rw [e1, e2] at e; cases e
      obtain ⟨v, p1, r1⟩ := repL_at r e1
      obtain ⟨w, p2, r3⟩ := repL_at r2 e2
      refine ⟨⟨vs, ws, v, w, .of ha, .of hb, p1, p2⟩, fun y H' ⟨T, x', y', ey, hT, eH, q1, q2⟩ => ?_⟩
      have z1 := q1 vs (.of ha)
      have z2 := q2 ws (.of hb)
      rw [p1] at z1; rw [p2] at z2
      cases z1; cases z2
      subst ey eH
      exact R.tup c hT (RepL.two (r1.ext x) (r3.ext x))
theorem itr_zipT {g0 : Gs} {a a2 : Addr} {vs ws : List V} {ds es : List D} (hK : X.K = c.K) (h : SqT c.K g0.F a vs) (h2 : SqT c.K g0.F a2 ws) (r : RepL c g0.F g0.m ds vs) (r2 : RepL c g0.F g0.m es ws) : ItR c g0 (RZ.ItzT X.K a a2) (zipD ds es) := by
  intro g σ H x R
  have ha : SqT X.K H a vs := by rw [hK]; exact sqT_of R.b.fh (x.sqT h)
  have hb : SqT X.K H a2 ws := by rw [hK]; exact sqT_of R.b.fh (x.sqT h2)
  have hl := repL_length r
  have hl2 := repL_length r2
  refine ⟨fun i d e => ?_, fun i hi => ⟨vs, ws, ha, hb, by rw [zip_len] at hi; rw [hl, hl2]; omega⟩⟩
  rw [zip_at] at e
  cases e1 : ds[i]? with
  | none => rw [e1] at e; cases e
  | some d1 =>
    cases e2 : es[i]? with
    | none => rw [e1, e2] at e; cases e
    | some d2 =>
      rw [e1, e2] at e; cases e
      obtain ⟨v, p1, r1⟩ := repL_at r e1
      obtain ⟨w, p2, r3⟩ := repL_at r2 e2
      refine ⟨⟨vs, ws, v, w, ha, hb, p1, p2⟩, fun y H' ⟨T, x', y', ey, hT, eH, q1, q2⟩ => ?_⟩
      have z1 := q1 vs ha
      have z2 := q2 ws hb
      rw [p1] at z1; rw [p2] at z2
      cases z1; cases z2
      subst ey eH
      exact R.tup c hT (RepL.two (r1.ext x) (r3.ext x))
/-- both lists, or both tuples -/
def zipOf (ds : List D) : M (List D) := match ds with
  | [.lst xs, .lst ys] => M.pure (zipD xs ys)
  | [.tup xs, .tup ys] => M.pure (zipD xs ys)
  | _ => M.bad
def mZip (ms : M (List D)) : M (List D) := M.bind ms zipOf
theorem oi_zip {e2 : Expr} {p tpos : Pos} {elts : List Expr} {kk : Nat} {ms : M (List D)} (hK : X.K = c.K) (hg : Gl X "zip") (hm : X.mg "zip" = none) (ha : PA X [e, e2] (tA c W ms))
    (hs : starEach [e, e2] X.env = (false, eval e X.env) :: starEach [e2] X.env) (hpl : (backTo pos (starEach [e2] X.env)).any (·.1) = false) :
    PI X (.Tuple elts kk tpos) (.Call (.Name "zip" p) [e, e2] [] pos) (tI c W (mZip ms)) := by
  refine PI.weak (RZ.pi_zipA hg hm ha hs hpl) fun σ H Q ⟨g, R, h⟩ => ⟨g, R, (After.bind h).imp fun ds g1 H1 x1 R1 q vs rs => ?_⟩
  unfold zipOf at q
  split at q
  · obtain ⟨v, w, rfl, r1, r2⟩ := repL_two rs
    simp only [Rep] at r1 r2
    obtain ⟨a, us, rfl, h1, r1⟩ := r1
    obtain ⟨a2, ws, rfl, h2, r2⟩ := r2
    exact ⟨a, a2, us, ws, rfl, .inl ⟨.of (R1.b.fh _ _ h1), .of (R1.b.fh _ _ h2), After.pure q R1 _ (itr_zipL hK h1 h2 r1 r2)⟩⟩
  · obtain ⟨v, w, rfl, r1, r2⟩ := repL_two rs
    simp only [Rep] at r1 r2
    obtain ⟨a, us, rfl, h1, r1⟩ := r1
    obtain ⟨a2, ws, rfl, h2, r2⟩ := r2
    exact ⟨a, a2, us, ws, rfl, .inr ⟨by rw [hK]; exact sqT_of R1.b.fh h1, by rw [hK]; exact sqT_of R1.b.fh h2, After.pure q R1 _ (itr_zipT hK h1 h2 r1 r2)⟩⟩
  · exact q.elim
theorem enum_at : ∀ (xs : List D) (k i : Nat), (enumD k xs)[i]? = (xs[i]?).map fun x => .tup [.int ((k + i : Nat) : Int), x]
  | [], k, i => by simp [enumD]
  | x :: xs, k, 0 => by simp [enumD]
  | x :: xs, k, i + 1 => by
    have := enum_at xs (k + 1) i
    simp only [enumD, List.getElem?_cons_succ, this]
    have e : k + 1 + i = k + (i + 1) := by omega
    rw [e]
theorem enum_len : ∀ (xs : List D) (k : Nat), (enumD k xs).length = xs.length
  | [], k => rfl
  | x :: xs, k => by simp [enumD, enum_len xs]
def enumOf (ds : List D) : M (List D) := match ds with
  | [.lst xs] => M.pure (enumD 0 xs)
  | _ => M.bad
def mEnum (ms : M (List D)) : M (List D) := M.bind ms enumOf
theorem oi_enum {p tpos : Pos} {elts : List Expr} {kk : Nat} {ms : M (List D)} (hK : X.K = c.K) (hg : Gl X "enumerate") (hm : X.mg "enumerate" = none) (ha : PA X [e] (tA c W ms)) (hs : starEach [e] X.env = [(false, eval e X.env)]) :
    PI X (.Tuple elts kk tpos) (.Call (.Name "enumerate" p) [e] [] pos) (tI c W (mEnum ms)) := by
  refine PI.weak (pi_enum hg hm ha hs) fun σ H Q ⟨g, R, h⟩ => ⟨g, R, (After.bind h).imp fun ds g1 H1 x1 R1 q vs rs => ?_⟩
  unfold enumOf at q
  split at q
  · rename_i xs
    obtain ⟨v, rfl, r1⟩ := repL_one rs
    simp only [Rep] at r1
    obtain ⟨a, us, rfl, h1, r1⟩ := r1
    refine ⟨a, us, rfl, .of (R1.b.fh _ _ h1), After.pure q R1 _ fun g2 σ2 H2 x2 R2 => ?_⟩
    have h2 : H2 a = some (.lst us) := R2.b.fh _ _ (x2.f _ _ h1)
    have hl := repL_length r1
    refine ⟨fun i d ed => ?_, fun i hi => ⟨us, .of h2, by rw [enum_len] at hi; rw [hl]; exact hi⟩⟩
    rw [enum_at] at ed
    cases e1 : xs[i]? with
    | none => rw [e1] at ed; cases ed
    | some d1 =>
      rw [e1] at ed
      have ed : D.tup [.int ((0 + i : Nat) : Int), d1] = d := by simpa using ed
      subst ed
      obtain ⟨v, p1, r2⟩ := repL_at r1 e1
      refine ⟨⟨us, v, .of h2, p1⟩, fun y H' ⟨T, x', ey, hT, eH, q1⟩ => ?_⟩
      have z1 := q1 us (.of h2)
      rw [p1] at z1; cases z1
      subst ey eH
      exact R2.tup c hT (RepL.two (by simp [Rep]) (r2.ext x2))
  · exact q.elim
end
end Ev

set_option Elab.async false
set_option linter.all false
set_option autoImplicit false
set_option maxRecDepth 100000
/-! EvO: list comprehensions. -/
namespace Ev
open PySem PySem.Spec PyProof.Rows L2
def mWipe (own : List Nat) : M Unit := fun ρ S => .ok () (wipeE ρ own) S
def cmpR (own : List Nat) (f : D → M Unit) (t : M Bool) (e : M D) : List D → List D → M (List D)
  | acc, [] => M.pure acc
  | acc, d :: r => M.bind (f d) fun _ => M.bind t fun k => if k then M.bind e fun v => M.bind (mWipe own) fun _ => if acc.length < SZ then cmpR own f t e (acc ++ [v]) r else M.bad else M.bind (mWipe own) fun _ => cmpR own f t e acc r
def Res.noX {α : Type} : Res α → Res α
  | .ok a ρ S => .ok a ρ S
  | _ => .bad
def noX {α : Type} (m : M α) : M α := fun ρ S => (m ρ S).noX
/-- the new list of a comprehension -/
def fComp (mi : M (List D)) (own : List Nat) (f : D → M Unit) (t : M Bool) (e : M D) : M (List D) := M.bind mi fun ds => noX (M.bind (mWipe own) fun _ => cmpR own f t e [] ds)
/-- nothing is raised -/
def W0 : WX := fun _ _ _ _ => False
def zOwn (own : List Nat) : St → St → Prop := fun σ σ' => wipe σ' own = wipe σ own
theorem zr_own (own : List Nat) : Zr (zOwn own) := ⟨fun _ => rfl, fun _ _ _ h1 h2 => h2.trans h1⟩
theorem wipe_in {σ : St} {i : Nat} : ∀ {vs : List Nat}, i ∈ vs → i < σ.length → (wipe σ vs)[i]? = some none
  | v :: vs, h, hl => by
    unfold wipe
    by_cases e : v = i
    · subst e; rw [List.getElem?_set_self (by rw [wipe_length]; exact hl)]
    · rw [List.getElem?_set_ne e]
      exact wipe_in ((List.mem_cons.mp h).resolve_left (fun z => e z.symm)) hl
theorem wipe_ext {σ τ : St} {vs : List Nat} (hl : τ.length = σ.length) (h : ∀ i, i ∉ vs → τ[i]? = σ[i]?) : wipe τ vs = wipe σ vs := by
  apply List.ext_getElem?
  intro i
  by_cases hm : i ∈ vs
  · by_cases hi : i < σ.length
    · rw [wipe_in hm (by rw [hl]; exact hi), wipe_in hm hi]
    · rw [List.getElem?_eq_none (by rw [wipe_length, hl]; omega), List.getElem?_eq_none (by rw [wipe_length]; omega)]
  · rw [wipe_out hm, wipe_out hm]; exact h i hm
theorem wipe_wipe (σ : St) (vs : List Nat) : wipe (wipe σ vs) vs = wipe σ vs := wipe_ext (wipe_length σ vs) fun i h => wipe_out h
theorem zOwn_set {own : List Nat} {i : Nat} (h : i ∈ own) (σ : St) (v : V) : zOwn own σ (σ.set i (some v)) :=
  wipe_ext (by simp) fun j hj => by rw [List.getElem?_set_ne (fun z : i = j => hj (z ▸ h))]
section
variable {c : Kx} {g : Gs} {σ : St} {H : Hp} {W : WX}
/-- a slot is forgotten on both sides -/
theorem Rel.drop2 (R : Rel c g σ H) (i : Nat) : Rel c { g with ρ := g.ρ.set i none } (σ.set i none) H := by
  have zz : ∀ {j : Nat} {s : SV}, (g.ρ.set i none)[j]? = some (some s) → g.ρ[j]? = some (some s) ∧ j ≠ i := fun {j s} h => by
    by_cases z : j = i
    · subst z
      have hl : j < g.ρ.length := by
        have := (List.getElem?_eq_some_iff.mp h).1
        simpa using this
      rw [List.getElem?_set_self hl] at h
      cases h
    · rw [List.getElem?_set_ne (Ne.symm z)] at h
      exact ⟨h, z⟩
  refine ⟨R.b, by simp [R.ln], fun j d h => ?_, fun j xs h => ?_, fun j k xs ys a ne h1 h2 h3 => ?_, fun j x h => ?_⟩
  · obtain ⟨h, z⟩ := zz h
    obtain ⟨v, e1, r⟩ := R.sf j d h
    exact ⟨v, by rw [List.getElem?_set_ne (Ne.symm z)]; exact e1, r⟩
  · obtain ⟨h, z⟩ := zz h
    obtain ⟨a, vs, e1, q⟩ := R.so j xs h
    exact ⟨a, vs, by rw [List.getElem?_set_ne (Ne.symm z)]; exact e1, q⟩
  · obtain ⟨p1, z1⟩ := zz h1
    obtain ⟨p2, z2⟩ := zz h2
    rw [List.getElem?_set_ne (Ne.symm z1)] at h3
    rw [List.getElem?_set_ne (Ne.symm z2)]
    exact R.sd j k xs ys a ne p1 p2 h3
  · obtain ⟨h, z⟩ := zz h
    obtain ⟨a, e1, e2⟩ := R.sx j x h
    exact ⟨a, e1, by rw [List.getElem?_set_ne (Ne.symm z)]; exact e2⟩
theorem Rel.wipe_ : ∀ (vs : List Nat), Rel c g σ H → Rel c { g with ρ := wipeE g.ρ vs } (wipe σ vs) H
  | [], R => R
  | v :: vs, R => (Rel.wipe_ vs R).drop2 v
theorem Rel.unwipe {vs : List Nat} (R : Rel c g (wipe σ vs) H) : Rel c g σ H := by
  refine ⟨R.b, by rw [R.ln, wipe_length], fun j d h => ?_, fun j xs h => ?_, fun j k xs ys a ne h1 h2 h3 h4 => ?_, fun j x h => ?_⟩
  · obtain ⟨v, e1, r⟩ := R.sf j d h
    exact ⟨v, (wipe_some e1).1, r⟩
  · obtain ⟨a, vs, e1, q⟩ := R.so j xs h
    exact ⟨a, vs, (wipe_some e1).1, q⟩
  · obtain ⟨b1, _, e1, _⟩ := R.so j xs h1
    obtain ⟨b2, _, e2, _⟩ := R.so k ys h2
    have z1 := (wipe_some e1).1
    have z2 := (wipe_some e2).1
    rw [h3] at z1; rw [h4] at z2
    cases z1; cases z2
    exact R.sd j k xs ys a ne h1 h2 e1 e2
  · obtain ⟨a, e1, e2⟩ := R.sx j x h
    exact ⟨a, e1, (wipe_some e2).1⟩
/-- less is protected -/
theorem Rel.less (R : Rel c g σ H) {G0 : Hp} (s : ∀ a o, G0 a = some o → g.G a = some o) : Rel c { g with G := G0 } σ H := by
  have no : ∀ {a : Addr}, g.G a = none → G0 a = none := fun {a} h => by
    cases q : G0 a with
    | none => rfl
    | some o => have := s a o q; rw [h] at this; cases this
  refine ⟨⟨R.b.fh, fun a o h => R.b.gh a o (s a o h), fun a o h => no (R.b.fg a o h), R.b.ml, R.b.md, fun n x a h1 h2 => ?_⟩, R.ln, R.sf, fun i xs h => ?_, R.sd, R.sx⟩
  · obtain ⟨q1, q2, q3⟩ := R.b.cl n x a h1 h2
    exact ⟨q1, no q2, q3⟩
  · obtain ⟨a, vs, e1, h1, r, h2, h3, h4⟩ := R.so i xs h
    exact ⟨a, vs, e1, h1, r, h2, no h3, h4⟩
/-- something new is protected -/
theorem Rel.guard (R : Rel c g σ H) {a : Addr} {o : HO} (h : H a = none) : Rel c { g with G := upd g.G a o } σ (upd H a o) := by
  obtain ⟨f1, f2, f3⟩ := R.fresh h
  have R0 := R.grow0 (o := o) h
  have own : ∀ {b : Addr} {u : HO}, H b = some u → b ≠ a := fun q z => by subst z; rw [h] at q; cases q
  refine ⟨⟨R0.b.fh, fun b u q => ?_, fun b u q => ?_, R.b.ml, R.b.md, fun n x b h1 h2 => ?_⟩, R.ln, R.sf, fun i xs q => ?_, R.sd, R.sx⟩
  · have q : upd g.G a o b = some u := q
    by_cases z : b = a
    · subst z; rw [upd_same] at q ⊢; exact q
    · rw [upd_ne z] at q; exact R0.b.gh b u q
  · show upd g.G a o b = none
    have z : b ≠ a := fun z => by subst z; rw [f1] at q; cases q
    rw [upd_ne z]
    exact R.b.fg b u q
  · have z : b ≠ a := fun z => f3 (z ▸ List.mem_of_getElem? h2)
    obtain ⟨q1, q2, q3⟩ := R0.b.cl n x b h1 h2
    exact ⟨q1, by show upd g.G a o b = none; rw [upd_ne z]; exact q2, q3⟩
  · obtain ⟨b, vs, e1, h1, r, h2, h3, h4⟩ := R0.so i xs q
    obtain ⟨b', vs', e1', h1', _⟩ := R.so i xs q
    rw [e1] at e1'; cases e1'
    exact ⟨b, vs, e1, h1, r, h2, by show upd g.G a o b = none; rw [upd_ne (own h1')]; exact h3, h4⟩
/-- what is protected is written by its holder -/
theorem Rel.reguard (R : Rel c g σ H) {a : Addr} {u o : HO} (h : g.G a = some u) : Rel c { g with G := upd g.G a o } σ (upd H a o) := by
  have fn : g.F a = none := by
    cases q : g.F a with
    | none => rfl
    | some x => have := R.b.fg a x q; rw [h] at this; cases this
  have own : ∀ {b : Addr}, g.G b = none → b ≠ a := fun q z => by subst z; rw [h] at q; cases q
  refine ⟨⟨fun b x q => ?_, fun b x q => ?_, fun b x q => ?_, R.b.ml, R.b.md, fun n x b h1 h2 => ?_⟩, R.ln, R.sf, fun i xs q => ?_, R.sd, R.sx⟩
  · have z : b ≠ a := fun z => by subst z; rw [fn] at q; cases q
    rw [upd_ne z]; exact R.b.fh b x q
  · have q : upd g.G a o b = some x := q
    by_cases z : b = a
    · subst z; rw [upd_same] at q ⊢; exact q
    · rw [upd_ne z] at q ⊢; exact R.b.gh b x q
  · have z : b ≠ a := fun z => by subst z; rw [fn] at q; cases q
    show upd g.G a o b = none
    rw [upd_ne z]; exact R.b.fg b x q
  · obtain ⟨q1, q2, q3⟩ := R.b.cl n x b h1 h2
    have z := own q2
    exact ⟨q1, by show upd g.G a o b = none; rw [upd_ne z]; exact q2, by rw [upd_ne z]; exact q3⟩
  · obtain ⟨b, vs, e1, h1, r, h2, h3, h4⟩ := R.so i xs q
    have z := own h3
    exact ⟨b, vs, e1, by rw [upd_ne z]; exact h1, r, h2, by show upd g.G a o b = none; rw [upd_ne z]; exact h3, h4⟩
/-- a step, where more is protected than is told behind it -/
theorem After2.step {α β : Type} {G0 : Hp} {m : M α} {f : α → M β} {ok : β → Gs → St → Hp → Prop} (h : After2 c W0 { g with G := G0 } (M.bind m f g.ρ g.S) ok) (s : ∀ a o, G0 a = some o → g.G a = some o) :
    After2 c W0 g (m g.ρ g.S) fun a g1 _ _ => After2 c W0 { g1 with G := G0 } (f a g1.ρ g1.S) ok := by
  unfold M.bind Res.bind at h
  cases e : m g.ρ g.S with
  | bad => rw [e] at h; exact h
  | ok a ρ S =>
    rw [e] at h
    intro g' σ' H' e1 e2 x R
    have h' : After2 c W0 { g with G := G0 } (f a ρ S) ok := h
    rw [e1, e2]
    exact h'.shift ⟨x.e, rfl⟩
  | exc y ρ S =>
    rw [e] at h
    intro g' σ' H' cls d e1 e2 x R q
    exact h { g' with G := G0 } σ' H' cls d e1 e2 ⟨x.e, rfl⟩ (R.less (by rw [x.pr]; exact s)) q
end
section
variable {X : Cx} {c : Kx} {W : WX} {elt tg iter : Expr} {ifs : List Expr} {scope : Scope} {own : List (Str × Nat)} {vs : List Nat} {pos : Pos} {mi : M (List D)} {f : D → M Unit} {mt : M Bool} {me : M D}
theorem ots_nil {X : Cx} : PTs X [] (tB c W (M.pure true)) := ⟨fun pins s σ H Q I ⟨g, R, h⟩ => pts_nil.run pins s σ H Q I (After.pure h R)⟩
theorem ots_one {X : Cx} {e : Expr} (h : PT X e (tB c W mt)) : PTs X [e] (tB c W mt) := pts_one h
theorem lc_read {σ : St} {H : Hp} {Q : VK} (h : tF c W (fComp mi vs f mt me) σ H Q) : tLc (tI c W mi) (tG c W0 (zOwn vs) f) (tB c W0 mt) (tM c W0 me) vs σ H Q := by
  obtain ⟨g, R, h⟩ := h
  refine ⟨g, R, (After.bind h).imp fun ds g1 H1 x1 R1 q J hJ Da hD => ?_⟩
  have R1w := R1.wipe_ vs
  -- what is pending, at the block's slots
  have q2 : After2 c W0 { g1 with ρ := wipeE g1.ρ vs } (cmpR vs f mt me [] ds (wipeE g1.ρ vs) g1.S) fun xs g' σ' H' => σ' = wipe σ vs → ∀ a H'', Rel c g' σ H'' → Loose c g' σ H'' xs a → Q (.ref a) H'' := by
    have q1 : After c W g1 σ (cmpR vs f mt me [] ds (wipeE g1.ρ vs) g1.S).noX fun xs g' H' => ∀ a H'', Rel c g' σ H'' → Loose c g' σ H'' xs a → Q (.ref a) H'' := q
    revert q1
    cases cmpR vs f mt me [] ds (wipeE g1.ρ vs) g1.S with
    | bad => exact fun z => z
    | exc x ρ S => exact fun z => z.elim
    | ok xs ρ S => exact fun z g' σ' H' e1 e2 x R' es => z g' H' e1 e2 ⟨x.e, x.pr⟩ (by subst es; exact R'.unwipe)
  refine ⟨fun i n H => ∃ g2 ads acc, GExt { g1 with ρ := wipeE g1.ρ vs } { g2 with G := g1.G } ∧ g2.G = upd g1.G Da (.lst acc) ∧ Rel c g2 (wipe σ vs) H ∧ RepL c g2.F g2.m ads acc ∧ n = ds.length - i ∧ i ≤ ds.length ∧
    After2 c W0 { g2 with G := g1.G } (cmpR vs f mt me ads (ds.drop i) g2.ρ g2.S) fun xs g' σ' H' => σ' = wipe σ vs → ∀ a H'', Rel c g' σ H'' → Loose c g' σ H'' xs a → Q (.ref a) H'',
    ⟨_, { g1 with ρ := wipeE g1.ρ vs, G := upd g1.G Da (.lst []) }, [], [], .refl, rfl, R1w.guard hD, by simp [RepL], rfl, Nat.zero_le _, q2⟩, ?_⟩
  rintro i n H2 ⟨g2, ads, acc, x2, eG, R2, rs, en, hle, q3⟩
  have sub : ∀ a o, g1.G a = some o → g2.G a = some o := fun a o e => by
    rw [eG, upd_ne (fun z => by subst z; rw [R1.b.gh _ _ e] at hD; cases hD)]; exact e
  have x2e : Ext g1.F g1.m g2.F g2.m := x2.e
  obtain ⟨j1, j2⟩ := hJ g2 _ H2 x2e R2
  cases ed : ds[i]? with
  | none =>
    have hl : ds.length ≤ i := List.getElem?_eq_none_iff.mp ed
    rw [List.drop_eq_nil_of_le hl] at q3
    have R3 := (R2.less sub)
    refine .inl ⟨j2 i hl, After2.pure q3 R3 rfl Da H2 R3.unwipe ⟨⟨acc, R2.b.gh _ _ (by rw [eG, upd_same]), rs⟩, ?_, ?_, ?_, ?_⟩⟩
    · cases z : g2.F Da with
      | none => rfl
      | some o => have := R2.b.fg _ _ z; rw [eG, upd_same] at this; cases this
    · cases z : g1.G Da with
      | none => rfl
      | some o => have := R1.b.gh _ _ z; rw [hD] at this; cases this
    · intro hm
      obtain ⟨k, hk, e⟩ := List.getElem_of_mem hm
      have hs : k < g2.S.length := by rw [← R2.b.ml]; exact hk
      obtain ⟨_, z, _⟩ := R2.b.cl k g2.S[k] Da (by simp [hs]) (by rw [List.getElem?_eq_getElem hk, e])
      rw [eG, upd_same] at z; cases z
    · intro k ys h1 h2
      obtain ⟨b, ws, e1, _, _, _, h3, _⟩ := R2.so k ys h1
      have e2 := (wipe_some e1).1
      rw [h2] at e2; cases e2
      rw [eG, upd_same] at h3; cases h3
  | some d =>
    have hlt : i < ds.length := (List.getElem?_eq_some_iff.mp ed).1
    obtain ⟨go, yl⟩ := j1 i d ed
    rw [drop_at ed] at q3
    refine .inr ⟨go, fun H' => ∃ g3 ads acc, GExt { g1 with ρ := wipeE g1.ρ vs } { g3 with G := g1.G } ∧ g3.G = upd g1.G Da (.lst acc) ∧ Rel c g3 (wipe σ vs) H' ∧ RepL c g3.F g3.m ads acc ∧
      After2 c W0 { g3 with G := g1.G } (cmpR vs f mt me ads (ds.drop (i + 1)) g3.ρ g3.S) fun xs g' σ' H' => σ' = wipe σ vs → ∀ a H'', Rel c g' σ H'' → Loose c g' σ H'' xs a → Q (.ref a) H'',
      fun H' ⟨g3, ads, acc, x3, eG, R3, rs, q⟩ => ⟨ds.length - (i + 1), by omega, g3, ads, acc, x3, eG, R3, rs, rfl, hlt, q⟩, fun y H' hy => ?_⟩
    obtain ⟨F', R3, x3, r3⟩ := yl y H' hy
    have q4 : After2 c W0 { { g2 with F := F' } with G := g1.G } (cmpR vs f mt me ads (d :: ds.drop (i + 1)) g2.ρ g2.S) _ := q3.shift ⟨x3, rfl⟩
    have subs : ∀ {g' : Gs}, GExt g2 g' → ∀ a o, g1.G a = some o → g'.G a = some o := fun {g'} x a o e => by rw [x.pr]; exact sub a o e
    have q5 := After2.step (g := { g2 with F := F' }) q4 sub
    refine ⟨_, d, R3, r3, q5.imp fun _ g4 σ4 H4 x4 R4 q6 zo => ?_⟩
    have es : wipe σ4 vs = wipe σ vs := by
      have z : wipe σ4 vs = wipe (wipe σ vs) vs := zo
      rw [z, wipe_wipe]
    have x24 : GExt g2 g4 := (GExt.ofF x3).trans x4
    refine ⟨es, g4, R4, ((After2.step q6 (subs x24)).one σ4).imp fun k g5 H5 x5 R5 q7 => ?_⟩
    have x25 : GExt g2 g5 := x24.trans x5
    cases k with
    | false =>
      have Rw : Rel c { g5 with ρ := wipeE g5.ρ vs } (wipe σ vs) H5 := by rw [← es]; exact R5.wipe_ vs
      have q8 : After2 c W0 { g5 with G := g1.G } (cmpR vs f mt me ads (ds.drop (i + 1)) (wipeE g5.ρ vs) g5.S) _ := q7
      exact ⟨{ g5 with ρ := wipeE g5.ρ vs }, ads, acc, ⟨x2e.trans x25.e, rfl⟩, x25.pr.trans eG, Rw, rs.ext x25.e, q8.shift ⟨.refl, rfl⟩⟩
    | true =>
      have q8 : After2 c W0 { g5 with G := g1.G } (M.bind me (fun v => M.bind (mWipe vs) fun _ => if ads.length < SZ then cmpR vs f mt me (ads ++ [v]) (ds.drop (i + 1)) else M.bad) g5.ρ g5.S) _ := q7
      refine ⟨g5, R5, ((After2.step q8 (subs x25)).one σ4).imp fun v g6 H6 x6 R6 q9 y r => ?_⟩
      have x26 : GExt g2 g6 := x25.trans x6
      have hG : g6.G Da = some (.lst acc) := by rw [x26.pr, eG, upd_same]
      have q10 : After2 c W0 { g6 with G := g1.G } ((if ads.length < SZ then cmpR vs f mt me (ads ++ [v]) (ds.drop (i + 1)) else M.bad) (wipeE g6.ρ vs) g6.S) _ := q9
      by_cases z : ads.length < SZ
      · rw [if_pos z] at q10
        have rs' := rs.ext x26.e
        have Rw : Rel c { g6 with ρ := wipeE g6.ρ vs } (wipe σ vs) H6 := by rw [← es]; exact R6.wipe_ vs
        have Rg := Rw.reguard (o := .lst (acc ++ [y])) hG
        refine ⟨acc, R6.b.gh _ _ hG, by rw [sizeLine_eq, repL_length rs]; exact z, { g6 with ρ := wipeE g6.ρ vs, G := upd g6.G Da (.lst (acc ++ [y])) }, ads ++ [v], acc ++ [y], ⟨x2e.trans x26.e, rfl⟩, ?_, Rg, ?_, q10.shift ⟨.refl, rfl⟩⟩
        · show upd g6.G Da (.lst (acc ++ [y])) = _
          rw [x26.pr, eG, upd_upd]
        · exact rs'.app (by simp only [RepL]; exact ⟨y, [], rfl, r, rfl⟩)
      · rw [if_neg z] at q10; exact q10.elim
theorem okF_comp (hc : X.calm = true) (hN : X.N.Nodup) (hi : PI X tg iter (tI c W mi)) (ok : BlkOk X.N X.env.scope scope own) (hvs : own.map (·.2) = vs)
    (hg : ∀ (s : Shared) (H : Hp) (C : Addr) (cl : List (Str × Addr)) (fp : List Addr), PG (X.blk s H scope (compEnvC scope cl C X.env) fp) tg (tG c W0 (zOwn vs) f))
    (ht : ∀ (s : Shared) (H : Hp) (C : Addr) (cl : List (Str × Addr)) (fp : List Addr), PTs (X.blk s H scope (compEnvC scope cl C X.env) fp) ifs (tB c W0 mt))
    (he : ∀ (s : Shared) (H : Hp) (C : Addr) (cl : List (Str × Addr)) (fp : List Addr), PE (X.blk s H scope (compEnvC scope cl C X.env) fp) elt (tM c W0 me)) (hs : ∀ x, foldedSetIterable iter X.env x = pure x) :
    PE X (.ListComp elt [⟨tg, iter, ifs, 0⟩] scope pos) (tF c W (fComp mi vs f mt me)) := by
  subst hvs
  exact PE.weak (pe_lc hc hN hi ok hg ht he hs) fun σ H Q h => lc_read h
/-- name = [..] on one line -/
theorem os_ownLc {i : Nat} {y : Str} {py spos : Pos} (hc : X.calm = true) (hN : X.N.Nodup) (hy : X.N[i]? = some y) (hyl : X.env.scope.names.lookup y = some .local) (hsw : swapsWith (.ListComp elt [⟨tg, iter, ifs, 0⟩] scope pos) (some (.Name y py)) spos.line X.env = pure true)
    (hi : PI X tg iter (tI c W mi)) (ok : BlkOk X.N X.env.scope scope own) (hvs : own.map (·.2) = vs)
    (hg : ∀ (s : Shared) (H : Hp) (C : Addr) (cl : List (Str × Addr)) (fp : List Addr), PG (X.blk s H scope (compEnvC scope cl C X.env) fp) tg (tG c W0 (zOwn vs) f))
    (ht : ∀ (s : Shared) (H : Hp) (C : Addr) (cl : List (Str × Addr)) (fp : List Addr), PTs (X.blk s H scope (compEnvC scope cl C X.env) fp) ifs (tB c W0 mt))
    (he : ∀ (s : Shared) (H : Hp) (C : Addr) (cl : List (Str × Addr)) (fp : List Addr), PE (X.blk s H scope (compEnvC scope cl C X.env) fp) elt (tM c W0 me)) (hs : ∀ x, foldedSetIterable iter X.env x = pure x) :
    PS X (.Assign [.Name y py] (.ListComp elt [⟨tg, iter, ifs, 0⟩] scope pos) spos) (tS c W (sOwn i (fComp mi vs f mt me))) := by
  subst hvs
  refine PS.weak (ps_setLc hc hN hy hyl hsw hi ok hg ht he hs) fun D σ H ⟨g, R, h⟩ => lc_read ⟨g, R, ((After2.bind h).one σ).imp fun xs g1 H1 x1 R1 q a H2 R2 L => ?_⟩
  have q1 := After2.bind q
  unfold mOwn at q1
  by_cases z : i < g1.ρ.length
  · rw [if_pos z] at q1
    have R3 := R2.setOwn (i := i) L
    exact After2.pure (After2.app q1 R3 ⟨.refl, rfl⟩ rfl rfl) R3
  · rw [if_neg z] at q1; exact q1.elim
/-- .. that stays -/
theorem os_asgLc {i : Nat} {y : Str} {py spos : Pos} (hc : X.calm = true) (hN : X.N.Nodup) (hy : X.N[i]? = some y) (hyl : X.env.scope.names.lookup y = some .local) (hsw : swapsWith (.ListComp elt [⟨tg, iter, ifs, 0⟩] scope pos) (some (.Name y py)) spos.line X.env = pure true)
    (hi : PI X tg iter (tI c W mi)) (ok : BlkOk X.N X.env.scope scope own) (hvs : own.map (·.2) = vs)
    (hg : ∀ (s : Shared) (H : Hp) (C : Addr) (cl : List (Str × Addr)) (fp : List Addr), PG (X.blk s H scope (compEnvC scope cl C X.env) fp) tg (tG c W0 (zOwn vs) f))
    (ht : ∀ (s : Shared) (H : Hp) (C : Addr) (cl : List (Str × Addr)) (fp : List Addr), PTs (X.blk s H scope (compEnvC scope cl C X.env) fp) ifs (tB c W0 mt))
    (he : ∀ (s : Shared) (H : Hp) (C : Addr) (cl : List (Str × Addr)) (fp : List Addr), PE (X.blk s H scope (compEnvC scope cl C X.env) fp) elt (tM c W0 me)) (hs : ∀ x, foldedSetIterable iter X.env x = pure x) :
    PS X (.Assign [.Name y py] (.ListComp elt [⟨tg, iter, ifs, 0⟩] scope pos) spos) (tS c W (sAsg (M.bind (fComp mi vs f mt me) fun xs => M.pure (.lst xs)) (mSet i))) := by
  subst hvs
  refine PS.weak (ps_setLc hc hN hy hyl hsw hi ok hg ht he hs) fun D σ H ⟨g, R, h⟩ => lc_read ⟨g, R, ?_⟩
  have h1 := After2.bind h
  have h2 := (After2.bind h1).one σ
  refine h2.imp fun xs g1 H1 x1 R1 q a H2 R2 L => ?_
  obtain ⟨F', R3, x3, r⟩ := R2.freeze L
  have q1 : After2 c W g1 (.ok (.lst xs) g1.ρ g1.S) fun d g2 _ _ => After2 c W g2 ((M.bind (mSet i d) fun _ => sNx) g2.ρ g2.S) (flowOk c D) := q
  have q2 := After2.bind (After2.app q1 R3 x3 rfl rfl)
  unfold mSet at q2
  by_cases z : i < g1.ρ.length
  · have z' : i < ({ g1 with F := F' } : Gs).ρ.length := z
    rw [if_pos z'] at q2
    have R4 := R3.set (i := i) r
    exact After2.pure (After2.app q2 R4 ⟨.refl, rfl⟩ rfl rfl) R4
  · have z' : ¬ i < ({ g1 with F := F' } : Gs).ρ.length := z
    rw [if_neg z'] at q2; exact q2.elim
end
end Ev

set_option Elab.async false
set_option linter.all false
set_option autoImplicit false
set_option maxRecDepth 100000
/-! EvQ0: a target with a star behind one name, of a tuple; at the model's level. -/
namespace Ev
open PySem PySem.Spec PyProof.Rows
section
variable {prog : Program} {w : World} {A : Around} {E : Value → Shared → Prop} {s : Shared}
theorem walksTup (hh : A.handled = none) {it t : Addr} (hne : t ≠ it) {items : Array Value} (k : Nat) :
    WalksS prog w A it [it, t] [it] (fun a b => a = b) (items.size - k) (fun i v => items[k + i]? = some v) (fun i s => IsTupIter s.heap it t (k + i) ∧ IsTup s.heap t items) where
  sub := fun b hb => by simp at hb; subst hb; simp
  grefl := fun _ => rfl
  gtrans := fun _ _ _ h1 h2 => h1.trans h2
  frame := fun i s (h' : Heap) tk ⟨⟨o, e, hc, hd⟩, ob, e2, r⟩ _ kk => ⟨⟨o, kk it (by simp) o e, hc, hd⟩, ob, kk t (by simp) ob e2, r⟩
  item := fun i s Q E hi ⟨hit, ht⟩ hQ => by
    have hlt : k + i < items.size := by omega
    refine next_tuple_item hit ht (x := items[k + i]) (by simp [hlt]) fun h₁ hit₁ hs₁ => hQ _ _ (by simp [hlt]) ⟨hit₁, ht.extBut hs₁.extBut hne⟩ ⟨fun b o hb e => (hs₁.2 b (by simpa using hb)).trans e, rfl, rfl, rfl, Nat.le_refl _⟩
  done := fun s Q E ⟨hit, ht⟩ hQ => by
    refine next_tuple_end hh hit ht (Array.getElem?_eq_none (by omega)) fun h₂ he₂ => hQ _ ⟨fun b o hb e => he₂ b o (by simpa using hb) e, rfl, rfl, rfl, Nat.le_refl _⟩
  self := fun i s Q E ⟨hit, _⟩ hQ => wpAny_pyIter_tupleiter hit hQ
theorem items_of {items : Array Value} {P : Nat → Value → Prop} {acc : Array Value} {n k : Nat} (h : ItemsOf (fun i v => items[k + i]? = some v) acc n) (hn : n = items.size - k) : acc.toList = items.toList.drop k := by
  obtain ⟨h1, h2⟩ := h
  apply List.ext_getElem?
  intro i
  rw [List.getElem?_drop]
  cases e : acc[i]? with
  | none =>
    have hl : acc.size ≤ i := Array.getElem?_eq_none_iff.mp e
    rw [List.getElem?_eq_none (by simpa using hl), List.getElem?_eq_none (by simp; omega)]
  | some v =>
    have := h2 i v e
    simp only [Array.getElem?_toList]
    rw [e, this]
/-- what is left in a tuple's iterator, taken out -/
theorem collectTup (hh : A.handled = none) {it t : Addr} (hne : t ≠ it) {items : Array Value} (k : Nat) (hit : IsTupIter s.heap it t k) (ht : IsTup s.heap t items) (hsz : items.size ≤ sizeLine) {Q : List Value → Shared → Prop}
    (hQ : ∀ (h' : Heap) (tk : Nat), (∀ b o, b ≠ it → s.heap.get? b = some o → h'.get? b = some o) → s.heap.objs.size ≤ h'.objs.size → Q (items.toList.drop k) { s with heap := h', toks := tk }) : wpAny (model prog w) A (collect (.ref it)) Q E s := by
  have hil : it < s.heap.objs.size := by obtain ⟨o, e, _⟩ := hit; exact Heap.lt_size e
  have htl : t < s.heap.objs.size := by obtain ⟨o, e, _⟩ := ht; exact Heap.lt_size e
  have W := walksTup (prog := prog) (w := w) (A := A.in1) (items := items) (show A.in1.handled = none from hh) hne k
  have notIn : s.heap.objs.size ∉ [it, t] := by
    intro hm
    have : s.heap.objs.size = it ∨ s.heap.objs.size = t := by simpa using hm
    rcases this with z | z
    · exact Nat.ne_of_gt hil z
    · exact Nat.ne_of_gt htl z
  have dif : s.heap.objs.size ≠ it := Nat.ne_of_gt hil
  unfold collect
  apply wpAny_bind
  apply wpAny_runValue
  refine codeAny_builtin F.entry_proto_collect ?_
  rw [F.plain_proto_collect |> (Around.under_plainId · _)]
  show wpAny _ A.in1 (newList [] >>= fun z => again (.builtin "list.__iadd__" ⟨[z, .ref it], []⟩)) _ _ s
  apply wpAny_bind
  refine wpAny_newObj_type ?_
  · apply wpAny_pure
    refine ⟨F.plain_list_iadd |> (plainId_quiet · _), codeAny_builtin F.entry_list_iadd ?_⟩
    rw [F.plain_list_iadd |> (Around.under_plainId · _)]
    have st := W.frame 0 s (s.heap.push { cls := .type "list", data := .seq ([] : List Value).toArray }) s.toks ⟨hit, ht⟩ (Nat.le_refl _) (fun b _ o e => s.heap.get?_push_of_some _ e)
    have new : (s.heap.push { cls := .type "list", data := .seq ([] : List Value).toArray }).get? s.heap.objs.size = some { cls := .type "list", data := .seq ([] : List Value).toArray } := Heap.get?_push_size _ rfl
    have ne2 : Builtin.List.listSameRef (.ref s.heap.objs.size) (.ref it) = false := by simpa [Builtin.List.listSameRef] using dif
    have ty : ∀ (h' : Heap) (tk : Nat), IsTupIter h' it t k → Shared.TypeIs { s with heap := h', toks := tk } (.ref it) "tuple_iterator" := fun h' tk ⟨o, e, hc, _⟩ => ⟨o, e, hc⟩
    show wpAny _ A.in1 (Builtin.List.listExtendWith (.ref s.heap.objs.size) (.ref it) (.ref s.heap.objs.size)) _ _ _
    unfold Builtin.List.listExtendWith
    apply wpAny_bind
    refine wpAny_typeOf (ty _ _ st.1) ?_
    rw [ne2 |> fun z => if_neg (by rw [z]; decide)]
    apply wpAny_bind
    refine W.self 0 _ _ _ st ?_
    apply wpAny_bind
    apply wpAny_holding
    unfold Builtin.List.listLengthHint
    apply wpAny_bind
    refine wpAny_specialOf (ty _ _ st.1) F.nolen_tu ?_
    show wpAny _ A.in1 (specialOf (.ref it) (Str.ofString "__length_hint__") >>= _) _ _ _
    apply wpAny_bind
    refine wpAny_specialOf (ty _ _ st.1) F.hint_tu ?_
    generalize hid : ("tuple_iterator.__length_hint__" : String) = nm
    wp_delta
    rw [show splitId nm = some ("tuple_iterator", "__length_hint__") from by subst hid; decide +kernel]
    subst hid
    apply wpAny_bind
    refine wpAny_isInstance (T := "tuple_iterator") (b := true) (ty _ _ st.1) (by rw [isSubtype_type]; kernel_rfl) ?_
    apply wpAny_pure
    rw [if_neg (by decide)]
    apply wpAny_pure
    refine ⟨F.plain_extend_loop |> (plainId_quiet · _), codeAny_extend_loopS W (by omega) _ notIn _ (items.size - k) 0 _ _ _ rfl (Nat.zero_le _) st new (ItemsOf.nil _) ?_⟩
    intro s' acc n mv there ac
    show wpAny _ A (load s.heap.objs.size >>= _) _ _ s'
    apply wpAny_bind
    refine wpAny_load there ?_
    apply wpAny_pure
    have ea := items_of (P := fun _ _ => True) ac rfl
    show Q acc.toList s'
    rw [ea]
    obtain ⟨hp, g, d, tk, os⟩ := s'
    obtain ⟨m1, m2, m3, m4, m5⟩ := mv
    have e2 : s.gens = g := m2
    have e3 : d = s.drawn := m3
    have e4 : os = s.os := m4
    subst e2 e3 e4
    have big := Heap.lt_size there
    refine hQ hp tk (fun b o hb e => ?_) (Nat.le_of_lt big)
    refine m1 b o ?_ (s.heap.get?_push_of_some _ e)
    have lt := Heap.lt_size e
    intro hm
    have : b = s.heap.objs.size ∨ b = it := by simpa using hm
    rcases this with z | z
    · exact Nat.ne_of_lt lt z
    · exact hb z
theorem unpackItems_star1 {t : Addr} {items : Array Value} {x : Value} {xs : List Value} {Q : List Value → Shared → Prop} (hh : A.handled = none) (ht : IsTup s.heap t items) (hi : items.toList = x :: xs) (hsz : items.size ≤ sizeLine)
    (hQ : ∀ (h' : Heap) (tk : Nat), (∀ b o, s.heap.get? b = some o → h'.get? b = some o) → s.heap.objs.size ≤ h'.objs.size → Q [x, .ref h'.objs.size] { s with heap := h'.push { cls := .type "list", data := .seq xs.toArray }, toks := tk }) :
    wpAny (model prog w) A (unpackItems (.ref t) 2 (some 1)) Q E s := by
  have hlt : t ≠ s.heap.objs.size := by obtain ⟨o, ho, _⟩ := ht; exact Nat.ne_of_lt (Heap.lt_size ho)
  have hsize : items.size = xs.length + 1 := by
    have := congrArg List.length hi
    simpa using this
  unfold unpackItems
  refine wpAny_bind ?_
  unfold notIterableAtAll
  refine wpAny_bind (wpAny_specialOf ht.typeIs slot_tuple_iter.lookup ?_)
  refine wpAny_pure ?_
  simp only [Bool.false_eq_true, if_false]
  refine wpAny_bind (wpAny_holding (iter_tuple ht ?_))
  refine wpAny_bind (wpAny_holding (draw_tuple hlt 1 0 _ _ ⟨_, Heap.get?_push_size _ rfl, rfl, rfl⟩ (ht.push _) (by omega) fun h₁ hit₁ hs₁ => ?_))
  have hall : List.take 1 (List.drop 0 items.toList) = [x] := by rw [hi]; rfl
  rw [hall]
  rw [if_neg (by simp)]
  have ht₁ : IsTup h₁ t items := (ht.push _).extBut hs₁.extBut hlt
  have hl1 : s.heap.objs.size < h₁.objs.size := by
    obtain ⟨o, e, _⟩ := hit₁
    exact Heap.lt_size e
  refine wpAny_bind (wpAny_holding (collectTup hh hlt 1 hit₁ ht₁ hsz fun hp tk m1 m2 => ?_))
  have ea : items.toList.drop 1 = xs := by rw [hi]; rfl
  rw [ea]
  simp only [Nat.sub_self, Nat.not_lt_zero, if_false, Nat.sub_zero, List.take_length, List.drop_length, List.append_nil]
  refine wpAny_bind (wpAny_newObj_type ?_ (by show xs.length ≤ sizeLine; omega))
  refine wpAny_pure ?_
  have hk : ∀ b o, s.heap.get? b = some o → hp.get? b = some o := fun b o e => by
    have hb : b ≠ s.heap.objs.size := Nat.ne_of_lt (Heap.lt_size e)
    exact m1 b o hb (hs₁.extBut b o hb (Heap.get?_push_of_some _ e))
  exact hQ hp tk hk (Nat.le_trans (Nat.le_of_lt hl1) m2)
theorem assign_star1 {env : PySem.Env} {elts : List Expr} {x1} {pos : Pos} {t : Addr} {items : Array Value} {x : Value} {xs : List Value} {Q : Unit → Shared → Prop} (hh : A.handled = none) (ht : IsTup s.heap t items) (hi : items.toList = x :: xs) (hsz : items.size ≤ sizeLine)
    (hn : (assignEach elts env).length = 2) (hstar : (assignEach elts env).findIdx? (·.1) = some 1)
    (h : ∀ (h' : Heap) (tk : Nat), (∀ b o, s.heap.get? b = some o → h'.get? b = some o) → s.heap.objs.size ≤ h'.objs.size → wpAny (model prog w) A (assignInOrder ((assignEach elts env).map (·.2)) [x, .ref h'.objs.size]) Q E { s with heap := h'.push { cls := .type "list", data := .seq xs.toArray }, toks := tk }) :
    wpAny (model prog w) A (assign (.Tuple elts x1 pos) env (.ref t)) Q E s := by
  rw [assign_Tuple]
  refine wpAny_bind (wpAny_standAt ?_)
  unfold unpack
  rw [hn, hstar]
  exact wpAny_bind (wpAny_holding (unpackItems_star1 hh ht hi hsz h))
end
end Ev

set_option Elab.async false
set_option linter.all false
set_option autoImplicit false
set_option maxRecDepth 100000
/-! EvQ: a starred target; things put into cells. -/
namespace Ev
open PySem PySem.Spec PyProof.Rows L2
def gStar (f k : D → M Unit) (d : D) : M Unit := match d with
  | .tup (x :: xs) => M.bind (f x) fun _ => k (.lst xs)
  | _ => M.bad
section
variable {X : Cx} {c : Kx} {W : WX} {pos p2 : Pos} {e1 e2 : Expr} {f k : D → M Unit} {Z : St → St → Prop}
theorem og_star {kk : Nat} (hK : X.K = c.K) (hc : X.calm = true) (zr : Zr Z) (h1 : PG X e1 (tG c W Z f)) (h2 : PG X e2 (tG c W Z k)) (hn : (assignEach [e1, .Starred e2 p2] X.env).length = 2) (hst : (assignEach [e1, .Starred e2 p2] X.env).findIdx? (·.1) = some 1)
    (hs : (assignEach [e1, .Starred e2 p2] X.env).map (·.2) = [assign e1 X.env, assign e2 X.env]) : PG X (.Tuple [e1, .Starred e2 p2] kk pos) (tG c W Z (gStar f k)) := by
  refine ⟨fun pins s σ H v u Q I r ⟨g, d, R, rr, hh⟩ => ?_⟩
  unfold gStar at hh
  split at hh
  · rename_i x xs
    simp only [Rep] at rr
    obtain ⟨a, vs, rfl, hq, rs⟩ := rr
    simp only [RepL] at rs
    obtain ⟨v1, vr, rfl, r1, rs⟩ := rs
    cases r
    have hq' : SqT X.K H a (v1 :: vr) := by rw [hK]; exact sqT_of R.b.fh hq
    obtain ⟨its, rv, ht, hz⟩ := I.tuple hq'
    cases rv with
    | cons ru rvr =>
      rename_i u1 ur
      have hz2 : (u1 :: ur).toArray.size ≤ sizeLine := by
        have e := rvr.length
        have hz' : vr.length + 1 ≤ sizeLine := by simpa using hz
        simp
        omega
      refine assign_star1 (x := u1) (xs := ur) (I.ok.hd hc) ht (by simp) hz2 hn hst fun h' tk hkeep hle => ?_
      rw [hs]
      have hl := rvr.length
      have hz' : vr.length + 1 ≤ sizeLine := by simpa using hz
      have hz2 : vr.length ≤ sizeLine := by
        omega
      have I1 : Inv X pins σ (upd H h'.objs.size (.lst vr)) { s with heap := h'.push { cls := .type "list", data := .seq ur.toArray }, toks := tk } :=
        I.laid (fun b o e => Heap.get?_push_of_some _ (hkeep b o e)) hle ⟨hz2, ur, 0, rvr, Heap.get?_push_size _ rfl⟩
      obtain ⟨R1, x1⟩ := R.grow (o := .lst vr) (I.hok.fresh hle)
      have h0 := hh.at_ x1 rfl rfl
      refine assignInOrder_cons (thn (h1.run pins _ σ _ v1 u1 (fun σ' H' => Z σ σ' ∧ ∃ g', GExt { g with F := upd g.F h'.objs.size (.lst vr) } g' ∧ Rel c g' σ' H' ∧ After2 c W g' (k (.lst xs) g'.ρ g'.S) fun _ _ σ'' H'' => Z σ σ'' → Q σ'' H'') I1 ru ⟨_, x, R1, r1.ext x1.e, (After2.bind h0).imp fun _ g2 σ2 H2 x2 R2 q z => ⟨z, g2, x2, R2, q⟩⟩) fun _ s2 hs2 => ?_)
      obtain ⟨σ2, H2, I2, z2, g2, x2, R2, q2⟩ := hs2
      refine assignInOrder_cons (thn (h2.run pins _ σ2 H2 (.ref h'.objs.size) _ Q I2 rfl ⟨g2, .lst xs, R2, ?_, q2.imp fun _ g3 σ3 H3 x3 R3 q z => q (zr.trans _ _ _ z2 z)⟩) fun _ s3 hs3 => assignInOrder_nil hs3)
      simp only [Rep]
      exact ⟨_, vr, rfl, x2.e.f _ _ (by simp [upd]), (rs.ext x1.e).ext x2.e⟩
  · exact hh.elim
/-! ### cells -/
theorem RepL.set_at {F : Hp} {m : List Addr} {d : D} {v : V} (r : Rep c F m d v) : ∀ {ds : List D} {vs : List V} (i : Nat), RepL c F m ds vs → RepL c F m (ds.set i d) (vs.set i v)
  | [], vs, i, h => by simp only [RepL] at h; subst h; simp [RepL]
  | x :: xs, vs, i, h => by
    simp only [RepL] at h
    obtain ⟨w, t, rfl, h1, h2⟩ := h
    cases i with
    | zero => exact RepL.cons_ r h2
    | succ i => exact RepL.cons_ h1 (RepL.set_at r i h2)
theorem Rel.put {g : Gs} {σ : St} {H : Hp} (R : Rel c g σ H) {n : Nat} {a : Addr} {xs ys : List D} {vs : List V} (hm : g.m[n]? = some a) (hS : g.S[n]? = some (.lst xs)) (r : RepL c g.F g.m ys vs) :
    Rel c { g with S := g.S.set n (.lst ys) } σ (upd H a (.lst vs)) := by
  obtain ⟨q1, q2, q3⟩ := R.b.cl n _ a hS hm
  have hn : n < g.S.length := (List.getElem?_eq_some_iff.mp hS).1
  refine ⟨⟨fun b o h => ?_, fun b o h => ?_, R.b.fg, by simp [R.b.ml], R.b.md, fun k x b h1 h2 => ?_⟩, R.ln, R.sf, fun i zs h => ?_, R.sd, R.sx⟩
  · rw [upd_ne (fun z => by subst z; rw [q1] at h; cases h)]; exact R.b.fh b o h
  · rw [upd_ne (fun z => by subst z; have h : g.G b = some o := h; rw [q2] at h; cases h)]; exact R.b.gh b o h
  · by_cases z : k = n
    · subst z
      have h2 : g.m[k]? = some b := h2
      rw [hm] at h2; cases h2
      have h1 : (g.S.set k (.lst ys))[k]? = some x := h1
      rw [List.getElem?_set_self hn] at h1
      cases h1
      exact ⟨q1, q2, vs, upd_same, r⟩
    · have h1 : (g.S.set n (.lst ys))[k]? = some x := h1
      rw [List.getElem?_set_ne (Ne.symm z)] at h1
      have nb : b ≠ a := fun e => by
        subst e
        obtain ⟨l1, e1⟩ := List.getElem?_eq_some_iff.mp hm
        obtain ⟨l2, e2⟩ := List.getElem?_eq_some_iff.mp (show g.m[k]? = some b from h2)
        have e3 : g.m[k] = g.m[n] := e2.trans e1.symm
        have pw := List.pairwise_iff_getElem.mp R.b.md
        rcases Nat.lt_or_gt_of_ne z with q | q
        · exact pw k n l2 l1 q e3
        · exact pw n k l1 l2 q e3.symm
      obtain ⟨p1, p2, p3⟩ := R.b.cl k x b h1 h2
      exact ⟨p1, p2, by rw [upd_ne nb]; exact p3⟩
  · obtain ⟨b, ws, e1, h1, rs, h2, h3, h4⟩ := R.so i zs h
    have nb : b ≠ a := fun e => by subst e; exact h4 (List.mem_of_getElem? hm)
    exact ⟨b, ws, e1, by rw [upd_ne nb]; exact h1, rs, h2, h3, h4⟩
def gPut (mo mi : M D) (d : D) : M Unit := M.bind mo fun x => M.bind mi fun k => mPut x k d
theorem og_put {o i : Expr} {mo mi : M D} (hK : X.K = c.K) (ho : PE X o (tM c W mo)) (hi : PE X i (tM c W mi)) (zr : Zr Z)
    (ha : ∀ v, assign (.Subscript o i pos) X.env v = (do
      let ov ← holding [v] (eval o X.env)
      let iv ← holding [v, ov] (eval i X.env)
      standAt pos
      holding [v, ov, iv] (setItem ov iv v)
      release [v, ov, iv] [])) : PG X (.Subscript o i pos) (tG c W Z (gPut mo mi)) := by
  refine PG.weak (pg_sub ho hi set_list ha) fun v σ H Q ⟨g, d, R, r, h⟩ => ⟨g, R, ((After2.bind h).one σ).imp fun x g1 H1 x1 R1 q xv rx => ⟨g1, R1, ((After2.bind q).one σ).imp fun k g2 H2 x2 R2 q2 kv rk => ?_⟩⟩
  unfold mPut at q2
  cases x with
  | ref n =>
    cases k with
    | int k =>
      cases eS : g2.S[n]? with
      | none => simp only [eS] at q2; exact q2.elim
      | some cell =>
        cases cell with
        | lst xs =>
          simp only [eS] at q2
          by_cases z : 0 ≤ k ∧ k.toNat < xs.length
          · rw [if_pos z] at q2
            simp only [Rep] at rx rk
            obtain ⟨a, hm, rfl⟩ := rx
            subst rk
            have hm2 := x2.e.at_ hm
            obtain ⟨p1, p2, vs, hv, rs⟩ := R2.b.cl n _ a eS hm2
            have rd := (r.ext x1.e).ext x2.e
            have R3 := R2.put hm2 eS (RepL.set_at rd k.toNat rs)
            refine ⟨a, vs, k, k.toNat, rfl, rfl, hv, ?_, After2.app q2 R3 ⟨.refl, rfl⟩ rfl rfl (zr.refl _)⟩
            have hl := repL_length rs
            have z2 := z.2
            unfold ixN
            rw [if_pos z.1, if_pos (by omega)]
          · rw [if_neg z] at q2; exact q2.elim
    | non => exact q2.elim
    | bl b => exact q2.elim
    | str b => exact q2.elim
    | tup b => exact q2.elim
    | lst b => exact q2.elim
    | dic b => exact q2.elim
    | ref b => exact q2.elim
    | scr b => exact q2.elim
  | non => exact q2.elim
  | bl b => exact q2.elim
  | int b => exact q2.elim
  | str b => exact q2.elim
  | tup b => exact q2.elim
  | lst b => exact q2.elim
  | dic b => exact q2.elim
  | scr b => exact q2.elim
/-- a new cell -/
def xCel (ms : M (List D)) : M D := M.bind ms fun ds => if ds.length ≤ SZ then mCell ds else M.bad
theorem Rel.newCell {g : Gs} {σ : St} {H : Hp} (R : Rel c g σ H) {p : Addr} {ds : List D} {vs : List V} (hp : H p = none) (r : RepL c g.F g.m ds vs) :
    Rel c { g with m := g.m ++ [p], S := g.S ++ [.lst ds] } σ (upd H p (.lst vs)) ∧ GExt g { g with m := g.m ++ [p], S := g.S ++ [.lst ds] } := by
  obtain ⟨f1, f2, f3⟩ := R.fresh hp
  have R0 := R.grow0 (o := .lst vs) hp
  have ex : Ext g.F g.m g.F (g.m ++ [p]) := ⟨fun _ _ h => h, [p], rfl⟩
  refine ⟨⟨⟨R0.b.fh, R0.b.gh, R.b.fg, by simp [R.b.ml], ?_, fun n x a h1 h2 => ?_⟩, R.ln, fun i d h => ?_, fun i xs h => ?_, R.sd, R.sx⟩, ex, rfl⟩
  · rw [List.nodup_append]
    exact ⟨R.b.md, by simp, fun a ha b hb => by simp at hb; subst hb; exact fun z => f3 (z ▸ ha)⟩
  · have h1 : (g.S ++ [Cell.lst ds])[n]? = some x := h1
    have h2 : (g.m ++ [p])[n]? = some a := h2
    by_cases z : n < g.S.length
    · rw [List.getElem?_append_left z] at h1
      rw [List.getElem?_append_left (by rw [R.b.ml]; exact z)] at h2
      obtain ⟨q1, q2, q3⟩ := R0.b.cl n x a h1 h2
      refine ⟨q1, q2, ?_⟩
      cases x with
      | lst ys => obtain ⟨ws, e, r⟩ := q3; exact ⟨ws, e, r.ext ex⟩
    · rw [List.getElem?_append_right (by omega)] at h1
      rw [List.getElem?_append_right (by rw [R.b.ml]; omega)] at h2
      rw [R.b.ml] at h2
      cases hk : n - g.S.length with
      | zero =>
        rw [hk] at h1 h2
        simp at h1 h2
        subst h1 h2
        exact ⟨f1, f2, vs, upd_same, r.ext ex⟩
      | succ k => rw [hk] at h1; simp at h1
  · obtain ⟨v, e1, r1⟩ := R.sf i d h
    exact ⟨v, e1, r1.ext ex⟩
  · obtain ⟨a, ws, e1, h1, r1, h2, h3, h4⟩ := R0.so i xs h
    refine ⟨a, ws, e1, h1, r1.ext ex, h2, h3, fun hm => ?_⟩
    have hm : a ∈ g.m ++ [p] := hm
    rcases List.mem_append.mp hm with z | z
    · exact h4 z
    · simp at z
      obtain ⟨b, us, e2, p1, _⟩ := R.so i xs h
      rw [e1] at e2; cases e2
      rw [z, hp] at p1; cases p1
theorem ok_cel {es : List Expr} {ms : M (List D)} (h : PA X es (tA c W ms)) : PE X (.List es pos) (tM c W (xCel ms)) := by
  refine PE.weak (pe_lst h) fun σ H Q ⟨g, R, h⟩ => ⟨g, R, (After.bind h).imp fun ds g1 H1 x1 R1 h1 vs rs => ?_⟩
  have hl := repL_length rs
  by_cases z : ds.length ≤ SZ
  · rw [if_pos z] at h1
    refine ⟨by rw [sizeLine_eq, hl]; exact z, fun p hp => ?_⟩
    obtain ⟨R2, x2⟩ := R1.newCell hp rs
    refine After.app h1 R2 x2 rfl rfl (.ref p) ?_
    simp only [Rep]
    exact ⟨p, by show (g1.m ++ [p])[g1.S.length]? = some p; rw [← R1.b.ml]; simp, rfl⟩
  · rw [if_neg z] at h1; exact h1.elim
end
end Ev

set_option Elab.async false
set_option linter.all false
set_option autoImplicit false
set_option maxRecDepth 100000
set_option maxHeartbeats 1000000
/-! EvR0: zip of two tuples of one length, strict=True; at the model's level. -/
namespace EvZ
open PySem
open PySem.Sem (wp)
namespace F
theorem typeCall_zs (a b c : Value) : checkTypeCall "zip" ⟨[a, b], [(Str.ofString "strict", c)]⟩ = pure () := by kernel_rfl
theorem newCall_zs (a b c : Value) : checkBuiltinCall "zip.__new__" ⟨[.type "zip", a, b], [(Str.ofString "strict", c)]⟩ = pure () := by kernel_rfl
theorem args_init_zs (obj a b c : Value) : argsOk "object.__init__" ⟨[obj, a, b], [(Str.ofString "strict", c)]⟩ := by unfold argsOk; kernel_rfl
end F
abbrev IsZs (h : Heap) (za ti tu : Addr) (f0 : Value) : Prop :=
  h.get? za = some { cls := .type "zip", dict := none, data := .fields #[f0, .bool false, .bool true, .ref ti, .ref tu], slots := #[] }
section
variable {prog : Program} {w : World} {A : Around} {E : Value → Shared → Prop} {s : Shared}
/-- the next thing, or none: there is one -/
theorem nextOrEnd_item {ia l : Addr} {k : Nat} {items : Array Value} {x : Value} {Q : Option Value → Shared → Prop} (hi : s.heap.IsTupleIter ia l k) (hl : s.heap.IsTuple l items) (hx : items[k]? = some x)
    (hQ : ∀ h', h'.IsTupleIter ia l (k + 1) → Heap.SameBut ia s.heap h' → Q (some x) { s with heap := h' }) : wpAny (model prog w) A (Builtin.SmallTypes.nextOrEnd (.ref ia)) Q E s := by
  unfold Builtin.SmallTypes.nextOrEnd
  exact wpAny_bind (wpAny_attempt (RZ.nextOf_tuple_item hi hl hx fun h' h1 h2 => wpAny_pure (hQ h' h1 h2)))
theorem nextOrEnd_end {ia l : Addr} {k : Nat} {items : Array Value} {Q : Option Value → Shared → Prop} (hh : A.handled = none) (hi : s.heap.IsTupleIter ia l k) (hl : s.heap.IsTuple l items) (hx : items[k]? = none)
    (hQ : ∀ h', Heap.ExtBut ia s.heap h' → Q none { s with heap := h' }) : wpAny (model prog w) A (Builtin.SmallTypes.nextOrEnd (.ref ia)) Q E s := by
  unfold Builtin.SmallTypes.nextOrEnd
  refine wpAny_bind (wpAny_attempt (RZ.nextOf_tuple_end hh hi hl hx fun h' e hb he => ?_))
  obtain ⟨o, ho, hc⟩ := he
  exact wpAny_bind (wpAny_isInstance (T := "StopIteration") (b := true) ⟨o, ho, hc⟩ isSubtype_stop (wpAny_pure (hQ _ hb)))
theorem zs_next_item {za ti tu ia ib l1 l2 : Addr} {k1 k2 : Nat} {xs ys : Array Value} {x y a b : Value} {Q : Value → Shared → Prop} (D : ZipApart za ti tu ia ib l1 l2)
    (hz : IsZs s.heap za ti tu .none) (hti : IsPair s.heap ti (.ref ia) (.ref ib)) (htu : IsPair s.heap tu a b)
    (h1 : s.heap.IsTupleIter ia l1 k1) (h2 : s.heap.IsTupleIter ib l2 k2) (hl1 : s.heap.IsTuple l1 xs) (hl2 : s.heap.IsTuple l2 ys) (hx : xs[k1]? = some x) (hy : ys[k2]? = some y)
    (hQ : ∀ h', IsZs h' za ti tu (rawInt s.heap.objs.size) → IsPair h' tu x y → h'.IsTupleIter ia l1 (k1 + 1) → h'.IsTupleIter ib l2 (k2 + 1) → IsPair h' s.heap.objs.size x y → h'.objs.size = s.heap.objs.size + 1 →
      (∀ c o, c ≠ za → c ≠ tu → c ≠ ia → c ≠ ib → s.heap.get? c = some o → h'.get? c = some o) → Q (.ref s.heap.objs.size) { s with heap := h' }) :
    wpAny (model prog w) A (Builtin.«zip.__next__» ⟨[.ref za], []⟩) (fun fin s' => ∃ v, fin = .done (.ret v) ∧ Q v s') E s := by
  show wpAny _ _ (field (.ref za) 2 >>= _) _ _ _
  refine wpAny_bind (wpAny_field hz rfl (x := .bool true) rfl ?_)
  show wpAny _ _ (field (.ref za) 3 >>= _) _ _ _
  refine wpAny_bind (wpAny_field hz rfl (x := .ref ti) rfl ?_)
  refine wpAny_bind (wpAny_seqItems hti rfl ?_)
  show wpAny _ _ (Builtin.SmallTypes.ownedTupleIsFree (.ref za) >>= _) _ _ _
  refine wpAny_bind ?_
  unfold Builtin.SmallTypes.ownedTupleIsFree
  refine wpAny_bind (wpAny_field hz rfl (x := .none) rfl (wpAny_pure ?_))
  simp only [if_true]
  refine wpAny_bind (wpAny_rule ?_)
  refine wpAny_bind (wpAny_field hz rfl (x := .ref tu) rfl ?_)
  refine wpAny_bind (wpAny_setField_rec hz (by simp) fun e1 hz1 sb1 => ?_)
  replace hz1 : IsZs e1 za ti tu .ellipsis := hz1
  refine wpAny_bind ?_
  simp only [List.zipIdx_cons, List.zipIdx_nil, List.forIn_cons, List.forIn_nil]
  refine wpAny_bind (wpAny_bind (wpAny_onRaise ?_))
  show wpAny _ _ (Builtin.SmallTypes.nextOrEnd (.ref ia)) _ _ _
  refine nextOrEnd_item (h1.extBut sb1.extBut D.i1z) (hl1.extBut sb1.extBut D.l1z) hx fun e2 h1b sb2 => ?_
  have t2 : IsPair e2 tu a b := sb2.extBut _ _ D.TOi1 (sb1.extBut _ _ D.TOz htu)
  refine wpAny_bind (wpAny_seqItems t2 rfl ?_)
  refine wpAny_bind (wpAny_updateSeq_pair t2 fun e3 t3 sb3 => ?_)
  replace t3 : IsPair e3 tu x b := t3
  refine wpAny_bind (wpAny_letGo (wpAny_pure ?_))
  refine wpAny_bind (wpAny_bind (wpAny_onRaise ?_))
  show wpAny _ _ (Builtin.SmallTypes.nextOrEnd (.ref ib)) _ _ _
  refine nextOrEnd_item (((h2.extBut sb1.extBut D.i2z).extBut sb2.extBut D.i12.symm).extBut sb3.extBut D.TOi2.symm)
    (((hl2.extBut sb1.extBut D.l2z).extBut sb2.extBut D.l2i1).extBut sb3.extBut D.l2TO) hy fun e4 h2b sb4 => ?_
  have t4 : IsPair e4 tu x b := sb4.extBut _ _ D.TOi2 t3
  refine wpAny_bind (wpAny_seqItems t4 rfl ?_)
  refine wpAny_bind (wpAny_updateSeq_pair t4 fun e5 t5 sb5 => ?_)
  replace t5 : IsPair e5 tu x y := t5
  refine wpAny_bind (wpAny_letGo (wpAny_pure (wpAny_pure ?_)))
  refine wpAny_bind (wpAny_seqItems t5 rfl ?_)
  refine wpAny_bind (wpAny_newTuple ?_)
  have size5 : e5.objs.size = s.heap.objs.size := by rw [sb5.1, sb4.1, sb3.1, sb2.1, sb1.1]
  have z5 : IsZs e5 za ti tu .ellipsis := sb5.extBut _ _ D.TOz.symm (sb4.extBut _ _ D.i2z.symm (sb3.extBut _ _ D.TOz.symm (sb2.extBut _ _ D.i1z.symm hz1)))
  have keep5 : ∀ c o, c ≠ za → c ≠ tu → c ≠ ia → c ≠ ib → s.heap.get? c = some o → e5.get? c = some o := fun c o c1 c2 c3 c4 e =>
    sb5.extBut _ _ c2 (sb4.extBut _ _ c4 (sb3.extBut _ _ c2 (sb2.extBut _ _ c3 (sb1.extBut _ _ c1 e))))
  have ia5 : e5.IsTupleIter ia l1 (k1 + 1) := ((h1b.extBut sb3.extBut D.TOi1.symm).extBut sb4.extBut D.i12).extBut sb5.extBut D.TOi1.symm
  have ib5 : e5.IsTupleIter ib l2 (k2 + 1) := h2b.extBut sb5.extBut D.TOi2.symm
  have zlt : za < e5.objs.size := Heap.lt_size z5
  show wpAny _ _ (Builtin.SmallTypes.ownedTupleHandOut (.ref za) (.ref e5.objs.size) >>= _) _ _ _
  refine wpAny_bind ?_
  unfold Builtin.SmallTypes.ownedTupleHandOut
  have z6 : IsZs (e5.push { cls := .type "tuple", data := .seq #[x, y] }) za ti tu .ellipsis := Heap.get?_push_of_some _ z5
  refine wpAny_bind (wpAny_setField_rec z6 (by simp) fun e7 z7 sb7 => ?_)
  replace z7 : IsZs e7 za ti tu (rawInt e5.objs.size) := z7
  refine wpAny_setField_rec z7 (by simp) fun e8 z8 sb8 => ?_
  replace z8 : IsZs e8 za ti tu (rawInt e5.objs.size) := z8
  have up : ∀ c o, c ≠ za → e5.get? c = some o → e8.get? c = some o := fun c o c1 e => sb8.extBut _ _ c1 (sb7.extBut _ _ c1 (Heap.get?_push_of_some _ e))
  have p8 : IsPair e8 e5.objs.size x y := sb8.extBut _ _ (Nat.ne_of_gt zlt) (sb7.extBut _ _ (Nat.ne_of_gt zlt) (Heap.get?_push_size _ rfl))
  have size8 : e8.objs.size = e5.objs.size + 1 := by rw [sb8.1, sb7.1, Heap.size_push]
  rw [size5] at z8 p8 size8
  refine wpAny_pure ⟨_, rfl, ?_⟩
  show Q (.ref e5.objs.size) _
  rw [size5]
  exact hQ e8 z8 (up _ _ D.TOz t5) (ia5.at fun o e => up _ o D.i1z e) (ib5.at fun o e => up _ o D.i2z e) p8 size8 fun c o c1 c2 c3 c4 e => up c o c1 (keep5 c o c1 c2 c3 c4 e)
theorem zs_next_end {za ti tu ia ib l1 l2 : Addr} {k1 k2 : Nat} {xs ys : Array Value} {a b : Value} {Q : Fin → Shared → Prop} (hh : A.handled = none) (D : ZipApart za ti tu ia ib l1 l2)
    (hz : IsZs s.heap za ti tu .none) (hti : IsPair s.heap ti (.ref ia) (.ref ib)) (htu : IsPair s.heap tu a b)
    (h1 : s.heap.IsTupleIter ia l1 k1) (h2 : s.heap.IsTupleIter ib l2 k2) (hl1 : s.heap.IsTuple l1 xs) (hl2 : s.heap.IsTuple l2 ys) (hx : xs[k1]? = none) (hy : ys[k2]? = none)
    (hE : ∀ h' e, (∀ c o, c ≠ za → c ≠ tu → c ≠ ia → c ≠ ib → s.heap.get? c = some o → h'.get? c = some o) → (∃ o, h'.get? e = some o ∧ o.cls = .type "StopIteration") → E (.ref e) { s with heap := h' }) :
    wpAny (model prog w) A (Builtin.«zip.__next__» ⟨[.ref za], []⟩) Q E s := by
  show wpAny _ _ (field (.ref za) 2 >>= _) _ _ _
  refine wpAny_bind (wpAny_field hz rfl (x := .bool true) rfl ?_)
  show wpAny _ _ (field (.ref za) 3 >>= _) _ _ _
  refine wpAny_bind (wpAny_field hz rfl (x := .ref ti) rfl ?_)
  refine wpAny_bind (wpAny_seqItems hti rfl ?_)
  show wpAny _ _ (Builtin.SmallTypes.ownedTupleIsFree (.ref za) >>= _) _ _ _
  refine wpAny_bind ?_
  unfold Builtin.SmallTypes.ownedTupleIsFree
  refine wpAny_bind (wpAny_field hz rfl (x := .none) rfl (wpAny_pure ?_))
  simp only [if_true]
  refine wpAny_bind (wpAny_rule ?_)
  refine wpAny_bind (wpAny_field hz rfl (x := .ref tu) rfl ?_)
  refine wpAny_bind (wpAny_setField_rec hz (by simp) fun e1 hz1 sb1 => ?_)
  replace hz1 : IsZs e1 za ti tu .ellipsis := hz1
  refine wpAny_bind ?_
  simp only [List.zipIdx_cons, List.zipIdx_nil, List.forIn_cons, List.forIn_nil]
  refine wpAny_bind (wpAny_bind (wpAny_onRaise ?_))
  show wpAny _ _ (Builtin.SmallTypes.nextOrEnd (.ref ia)) _ _ _
  refine nextOrEnd_end hh (h1.extBut sb1.extBut D.i1z) (hl1.extBut sb1.extBut D.l1z) hx fun e2 sb2 => ?_
  have hz2 : IsZs e2 za ti tu .ellipsis := sb2 _ _ D.i1z.symm hz1
  refine wpAny_bind (wpAny_setField_rec hz2 (by simp) fun e3 hz3 sb3 => ?_)
  refine wpAny_bind ?_
  wp_delta
  simp only [Nat.lt_irrefl, gt_iff_lt, if_false, List.drop_succ_cons, List.drop_zero, List.zipIdx_cons, List.zipIdx_nil, List.forIn_cons, List.forIn_nil]
  have up3 : ∀ c o, c ≠ za → c ≠ tu → c ≠ ia → c ≠ ib → s.heap.get? c = some o → e3.get? c = some o := fun c o c1 c2 c3 c4 e => sb3.extBut _ _ c1 (sb2 _ _ c3 (sb1.extBut _ _ c1 e))
  have i2 : e3.IsTupleIter ib l2 k2 := h2.at fun o e => sb3.extBut _ o D.i2z (sb2 _ _ D.i12.symm (sb1.extBut _ _ D.i2z e))
  have l2' : e3.IsTuple l2 ys := hl2.at fun o e => up3 _ o D.l2z D.l2TO D.l2i1 D.l2i2 e
  refine wpAny_bind (wpAny_bind (wpAny_bind (nextOrEnd_end hh i2 l2' hy fun e4 sb4 => ?_)))
  simp only [Option.isSome_none, Bool.false_eq_true, if_false]
  refine wpAny_pure (wpAny_pure ?_)
  refine wpAny_bind (wpAny_rule ?_)
  unfold Builtin.SmallTypes.stopIteration
  refine wpAny_bind ?_
  simp only [newExc, newTuple]
  refine wpAny_bind (wpAny_newObj_type ?_ (by size_fits))
  refine wpAny_bind (m := firstArgMember _ _) (wpAny_of_eq (a := Value.none) (by first | rfl | (simp only [firstArgMember]; rfl)) ?_)
  refine wpAny_newObj_type ?_ (by size_fits)
  simp only [raiseNew]
  refine wpAny_bind (wpAny_handled ?_)
  first | rw [show A.in1.handled = none from hh] | rw [hh]
  refine wpAny_bind (wpAny_pure (wpAny_throw ?_))
  refine hE _ _ (fun c o c1 c2 c3 c4 e => Heap.get?_push_of_some _ (Heap.get?_push_of_some _ (sb4 _ _ c4 (up3 c o c1 c2 c3 c4 e)))) ⟨_, Heap.get?_push_size _ rfl, rfl⟩
theorem pyNext_zs_item {za ti tu ia ib l1 l2 : Addr} {k1 k2 : Nat} {xs ys : Array Value} {x y a b : Value} {Q : Option Value → Shared → Prop} (D : ZipApart za ti tu ia ib l1 l2)
    (hz : IsZs s.heap za ti tu .none) (hti : IsPair s.heap ti (.ref ia) (.ref ib)) (htu : IsPair s.heap tu a b)
    (h1 : s.heap.IsTupleIter ia l1 k1) (h2 : s.heap.IsTupleIter ib l2 k2) (hl1 : s.heap.IsTuple l1 xs) (hl2 : s.heap.IsTuple l2 ys) (hx : xs[k1]? = some x) (hy : ys[k2]? = some y)
    (hQ : ∀ h', IsZs h' za ti tu (rawInt s.heap.objs.size) → IsPair h' tu x y → h'.IsTupleIter ia l1 (k1 + 1) → h'.IsTupleIter ib l2 (k2 + 1) → IsPair h' s.heap.objs.size x y → h'.objs.size = s.heap.objs.size + 1 →
      (∀ c o, c ≠ za → c ≠ tu → c ≠ ia → c ≠ ib → s.heap.get? c = some o → h'.get? c = some o) → Q (some (.ref s.heap.objs.size)) { s with heap := h' }) :
    wpAny (model prog w) A (pyNext (.ref za)) Q E s := by
  have ty : s.TypeIs (.ref za) "zip" := ⟨_, hz, rfl⟩
  unfold pyNext
  exact wpAny_bind (wpAny_attempt (wpAny_callSpecial?_slot (name := Str.ofString "__next__") ty F.slot_zip_next
    (wpAny_call_entry F.slot_zip_next ty F.entry_zip_next
      (zs_next_item D hz hti htu h1 h2 hl1 hl2 hx hy fun h' b1 b2 b3 b4 b5 b6 b7 => wpAny_pure (hQ h' b1 b2 b3 b4 b5 b6 b7)) (F.args_zip_next_1 _))))
theorem pyNext_zs_end {za ti tu ia ib l1 l2 : Addr} {k1 k2 : Nat} {xs ys : Array Value} {a b : Value} {Q : Option Value → Shared → Prop} (hh : A.handled = none) (D : ZipApart za ti tu ia ib l1 l2)
    (hz : IsZs s.heap za ti tu .none) (hti : IsPair s.heap ti (.ref ia) (.ref ib)) (htu : IsPair s.heap tu a b)
    (h1 : s.heap.IsTupleIter ia l1 k1) (h2 : s.heap.IsTupleIter ib l2 k2) (hl1 : s.heap.IsTuple l1 xs) (hl2 : s.heap.IsTuple l2 ys) (hx : xs[k1]? = none) (hy : ys[k2]? = none)
    (hQ : ∀ h', (∀ c o, c ≠ za → c ≠ tu → c ≠ ia → c ≠ ib → s.heap.get? c = some o → h'.get? c = some o) → Q none { s with heap := h' }) : wpAny (model prog w) A (pyNext (.ref za)) Q E s := by
  have ty : s.TypeIs (.ref za) "zip" := ⟨_, hz, rfl⟩
  unfold pyNext
  refine wpAny_bind (wpAny_attempt (wpAny_callSpecial?_slot (name := Str.ofString "__next__") ty F.slot_zip_next
    (wpAny_call_entry F.slot_zip_next ty F.entry_zip_next (zs_next_end hh D hz hti htu h1 h2 hl1 hl2 hx hy fun h' e kk he => ?_) (F.args_zip_next_1 _))))
  obtain ⟨ob, h3, h4⟩ := he
  exact wpAny_bind (wpAny_isInstance (T := "StopIteration") (b := true) ⟨ob, h3, h4⟩ isSubtype_stop (wpAny_pure (hQ _ kk)))
theorem go_zs {elts : List Expr} {x1} {pos : Pos} {za ti tu tt : Addr} {Q : Unit → Shared → Prop} (hz : IsZs s.heap za ti tu (rawInt tt)) (hQ : ∀ h', IsZs h' za ti tu .none → Heap.SameBut za s.heap h' → Q () { s with heap := h' }) :
    wpAny (model prog w) A (letOwnedTupleGo (.Tuple elts x1 pos) (.ref za) (.ref tt)) Q E s := by
  unfold letOwnedTupleGo
  refine wpAny_bind (wpAny_load hz ?_)
  show wpAny _ _ (if (["enumerate", "zip", "dict_itemiterator", "dict_reverseitemiterator", "odict_iterator", "itertools.zip_longest", "itertools.pairwise"].contains "zip" &&
      (#[rawInt tt, .bool false, .bool true, .ref ti, .ref tu] : Array Value)[0]? == some (rawInt tt)) = true then _ else _) Q E s
  rw [if_pos (by simp)]
  refine wpAny_bind (wpAny_rule ?_)
  show wpAny _ _ (setField (.ref za) 0 .none) Q E s
  exact wpAny_setField_rec hz (by simp) fun h' g1 g2 => hQ h' g1 g2
theorem iter_zs {za ti tu : Addr} {f0 : Value} {Q : Value → Shared → Prop} (hz : IsZs s.heap za ti tu f0) (h : Q (.ref za) s) : wpAny (model prog w) A (pyIter (.ref za)) Q E s := by
  have ty : s.TypeIs (.ref za) "zip" := ⟨_, hz, rfl⟩
  refine wpAny_pyIter_slot ty F.slot_zip_iter (wpAny_call_entry F.slot_zip_iter ty F.entry_zip_iter ?_ (F.args_zip_iter_1 _))
  show wpAny _ _ (ret (.ref za)) _ _ s
  exact wpAny_pure ⟨_, rfl, "zip", _, ty, F.slot_zip_next.lookup, h⟩
end
abbrev zsH (h : Heap) (l1 l2 : Addr) : Heap := (RZ.zipTH4 h l1 l2).push { cls := .type "zip", data := .fields #[.none, .bool false, .bool true, .ref (RZ.zipTH2 h l1 l2).objs.size, .ref (RZ.zipTH3 h l1 l2).objs.size] }
theorem meets_zs (l1 l2 : Addr) (xs ys : Array Value) :
    Meets (Builtin.«zip.__new__» ⟨[.type "zip", .ref l1, .ref l2], [(Str.ofString "strict", .bool true)]⟩) (fun _ R s => s.heap.IsTuple l1 xs ∧ s.heap.IsTuple l2 ys ∧
      R (.ok (.ret (.ref (RZ.zipTH4 s.heap l1 l2).objs.size))) { s with heap := zsH s.heap l1 l2 }) :=
  .of_wp fun prog w A R s h => by
    obtain ⟨hp, g, d, tk, os⟩ := s; obtain ⟨p1, p2, h⟩ := h
    have hsub := sub_zip
    have q1 : Heap.IsTuple (Shared.heap ⟨hp, g, d, tk, os⟩) l1 xs := p1
    have q2 : Heap.IsTuple (Shared.heap ⟨hp.push { cls := .type "tuple_iterator", data := .fields #[.ref l1, .int 0 0] }, g, d, tk, os⟩) l2 ys := Heap.IsTuple.push p2 _
    have n1 : (Str.ofString "strict" == ("strict" : Str)) = true := by decide +kernel
    have n2 : (Str.ofString "strict" != ("strict" : Str)) = false := by decide +kernel
    wp_walk using wpAny_pyIter_tuple q1, wpAny_pyIter_tuple q2
    exact ⟨_, rfl, h⟩
section
variable {prog : Program} {w : World} {A : Around} {E : Value → Shared → Prop} {s : Shared}
theorem call_zs {l1 l2 : Addr} {xs ys : Array Value} {Q : Value → Shared → Prop} (p1 : s.heap.IsTuple l1 xs) (p2 : s.heap.IsTuple l2 ys)
    (h : ∀ h', IsZs h' (s.heap.objs.size + 4) (s.heap.objs.size + 2) (s.heap.objs.size + 3) .none → IsPair h' (s.heap.objs.size + 2) (.ref s.heap.objs.size) (.ref (s.heap.objs.size + 1)) →
      IsPair h' (s.heap.objs.size + 3) .none .none → h'.IsTupleIter s.heap.objs.size l1 0 → h'.IsTupleIter (s.heap.objs.size + 1) l2 0 →
      (∀ c o, s.heap.get? c = some o → h'.get? c = some o) → Q (.ref (s.heap.objs.size + 4)) { s with heap := h' }) :
    wpAny (model prog w) A (call (.type "zip") [.ref l1, .ref l2] [(Str.ofString "strict", .bool true)]) Q E s := by
  refine callType_newKw F.called_zip (by decide) (EvZ.F.typeCall_zs _ _ _) (EvZ.F.newCall_zs _ _ _) (fun obj => EvZ.F.args_init_zs obj _ _ _) F.entry_zip_new (meets_zs l1 l2 xs ys) ⟨p1, p2, ?_⟩
  have s1 : (RZ.zipTH1 s.heap l1).objs.size = s.heap.objs.size + 1 := Heap.size_push ..
  have s2 : (RZ.zipTH2 s.heap l1 l2).objs.size = s.heap.objs.size + 2 := by rw [Heap.size_push, s1]
  have s3 : (RZ.zipTH3 s.heap l1 l2).objs.size = s.heap.objs.size + 3 := by rw [Heap.size_push, s2]
  have s4 : (RZ.zipTH4 s.heap l1 l2).objs.size = s.heap.objs.size + 4 := by rw [Heap.size_push, s3]
  have f5 : (zsH s.heap l1 l2).get? (RZ.zipTH4 s.heap l1 l2).objs.size = some _ := Heap.get?_push_size _ rfl
  have f4 : (zsH s.heap l1 l2).get? (RZ.zipTH3 s.heap l1 l2).objs.size = some _ := Heap.get?_push_of_some _ (Heap.get?_push_size _ rfl)
  have f3 : (zsH s.heap l1 l2).get? (RZ.zipTH2 s.heap l1 l2).objs.size = some _ := Heap.get?_push_of_some _ (Heap.get?_push_of_some _ (Heap.get?_push_size _ rfl))
  have f2 : (zsH s.heap l1 l2).get? (RZ.zipTH1 s.heap l1).objs.size = some _ := Heap.get?_push_of_some _ (Heap.get?_push_of_some _ (Heap.get?_push_of_some _ (Heap.get?_push_size _ rfl)))
  have f1 : (zsH s.heap l1 l2).get? s.heap.objs.size = some _ := Heap.get?_push_of_some _ (Heap.get?_push_of_some _ (Heap.get?_push_of_some _ (Heap.get?_push_of_some _ (Heap.get?_push_size _ rfl))))
  show _ ∧ _
  rw [s2, s3, s4] at f5
  rw [s1, s2] at f3
  rw [s3] at f4
  rw [s1] at f2
  rw [s4]
  exact ⟨⟨_, f5, rfl⟩, h _ f5 f3 f4 ⟨_, f1, rfl, rfl⟩ ⟨_, f2, rfl, rfl⟩ fun c o x =>
    Heap.get?_push_of_some _ (Heap.get?_push_of_some _ (Heap.get?_push_of_some _ (Heap.get?_push_of_some _ (Heap.get?_push_of_some _ x))))⟩
end
end EvZ

set_option Elab.async false
set_option linter.all false
set_option autoImplicit false
set_option maxRecDepth 100000
/-! EvR: zip(.., .., strict=True) of two tuples. -/
namespace EvZ
open PySem PySem.Spec PyProof.Rows L2
def ItZs (K : PySem.W.Frag) (a b : Addr) : It :=
  ⟨(RZ.ItzT K a b).go, (RZ.ItzT K a b).yld, fun i H => ∃ xs ys : List V, SqT K H a xs ∧ SqT K H b ys ∧ xs.length ≤ i ∧ ys.length ≤ i⟩
theorem turn_zs {P : Program} {w : World} {K : PySem.W.Frag} {elts : List Expr} {kk : Nat} {tpos : Pos} {a b za ti tu ia ib : Addr} (D : ZipApart za ti tu ia ib a b) :
    Turn P w K (.Tuple elts kk tpos) (ItZs K a b) [za, ti, tu, ia, ib] za (fun i h => IsZs h za ti tu .none ∧ IsPair h ti (.ref ia) (.ref ib) ∧ (∃ x y, IsPair h tu x y) ∧ h.IsTupleIter ia a i ∧ h.IsTupleIter ib b i) where
  mem := List.mem_cons_self
  obj := fun i h ⟨g1, g2, ⟨x, y, g3⟩, ⟨p1, e1, _, d1⟩, ⟨p2, e2, _, d2⟩⟩ c hc => by
    have pick : c = za ∨ c = ti ∨ c = tu ∨ c = ia ∨ c = ib := by simpa using hc
    rcases pick with rfl | rfl | rfl | rfl | rfl
    · exact ⟨_, g1, fun v q => nomatch q⟩
    · exact ⟨_, g2, fun v q => nomatch q⟩
    · exact ⟨_, g3, fun v q => nomatch q⟩
    · exact ⟨p1, e1, fun v q => by rw [d1] at q; cases q⟩
    · exact ⟨p2, e2, fun v q => by rw [d2] at q; cases q⟩
  keep := fun i h h' ⟨g1, g2, ⟨x, y, g3⟩, h1, h2⟩ k =>
    ⟨k za (by simp) _ g1, k ti (by simp) _ g2, ⟨x, y, k tu (by simp) _ g3⟩, h1.at fun o q => k ia (by simp) o q, h2.at fun o q => k ib (by simp) o q⟩
  item := by
    intro X hP hw hK hc i pins s σ H E I hf st hg
    subst hP hw hK
    obtain ⟨g1, g2, ⟨x0, y0, g3⟩, h1, h2⟩ := st
    obtain ⟨xs, ys, x, y, qx, qy, ex, ey⟩ := hg
    obtain ⟨us, ru, p1, _⟩ := I.tuple qx
    obtain ⟨vs, rv, p2, _⟩ := I.tuple qy
    obtain ⟨u, hu, r1⟩ := ru.get ex
    obtain ⟨v, hv, r2⟩ := rv.get ey
    have zl : za < s.heap.objs.size := Heap.lt_size g1
    refine pyNext_zs_item D g1 g2 g3 h1 h2 p1 p2 (x := u) (y := v) (by simpa using hu) (by simpa using hv) fun h' z' t' i1 i2 np nz kk => ?_
    refine ⟨_, rfl, go_zs (s := { s with heap := h' }) z' fun h'' z'' sb => ?_⟩
    have np2 : h''.get? s.heap.objs.size = some { cls := .type "tuple", data := .seq #[u, v] } := (sb.2 _ (Nat.ne_of_gt zl)).trans np
    have new : ObjOk X.prog X.w (upd H s.heap.objs.size (.tup [x, y])) h'' s.heap.objs.size (.tup [x, y]) :=
      ⟨by show 2 ≤ sizeLine; decide, [u, v], .cons r1 (.cons r2 .nil), ⟨_, np2, rfl, _, rfl⟩⟩
    have J : Inv X pins σ (upd H s.heap.objs.size (.tup [x, y])) { s with heap := h'' } :=
      I.turnedNew (t' := s.toks) (ch := [za, ti, tu, ia, ib]) (fun c o hb q => by
        have hb' : c ≠ za ∧ c ≠ ti ∧ c ≠ tu ∧ c ≠ ia ∧ c ≠ ib := by simpa using hb
        exact (sb.2 c hb'.1).trans (kk c o hb'.1 hb'.2.2.1 hb'.2.2.2.1 hb'.2.2.2.2 q)) hf (Nat.le_refl _) new
    refine ⟨.ref s.heap.objs.size, _, J, rfl, ⟨_, x, y, rfl, I.hok.fresh (Nat.le_refl _), rfl, fun l hl => by rw [I.tuple_inj hl qx]; exact ex, fun l hl => by rw [I.tuple_inj hl qy]; exact ey⟩,
      ⟨z'', (sb.2 _ D.TIz).trans (kk _ _ D.TIz D.TITO D.TIi1 D.TIi2 g2), ⟨u, v, (sb.2 _ D.TOz).trans t'⟩, i1.at fun o q => (sb.2 _ D.i1z).trans q, i2.at fun o q => (sb.2 _ D.i2z).trans q⟩, fun c hcm => ?_⟩
    have lt : c < s.heap.objs.size := by
      have pick : c = za ∨ c = ti ∨ c = tu ∨ c = ia ∨ c = ib := by simpa using hcm
      rcases pick with rfl | rfl | rfl | rfl | rfl
      · exact zl
      · exact Heap.lt_size g2
      · exact Heap.lt_size g3
      · obtain ⟨_, e1, _⟩ := h1; exact Heap.lt_size e1
      · obtain ⟨_, e2, _⟩ := h2; exact Heap.lt_size e2
    rw [upd_ne (Nat.ne_of_lt lt)]
    exact (hf c hcm).1
  done := by
    intro X hP hw hK hc i pins s σ H E I hf st hg
    subst hP hw hK
    obtain ⟨g1, g2, ⟨x0, y0, g3⟩, h1, h2⟩ := st
    obtain ⟨xs, ys, qx, qy, l1, l2⟩ := hg
    obtain ⟨us, ru, p1, _⟩ := I.tuple qx
    obtain ⟨vs, rv, p2, _⟩ := I.tuple qy
    have n1 := ru.length
    have n2 := rv.length
    refine pyNext_zs_end (I.ok.hd hc) D g1 g2 g3 h1 h2 p1 p2 (by simp; omega) (by simp; omega) fun h' kk => ⟨rfl, I.turnedL (t' := s.toks) (ch := [za, ti, tu, ia, ib]) (fun c o hb q => ?_) hf⟩
    have hb' : c ≠ za ∧ c ≠ ti ∧ c ≠ tu ∧ c ≠ ia ∧ c ≠ ib := by simpa using hb
    exact kk c o hb'.1 hb'.2.2.1 hb'.2.2.2.1 hb'.2.2.2.2 q
  self := fun A i s Q E st h => iter_zs st.1 h
theorem callWith_ty_kw {M : Model} {A : Around} {E : Value → Shared → Prop} {s : Shared} {pos : Pos} {T : String} {args : List (Bool × Sem Value)} {kws : List (Option Str × Sem Value)} {Q : Value → Shared → Prop} (n1 : args.any (·.1) = false) (n2 : kws.any (·.1.isNone) = false)
    (h : wpAny M A (evalArgs (.type T) true args kws) (fun a s1 => wpAny M A (call (.type T) a.pos a.kw) Q E s1) E s) : wpAny M A (callWith pos (.type T) [] args kws) Q E s := by
  unfold callWith
  refine wpAny_bind (wpAny_holding (wpAny_mono h (fun a s1 q => wpAny_bind (wpAny_standAt ?_)) fun _ _ z => z))
  simp only [n1, n2, Bool.or_false]
  exact wpAny_bind (wpAny_pure (wpAny_bind (wpAny_mono q (fun r s2 z => wpAny_bind (wpAny_holding (wpAny_point (wpAny_pure z)))) fun _ _ z => z)))
def iZs (K : PySem.W.Frag) (ta : TA) : TI := fun σ H R => ta σ H fun vs H1 => ∃ a b xs ys, vs = [.ref a, .ref b] ∧ SqT K H1 a xs ∧ SqT K H1 b ys ∧ R (ItZs K a b) H1
theorem pi_zs {X : Cx} {e e2 : Expr} {ta : TA} {p pos tpos k1 k2 : Pos} {j : Nat} {elts : List Expr} {kk : Nat} (hg : Gl X "zip") (hm : X.mg "zip" = none) (ha : PA X [e, e2] ta)
    (hs : backTo pos (starEach [e, e2] X.env) = (false, eval e X.env) :: backTo pos (starEach [e2] X.env)) (hpl : (backTo pos (starEach [e, e2] X.env)).any (·.1) = false) :
    PI X (.Tuple elts kk tpos) (.Call (.Name "zip" p) [e, e2] [⟨some "strict", .Constant (.bool true) j k1, k2⟩] pos) (iZs X.K ta) := by
  refine ⟨fun pins s σ H R I h => ?_⟩
  refine wpAny_Call_Name_kw (ld_blt I hg hm PyProof.Rows.boot_zip ?_)
  refine callWith_ty_kw hpl rfl ?_
  have hA := ha.run pos pins s σ H _ I h
  rw [hs] at hA ⊢
  refine evalArgs_kwB rfl (thn hA fun us s1 ⟨vs, H1, I1, r1, q1⟩ => ?_)
  refine kws_cons (Constant_bool (kws_nil ?_))
  obtain ⟨a, b, xs, ys, ex, qx, qy, q⟩ := q1
  subst ex
  cases r1 with
  | cons r rr =>
    cases rr with
    | cons r' rr =>
      cases rr
      cases r
      cases r'
      obtain ⟨its, rv, p1, _⟩ := I1.tuple qx
      obtain ⟨its2, rv2, p2, _⟩ := I1.tuple qy
      have la : a < s1.heap.objs.size := by obtain ⟨o, e, _⟩ := id p1; exact Heap.lt_size e
      have lb : b < s1.heap.objs.size := by obtain ⟨o, e, _⟩ := id p2; exact Heap.lt_size e
      refine call_zs (show s1.heap.IsTuple a its.toArray from p1) (show s1.heap.IsTuple b its2.toArray from p2) fun h' hz hti htu h1 h2 hk => iter_zs hz ?_
      have I2 : Inv X pins σ H1 { s1 with heap := h' } := I1.kept (t' := s1.toks) hk
      refine ⟨s1.heap.objs.size + 4, [s1.heap.objs.size + 4, s1.heap.objs.size + 2, s1.heap.objs.size + 3, s1.heap.objs.size, s1.heap.objs.size + 1], _, _, H1, rfl, I2, turn_zs (PySem.W.ktu_apart s1.heap.objs.size a b la lb), ⟨hz, hti, ⟨_, _, htu⟩, h1, h2⟩, fun c hcm => ?_, q⟩
      have hle : s1.heap.objs.size ≤ c := by
        have pick : c = s1.heap.objs.size + 4 ∨ c = s1.heap.objs.size + 2 ∨ c = s1.heap.objs.size + 3 ∨ c = s1.heap.objs.size ∨ c = s1.heap.objs.size + 1 := by simpa using hcm
        rcases pick with z | z | z | z | z <;> rw [z]
        · exact Nat.le_add_right _ _
        · exact Nat.le_add_right _ _
        · exact Nat.le_add_right _ _
        · exact Nat.le_refl _
        · exact Nat.le_add_right _ _
      exact I1.fpOk hle (I1.hok.fresh hle)
end EvZ
namespace Ev
open PySem PySem.Spec PyProof.Rows L2
theorem itr_zs {X : Cx} {c : Kx} {g0 : Gs} {a a2 : Addr} {vs ws : List V} {ds es : List D} (hK : X.K = c.K) (h : SqT c.K g0.F a vs) (h2 : SqT c.K g0.F a2 ws) (r : RepL c g0.F g0.m ds vs) (r2 : RepL c g0.F g0.m es ws) (hl : ds.length = es.length) : ItR c g0 (EvZ.ItZs X.K a a2) (zipD ds es) := by
  intro g σ H x R
  obtain ⟨z1, z2⟩ := itr_zipT hK h h2 r r2 g σ H x R
  refine ⟨z1, fun i hi => ⟨vs, ws, by rw [hK]; exact sqT_of R.b.fh (x.sqT h), by rw [hK]; exact sqT_of R.b.fh (x.sqT h2), ?_, ?_⟩⟩
  · rw [zip_len] at hi; rw [repL_length r]; omega
  · rw [zip_len] at hi; rw [repL_length r2]; omega
def zsOf (ds : List D) : M (List D) := match ds with
  | [.tup xs, .tup ys] => if xs.length = ys.length then M.pure (zipD xs ys) else M.bad
  | _ => M.bad
def mZs (ms : M (List D)) : M (List D) := M.bind ms zsOf
theorem oi_zs {X : Cx} {c : Kx} {W : WX} {e e2 : Expr} {p pos tpos k1 k2 : Pos} {j : Nat} {elts : List Expr} {kk : Nat} {ms : M (List D)} (hK : X.K = c.K) (hg : Gl X "zip") (hm : X.mg "zip" = none) (ha : PA X [e, e2] (tA c W ms))
    (hs : backTo pos (starEach [e, e2] X.env) = (false, eval e X.env) :: backTo pos (starEach [e2] X.env)) (hpl : (backTo pos (starEach [e, e2] X.env)).any (·.1) = false) :
    PI X (.Tuple elts kk tpos) (.Call (.Name "zip" p) [e, e2] [⟨some "strict", .Constant (.bool true) j k1, k2⟩] pos) (tI c W (mZs ms)) := by
  refine PI.weak (EvZ.pi_zs hg hm ha hs hpl) fun σ H Q ⟨g, R, h⟩ => ⟨g, R, (After.bind h).imp fun ds g1 H1 x1 R1 q vs rs => ?_⟩
  unfold zsOf at q
  split at q
  · rename_i xs ys
    obtain ⟨v, w, rfl, r1, r2⟩ := repL_two rs
    simp only [Rep] at r1 r2
    obtain ⟨a, us, rfl, h1, r1⟩ := r1
    obtain ⟨a2, ws, rfl, h2, r2⟩ := r2
    by_cases z : xs.length = ys.length
    · rw [if_pos z] at q
      exact ⟨a, a2, us, ws, rfl, by rw [hK]; exact sqT_of R1.b.fh h1, by rw [hK]; exact sqT_of R1.b.fh h2, After.pure q R1 _ (itr_zs hK h1 h2 r1 r2 z)⟩
    · rw [if_neg z] at q; exact q.elim
  · exact q.elim
end Ev

set_option Elab.async false
set_option linter.all false
set_option autoImplicit false
set_option maxRecDepth 100000
/-! EvP: raise, try, calls by names, a def's body. -/
namespace Ev
open PySem PySem.Spec PyProof.Rows L2
/-! ### raise, try -/
def sRai (n : Nat) : M Flow := fun ρ S => .exc ⟨n, []⟩ ρ S
def sTry (b : M Flow) (sb : Nat → Bool) (h : M Flow) : M Flow := fun ρ S => match b ρ S with
  | .exc x ρ' S' => if sb x.c then noX h ρ' S' else .exc x ρ' S'
  | r => r
theorem After2.noX {α : Type} {c : Kx} {W : WX} {g : Gs} {m : M α} {ρ : Env} {S : Sto} {ok : α → Gs → St → Hp → Prop} (h : After2 c W g (Ev.noX m ρ S) ok) : After2 c W0 g (m ρ S) ok := by
  unfold Ev.noX at h
  cases e : m ρ S with
  | ok a ρ S => rw [e] at h; exact h
  | exc x ρ S => rw [e] at h; exact h.elim
  | bad => rw [e] at h; exact h
section
variable {X : Cx} {c : Kx} {W : WX} {pos : Pos}
theorem os_raise {C : Addr} {n : Nat} {e : Expr} (hc : X.calm = true) (tk : Takes X W) (n0 : n ≠ 0) (hca : c.ca n = some C) (h : PMk X e (fun _ H Q => Q (.ref C) none H)) : PS X (.Raise (some e) none pos) (tS c W (sRai n)) :=
  PS.weak (ps_raise hc tk h) fun D σ H ⟨g, R, h⟩ => h g σ H (.ref C) none rfl rfl .refl R ⟨rfl, rfl, n0, C, hca, rfl⟩
theorem os_try {x : Str} {cv : Value} {body suite : List Stmt} {b₀ : Stmt} {np pos' : Pos} {b h : M Flow} {sb : Nat → Bool} (hs : X.stack = X.env :: X.outer) (hf : X.env.frame = some X.env.locals) (hc : Names X x cv) (tk : Takes X W)
    (hx : ∀ n C, n ≠ 0 → c.ca n = some C → PySem.W.exmOne X.K (.ref C) cv = some (sb n))
    (hb : ∀ (W : WX) (pn : List (Addr × Obj)) (xe : Value → Shared → Prop), Takes (X.tr pn xe) W → PassesOwn (model X.prog X.w) X.A X.env xe → PSs (X.tr pn xe) body (tS c W b))
    (hsu : ∀ (a : Addr) (oe : Obj) (pn : List (Addr × Obj)), PSs (X.suite a ((a, oe) :: pn)) (b₀ :: suite) (tS c W0 h)) :
    PS X (.Try body [.ExceptHandler (some (.Name x np)) none (b₀ :: suite) pos'] [] [] pos) (tS c W (sTry b sb h)) := by
  refine PS.weak (ps_try_only (Wout := W) (tb := fun W => tS c W b) (ts := fun _ _ _ => tS c W0 h) hs hf hc tk hb fun a oe cls d pn _ _ => hsu a oe pn) fun D σ H ⟨g, R, h0⟩ => ⟨g, R, ?_⟩
  unfold sTry at h0
  revert h0
  cases e : b g.ρ g.S with
  | ok f ρ S => exact fun z => z
  | bad => exact fun z => z
  | exc x ρ S =>
    intro h0 g' σ' H' cls d e1 e2 x1 R1 r
    obtain ⟨z1, z2, z0, C, hC, z3⟩ := id r
    refine ⟨sb x.c, by rw [z3]; exact hx _ _ z0 hC, fun hb a _ => ?_, fun hb => ?_⟩
    · have h0 : After2 c W g (if sb x.c = true then noX h ρ S else .exc x ρ S) (flowOk c D) := h0
      rw [if_pos hb] at h0
      refine ⟨g', R1, ?_⟩
      rw [e1, e2]
      exact (After2.noX h0).shift x1
    · have h0 : After2 c W g (if sb x.c = true then noX h ρ S else .exc x ρ S) (flowOk c D) := h0
      rw [hb] at h0
      exact h0 g' σ' H' cls d e1 e2 x1 R1 r
/-! ### calls by names -/
theorem PK.weak {kws : List Keyword} {t t' : TA} (h : PK X kws t) (w : ∀ σ H Q, t' σ H Q → t σ H Q) : PK X kws t' := ⟨fun p pins s σ H Q I q => h.run p pins s σ H Q I (w σ H Q q)⟩
theorem okk_nil : PK X [] (tA c W (M.pure [])) := PK.weak pk_nil fun σ H Q ⟨g, R, h⟩ => After.pure h R [] (by simp [RepL])
theorem okk_cons {e : Expr} {kws : List Keyword} {nm : Option Str} {kpos : Pos} {m : M D} {ms : M (List D)} (ha : PE X e (tM c W m)) (hr : PK X kws (tA c W ms)) : PK X (⟨nm, e, kpos⟩ :: kws) (tA c W (M.bind m fun d => M.bind ms fun ds => M.pure (d :: ds))) := by
  refine PK.weak (pk_cons ha hr) fun σ H Q ⟨g, R, h⟩ => ⟨g, R, (After.bind h).imp fun d g1 H1 x1 R1 h1 v r => ⟨g1, R1, (After.bind h1).imp fun ds g2 H2 x2 R2 h2 vs rs => ?_⟩⟩
  exact After.pure h2 R2 (v :: vs) (RepL.cons_ (r.ext x2.e) rs)
/-- the values in the parameters' order: src tells of each its place, or the default -/
structure KSrc (K : PySem.W.Frag) (fd : FuncData) (ps : List Str) (n : Nat) (ks : List Str) (src : List (Sum Nat D)) : Prop where
  b : ∃ (g : List Value → List Value → List Value) (gV : List V → List V → List V), KBn K fd ps n ks g gV ∧
    ∀ (c : Kx) (F : Hp) (m : List Addr) (ds es : List D) (vs zs : List V), RepL c F m ds vs → RepL c F m es zs → ds.length = n → es.length = ks.length → ∃ l, srcOf (ds ++ es) src = some l ∧ RepL c F m l (gV vs zs) ∧ l.length = ps.length
def mCalk (P : Prm) (f n m : Nat) (ms mk : M (List D)) (src : List (Sum Nat D)) : M D := M.bind ms fun ds => M.bind mk fun es => if ds.length = n ∧ es.length = m then M.bind (M.of (srcOf (ds ++ es) src)) fun l => mCall P f l else M.bad
section
variable {k n np : Nat} {f : Addr} {fd : FuncData} {ps ks : List Str} {x : Str} {p : Pos} {e : Expr} {es : List Expr} {kws : List Keyword} {ms mk : M (List D)} {P : Prm} {nf : Nat} {src : List (Sum Nat D)}
theorem calk_read {g : Gs} {σ : St} {H : Hp} {Q : VK} {ds zs : List D} {vs ws : List V} {gV : List V → List V → List V} (R : Rel c g σ H) (rs : RepL c g.F g.m ds vs) (rz : RepL c g.F g.m zs ws)
    (hb : ∃ l, srcOf (ds ++ zs) src = some l ∧ RepL c g.F g.m l (gV vs ws) ∧ l.length = ps.length) (h : After c W g σ ((M.bind (M.of (srcOf (ds ++ zs) src)) fun l => mCall P nf l) g.ρ g.S) fun d g' H' => ∀ v, Rep c g'.F g'.m d v → Q v H') :
    spF c P.call nf ps.length (gV vs ws) H Q (fun cls d H' => W cls d σ H') := by
  obtain ⟨l, e1, r, hl⟩ := hb
  rw [e1] at h
  have h1 := After.bind h
  have h2 : After c W g σ (.ok l g.ρ g.S) fun l g1 _ => After c W g1 σ (mCall P nf l g1.ρ g1.S) fun d g' H' => ∀ v, Rep c g'.F g'.m d v → Q v H' := h1
  exact call_read R r hl (After.app h2 R .refl rfl rfl)
theorem run_GN {pins : List (Addr × Obj)} {σ : St} {H : Hp} {s : Shared} {Q : VK} {us ws : List Value} {vs zs : List V} {sp : Sp} {g : List Value → List Value → List Value} {gV : List V → List V → List V} (F : FnG X.prog X.w X.K X.mg X.base k f fd ps sp) (hr : Room k X.A) (hgd : X.A.guards = some []) (tk : Takes X W)
    (hb : KBn X.K fd ps n ks g gV) (I : Inv X pins σ H s) (r : Vals vs us) (rz : Vals zs ws) (l1 : vs.length = n) (l2 : zs.length = ks.length) (h : sp (gV vs zs) H Q (fun cls d H' => W cls d σ H')) : wpAny (model X.prog X.w) X.A (call (.ref f) us (ks.zip ws)) (EP X pins σ Q) X.xe s :=
  run_G F hr hgd tk I (hb.to s us ws I.kIn (r.length.symm.trans l1) (rz.length.symm.trans l2)) (hb.rel r rz) h
theorem ok_calk (F : FnG X.prog X.w X.K X.mg X.base k f fd ps (spF c P.call nf ps.length)) (hr : Room k X.A) (hgd : X.A.guards = some []) (tk : Takes X W) (hg : Gl X x) (hm : X.mg x = some (.ref f)) (hk : PySem.W.keepIn X.K (.ref f) = true) (hb : KSrc X.K fd ps n ks src)
    (ha : PA X (e :: es) (tA c W ms)) (hkw : PK X kws (tA c W mk)) (hall : (backToKw pos (keywordEach kws X.env)).all (·.1.isSome) = true) (hks : (backToKw pos (keywordEach kws X.env)).filterMap (·.1) = ks)
    (hdb : (x == ("__debug__" : Str)) = false) (he : starEach (e :: es) X.env = (false, eval e X.env) :: starEach es X.env)
    (hpl : ((backTo pos (starEach (e :: es) X.env)).any (·.1) || (backToKw pos (keywordEach kws X.env)).any (·.1.isNone)) = false) :
    PE X (.Call (.Name x p) (e :: es) kws pos) (tM c W (mCalk P nf n ks.length ms mk src)) := by
  obtain ⟨g, gV, kb, hsrc⟩ := hb.b
  refine ⟨fun pins s σ H Q I ⟨g0, R, h⟩ => ?_⟩
  refine wpAny_Call_Name_kw (ld_glob I hg hm ?_ hdb)
  refine PySem.W.callWith_KW (h₀ := X.base) I.ok.mod.kin hk hall (thn (ha.run pos pins s σ H (fun vs H1 => ∃ g1 ds, Rel c g1 σ H1 ∧ RepL c g1.F g1.m ds vs ∧ After c W g1 σ ((M.bind mk fun es => if ds.length = n ∧ es.length = ks.length then M.bind (M.of (srcOf (ds ++ es) src)) fun l => mCall P nf l else M.bad) g1.ρ g1.S) fun d g' H' => ∀ v, Rep c g'.F g'.m d v → Q v H') I
    ⟨g0, R, (After.bind h).imp fun ds g1 H1 x1 R1 q vs rs => ⟨g1, ds, R1, rs, q⟩⟩) fun us s1 ⟨vs, H1, I1, r, g1, ds, R1, rs, q⟩ => ?_) hpl he
  refine thn (hkw.run pos pins s1 σ H1 (fun zs H2 => ∃ g2 zd, Rel c g2 σ H2 ∧ RepL c g2.F g2.m ds vs ∧ RepL c g2.F g2.m zd zs ∧ After c W g2 σ ((if ds.length = n ∧ zd.length = ks.length then M.bind (M.of (srcOf (ds ++ zd) src)) fun l => mCall P nf l else M.bad) g2.ρ g2.S) fun d g' H' => ∀ v, Rep c g'.F g'.m d v → Q v H') I1
    ⟨g1, R1, (After.bind q).imp fun zd g2 H2 x2 R2 q2 zs rz => ⟨g2, zd, R2, rs.ext x2.e, rz, q2⟩⟩) fun ws s2 ⟨zs, H2, I2, rzv, g2, zd, R2, rs2, rz, q2⟩ => ⟨I2.kIn, ?_⟩
  rw [hks]
  by_cases z : ds.length = n ∧ zd.length = ks.length
  · rw [if_pos z] at q2
    exact run_GN F hr hgd tk kb I2 r rzv ((repL_length rs2).trans z.1) ((repL_length rz).trans z.2) (calk_read R2 rs2 rz (hsrc c _ _ _ _ _ _ rs2 rz z.1 z.2) q2)
  · rw [if_neg z] at q2; exact q2.elim
theorem ok_calk0 (F : FnG X.prog X.w X.K X.mg X.base k f fd ps (spF c P.call nf ps.length)) (hr : Room k X.A) (hgd : X.A.guards = some []) (tk : Takes X W) (hg : Gl X x) (hm : X.mg x = some (.ref f)) (hk : PySem.W.keepIn X.K (.ref f) = true) (hb : KSrc X.K fd ps 0 ks src)
    (hkw : PK X kws (tA c W mk)) (hall : (backToKw pos (keywordEach kws X.env)).all (·.1.isSome) = true) (hks : (backToKw pos (keywordEach kws X.env)).filterMap (·.1) = ks) (hdb : (x == ("__debug__" : Str)) = false)
    (hpl : ((backTo pos (starEach [] X.env)).any (·.1) || (backToKw pos (keywordEach kws X.env)).any (·.1.isNone)) = false) :
    PE X (.Call (.Name x p) [] kws pos) (tM c W (mCalk P nf 0 ks.length (M.pure []) mk src)) := by
  obtain ⟨g, gV, kb, hsrc⟩ := hb.b
  refine ⟨fun pins s σ H Q I ⟨g0, R, h⟩ => ?_⟩
  refine wpAny_Call_Name_kw (ld_glob I hg hm ?_ hdb)
  have q0 : After c W g0 σ ((M.bind mk fun es => if (([] : List D).length = 0 ∧ es.length = ks.length) then M.bind (M.of (srcOf (([] : List D) ++ es) src)) fun l => mCall P nf l else M.bad) g0.ρ g0.S) fun d g' H' => ∀ v, Rep c g'.F g'.m d v → Q v H' := h
  refine PySem.W.callWith_KW0 (h₀ := X.base) I.ok.mod.kin hk hall (thn (hkw.run pos pins s σ H (fun zs H2 => ∃ g2 zd, Rel c g2 σ H2 ∧ RepL c g2.F g2.m zd zs ∧ After c W g2 σ ((if (([] : List D).length = 0 ∧ zd.length = ks.length) then M.bind (M.of (srcOf (([] : List D) ++ zd) src)) fun l => mCall P nf l else M.bad) g2.ρ g2.S) fun d g' H' => ∀ v, Rep c g'.F g'.m d v → Q v H') I
    ⟨g0, R, (After.bind q0).imp fun zd g2 H2 x2 R2 q2 zs rz => ⟨g2, zd, R2, rz, q2⟩⟩) fun ws s2 ⟨zs, H2, I2, rzv, g2, zd, R2, rz, q2⟩ => ⟨I2.kIn, ?_⟩) hpl
  rw [hks]
  by_cases z : ([] : List D).length = 0 ∧ zd.length = ks.length
  · rw [if_pos z] at q2
    exact run_GN (us := []) F hr hgd tk kb I2 .nil rzv rfl ((repL_length rz).trans z.2) (calk_read R2 (by simp [RepL]) rz (hsrc c _ _ [] _ [] _ (by simp [RepL]) rz rfl z.2) q2)
  · rw [if_neg z] at q2; exact q2.elim
end
end
end Ev

set_option Elab.async false
set_option linter.all false
set_option autoImplicit false
set_option maxRecDepth 100000
/-! EvS: a def's body, read; the whole program by the depth of calls. -/
namespace Ev
open PySem PySem.Spec PyProof.Rows L2
/-- a def: parameters, slots, what its body means -/
structure FD where
  np : Nat
  ns : Nat
  body : Prm → M Flow
def runD (P : Prm) (fd : FD) (ds : List D) (S : Sto) : CR :=
  if ds.length = fd.np then match fd.body P ((ds.map fun d => some (.fz d)) ++ List.replicate (fd.ns - ds.length) none) S with
    | .ok .nx _ S' => .ok .non S'
    | .ok (.rt d) _ S' => .ok d S'
    | .ok _ _ _ => .bad
    | .exc x _ S' => .exc x S'
    | .bad => .bad
  else .bad
structure Tb where
  fn : Nat → Option FD
  shown : D → Option Txt
  fuel : Nat
def Tb.prm (T : Tb) (c : Call) : Prm := { call := c, shown := T.shown, sub := fun _ _ => false, flds := fun _ => [], fuel := T.fuel }
def callT (T : Tb) : Nat → Call
  | 0 => fun _ _ _ => .bad
  | k + 1 => fun f ds S => match T.fn f with
    | none => .bad
    | some fd => runD (T.prm (callT T k)) fd ds S
theorem repL_get {c : Kx} {F : Hp} {m : List Addr} {ds : List D} {vs : List V} {i : Nat} {d : D} (h : RepL c F m ds vs) (e : ds[i]? = some d) : ∃ v, vs[i]? = some v ∧ Rep c F m d v := repL_at h e
theorem start_rel {c : Kx} {g : Gs} {N : List Str} {ds : List D} {vs : List V} {H : Hp} (R : RelB c g.G g.F g.m g.S H) (rs : RepL c g.F g.m ds vs) :
    Rel c { g with ρ := (ds.map fun d => some (.fz d)) ++ List.replicate (N.length - ds.length) none } (start N vs) H := by
  have hl := repL_length rs
  have low : ∀ {i : Nat} {sv : SV}, ((ds.map fun d => some (SV.fz d)) ++ List.replicate (N.length - ds.length) none)[i]? = some (some sv) → ∃ d, ds[i]? = some d ∧ sv = .fz d := fun {i sv} h => by
    by_cases z : i < ds.length
    · rw [List.getElem?_append_left (by simpa using z), List.getElem?_map] at h
      cases e : ds[i]? with
      | none => rw [e] at h; cases h
      | some d => rw [e] at h; cases h; exact ⟨d, rfl, rfl⟩
    · rw [List.getElem?_append_right (by simpa using z), List.getElem?_replicate] at h
      split at h <;> cases h
  refine ⟨R, by simp [L2.start, hl], fun i d h => ?_, fun i xs h => ?_, fun i j xs ys a _ h => ?_, fun i x h => (low h).elim fun d q => by cases q.2⟩
  · obtain ⟨d', e, z⟩ := low h
    cases z
    obtain ⟨v, ev, r⟩ := repL_at rs e
    refine ⟨v, ?_, r⟩
    have hv : i < vs.length := (List.getElem?_eq_some_iff.mp ev).1
    unfold L2.start
    rw [List.getElem?_append_left (by simpa using hv), List.getElem?_map, ev]
    rfl
  · obtain ⟨_, _, z⟩ := low h
    cases z
  · obtain ⟨_, _, z⟩ := low h
    cases z
section
variable {P : PySem.Program} {w : World} {K : PySem.W.Frag} {mg : Str → Option Value} {base : Heap} {x qual : Str} {params : Arguments} {body : List Stmt} {scope : Scope} {dvs : List V} {kws : List (Str × V)} {f : Addr} {fd : FuncData} {N ps : List Str} {k : Nat}
/-- the body's reading gives the def's promise -/
theorem fn_of {c : Kx} {T : Tb} {nf : Nat} {d : FD} (F : FunD K x qual params body scope dvs kws f fd) (S : FnScope N ps scope) (hT : T.fn nf = some d) (hnp : d.np = ps.length) (hns : d.ns = N.length)
    (hb : ∀ (cdv : Value) (A : Around) (outer : List PySem.Env) (s : Shared) (H : Hp) (E : XK), Room k (A.deeper (envOfC qual scope s.heap.objs.size f cdv)) → (A.deeper (envOfC qual scope s.heap.objs.size f cdv)).guards = some [] →
      PSs (cxOf (L2.CX P w) P w K mg base N qual scope f cdv A outer s H E) body (tS c (fun cls d _ H => E cls d H) (d.body (T.prm (callT T k))))) : FnG P w K mg base (k + 1) f fd ps (spF c (callT T (k + 1)) nf ps.length) := by
  refine fnG_of F S (fun vs H Q E ⟨g, ds, _, _, rs, hl, _⟩ => (repL_length rs).trans hl) fun cdv A outer s H vs Q E hr hg hsp => ⟨_, hb cdv A outer s H E hr hg, ?_⟩
  obtain ⟨g, ds, _, R, rs, hl, h⟩ := hsp
  have h : (match (match T.fn nf with | none => CR.bad | some fd => runD (T.prm (callT T k)) fd ds g.S) with | .ok d S' => _ | .exc x S' => _ | .bad => False) := h
  rw [hT] at h
  have h : (match runD (T.prm (callT T k)) d ds g.S with
    | .ok d S' => ∀ v H' F' m', RelB c g.G F' m' S' H' → Ext g.F g.m F' m' → Rep c F' m' d v → Q v H'
    | .exc x S' => ∀ cls dd H' F' m', RelB c g.G F' m' S' H' → Ext g.F g.m F' m' → ExnR c x cls dd H' → E cls dd H'
    | .bad => False) := h
  unfold runD at h
  rw [if_pos (hl.trans hnp.symm), hns] at h
  refine ⟨{ g with ρ := (ds.map fun d => some (.fz d)) ++ List.replicate (N.length - ds.length) none }, start_rel R rs, ?_⟩
  revert h
  show _ → After2 c _ _ (d.body (T.prm (callT T k)) ((ds.map fun d => some (.fz d)) ++ List.replicate (N.length - ds.length) none) g.S) _
  cases d.body (T.prm (callT T k)) ((ds.map fun d => some (.fz d)) ++ List.replicate (N.length - ds.length) none) g.S with
  | bad => exact fun z => z.elim
  | exc y ρ S =>
    intro h g' σ' H' cls dd e1 e2 x1 R1 r
    have hG : g'.G = g.G := x1.pr
    refine h cls dd H' g'.F g'.m ?_ x1.e r
    rw [← hG, ← e2]; exact R1.b
  | ok fl ρ S =>
    cases fl with
    | nx =>
      intro h g' σ' H' e1 e2 x1 R1
      have hG : g'.G = g.G := x1.pr
      refine h .non H' g'.F g'.m ?_ x1.e (by simp [Rep])
      rw [← hG, ← e2]; exact R1.b
    | rt v =>
      intro h g' σ' H' e1 e2 x1 R1 u r
      have hG : g'.G = g.G := x1.pr
      refine h u H' g'.F g'.m ?_ x1.e r
      rw [← hG, ← e2]; exact R1.b
    | br => exact fun z => z.elim
    | ct => exact fun z => z.elim
end
end Ev

set_option Elab.async false
set_option linter.all false
set_option autoImplicit false
set_option maxRecDepth 100000
/-! EvT: the forms by name, over one ground. -/
namespace Ev
open PySem PySem.Spec PyProof.Rows L2
/-- the ground of a walk -/
structure Bg (X : Cx) (c : Kx) (W : WX) (k : Nat) (ht : Bool := false) : Prop where
  hK : X.K = c.K
  hw : X.w = c.w
  hr : ht = false → Room k X.A
  hh : L2H.RoomH k X.A
  hg : X.A.guards = some []
  hN : X.N.Nodup
  tk : Takes X W
  hc : ht = false → X.calm = true
theorem Bg.hu {X : Cx} {c : Kx} {W : WX} {k : Nat} {ht : Bool} (B : Bg X c W k ht) : X.A.units + 65 < cLine := by have := B.hh.un; omega
theorem takes_blk {X : Cx} : Takes X W0 := fun u s' x => by
  obtain ⟨_, _, _, _, _, _, _, _, _, _, _, _, _, _, _, _, z⟩ := x
  exact z.elim
theorem Bg.blk {X : Cx} {c : Kx} {W : WX} {k : Nat} {ht : Bool} (B : Bg X c W k ht) {s : Shared} {H : Hp} {scope : Scope} {cenv : PySem.Env} {fp : List Addr} : Bg (X.blk s H scope cenv fp) c W0 k ht :=
  ⟨B.hK, B.hw, B.hr, B.hh, B.hg, B.hN, takes_blk, B.hc⟩
theorem Bg.tr {X : Cx} {c : Kx} {W W' : WX} {k : Nat} (B : Bg X c W k) {pn : List (Addr × Obj)} {xe : Value → Shared → Prop} (tk : Takes (X.tr pn xe) W') : Bg (X.tr pn xe) c W' k :=
  ⟨B.hK, B.hw, B.hr, B.hh, B.hg, B.hN, tk, B.hc⟩
theorem bg_of {P : PySem.Program} {w : World} {K : PySem.W.Frag} {mg : Str → Option Value} {base : Heap} {N : List Str} {qual : Str} {scope : Scope} {f : Addr} {cdv : Value} {A : Around} {outer : List PySem.Env} {s : Shared} {H : Hp} {E : XK} {k : Nat} {ca : Nat → Option Addr}
    (hr : Room k (A.deeper (envOfC qual scope s.heap.objs.size f cdv))) (hg : (A.deeper (envOfC qual scope s.heap.objs.size f cdv)).guards = some []) (hN : N.Nodup) :
    Bg (cxOf (L2.CX P w) P w K mg base N qual scope f cdv A outer s H E) ⟨K, w, ca⟩ (fun cls d _ H => E cls d H) k :=
  ⟨rfl, rfl, fun _ => hr, L2H.roomH_of hr, hg, hN, takes_of rfl rfl rfl rfl, fun _ => rfl⟩
def visB (sc : Scope) (x : Str) : Bool := (sc.names.lookup x == some .local || (sc.names.lookup x == some .cell || sc.names.lookup x == some .free)) && (!(x == ("__debug__" : Str)) && !(x == ("__classdict__" : Str)))
theorem nk_eq {a b : Option NameKind} (h : (a == b) = true) : a = b := by
  cases a <;> cases b <;> first | rfl | (rename_i p; cases p <;> cases h) | (rename_i p q; cases p <;> cases q <;> first | rfl | cases h)
theorem vis_of {sc : Scope} {x : Str} (h : visB sc x = true) : Vis sc x ∧ (x == ("__debug__" : Str)) = false ∧ (x == ("__classdict__" : Str)) = false := by
  unfold visB at h
  simp only [Bool.and_eq_true, Bool.or_eq_true, Bool.not_eq_true'] at h
  obtain ⟨h1, h2, h3⟩ := h
  refine ⟨?_, h2, h3⟩
  rcases h1 with h1 | h1 | h1
  · exact .inl (nk_eq h1)
  · exact .inr (.inl (nk_eq h1))
  · exact .inr (.inr (nk_eq h1))
def locB (sc : Scope) (x : Str) : Bool := sc.names.lookup x == some .local || sc.names.lookup x == some .cell
theorem loc_of {sc : Scope} {x : Str} (h : locB sc x = true) : Loc sc x := by
  unfold locB at h
  simp only [Bool.or_eq_true] at h
  rcases h with h | h
  · exact .inl (nk_eq h)
  · exact .inr (nk_eq h)
def fnB (X : Cx) (x : Str) : Bool := X.fn x || X.env.scope.names.lookup x == some .local
theorem fn_of_ {X : Cx} {x : Str} (h : fnB X x = true) : X.fn x = true ∨ X.env.scope.names.lookup x = some .local := by
  unfold fnB at h
  simp only [Bool.or_eq_true] at h
  rcases h with h | h
  · exact .inl h
  · exact .inr (nk_eq h)
/-! ### meanings by name -/
def aNil : M (List D) := M.pure []
def aCons (m : M D) (ms : M (List D)) : M (List D) := M.bind m fun d => M.bind ms fun ds => M.pure (d :: ds)
def xTup (ms : M (List D)) : M D := M.bind ms fun ds => if ds.length ≤ SZ then M.pure (.tup ds) else M.bad
def fLst (ms : M (List D)) : M (List D) := M.bind ms fun ds => if ds.length ≤ SZ then M.pure ds else M.bad
def xFz (ms : M (List D)) : M D := M.bind ms fun xs => M.pure (.lst xs)
def xBin (o : Bop) (ma mb : M D) : M D := M.bind ma fun x => M.bind mb fun y => M.of (bop o x y)
def fAdd (ma mb : M D) : M (List D) := M.bind (xBin .add ma mb) asLst
def fMul (ma mb : M D) : M (List D) := M.bind (xBin .mul ma mb) asLst
def fList (m : M D) : M (List D) := M.bind m mLst
def negD (d : D) : M D := match d with | .int i => M.pure (.int (-i)) | _ => M.bad
def xNeg (ma : M D) : M D := M.bind ma fun x => match x with | .int i => M.pure (.int (-i)) | _ => M.bad
def xCmp (o : Cop) (ma mb : M D) : M D := M.bind ma fun x => M.bind mb fun y => M.bind (M.of (cop o x y)) fun l => M.pure (.bl l)
def xIdx (ma mb : M D) : M D := M.bind ma fun x => M.bind mb fun k => mIdx x k
def xBi (b : Bi) (ms : M (List D)) : M D := M.bind ms fun ds => M.of (bip shownD b ds)
def xLen (m : M D) : M D := M.bind m fun x => M.of (bip shownD .len [x])
def xIsi (m : M D) (T : Ty) : M D := M.bind m fun x => M.bind (M.of (isTy T x)) fun k => M.pure (.bl k)
def xCall (P : Prm) (n np : Nat) (ms : M (List D)) : M D := M.bind ms fun ds => if ds.length = np then mCall P n ds else M.bad
def xMtg (mt : Mt) (d : D) (ms : M (List D)) : M D := M.bind ms fun ds => M.of (mtp mt d ds)
section
variable {X : Cx} {c : Kx} {W : WX} {k : Nat} {pos p : Pos} {a b d e : Expr} {es : List Expr} {ma mb mc md m : M D} {ms : M (List D)}
theorem k_var {ht : Bool} (B : Bg X c W k ht) (i : Nat) {x : Str} (hN : X.N[i]? = some x) (hv : visB X.env.scope x = true) : PE X (.Name x pos) (tM c W (mVar i)) := ok_var hN (vis_of hv).1 (vis_of hv).2.1 (vis_of hv).2.2
theorem k_bvar {ht : Bool} (B : Bg X c W k ht) (i : Nat) {x : Str} (hN : X.N[i]? = some x) (hv : visB X.env.scope x = true) : PE X (.Name x pos) (tBo c W (mBor i)) := ok_bvar hN (vis_of hv).1 (vis_of hv).2.1 (vis_of hv).2.2
theorem k_svar {ht : Bool} (B : Bg X c W k ht) (i : Nat) {x : Str} (hN : X.N[i]? = some x) (hv : visB X.env.scope x = true) : PE X (.Name x pos) (tSi c W (mVar i)) := ok_svar hN (vis_of hv).1 (vis_of hv).2.1 (vis_of hv).2.2
theorem k_str {x : Str} {j : Nat} (l : Txt) (h : x.cps.toList = l) : PE X (.Constant (.str x) j pos) (tM c W (M.pure (.str l))) := by subst h; exact ok_str
theorem k_sstr {x : Str} {j : Nat} (l : Txt) (h : x.cps.toList = l) : PE X (.Constant (.str x) j pos) (tSi c W (M.pure (.str l))) := by subst h; exact ok_scst pe_str fun _ _ => by simp [Rep, toStr]
theorem k_sint {i : Int} {j : Nat} : PE X (.Constant (.int i) j pos) (tSi c W (M.pure (.int i))) := ok_scst pe_int fun _ _ => by simp [Rep]
theorem k_snon {j : Nat} : PE X (.Constant .none j pos) (tSi c W (M.pure .non)) := ok_scst pe_non fun _ _ => by simp [Rep]
theorem k_sbl {v : Bool} {j : Nat} : PE X (.Constant (.bool v) j pos) (tSi c W (M.pure (.bl v))) := ok_scst pe_bl fun _ _ => by simp [Rep]
/-- a module's constant -/
structure Gc (mg : Str → Option Value) (c : Kx) (x : Str) (dv : D) : Prop where
  g : ∃ u v, mg x = some u ∧ RelV v u ∧ ∀ F m, Rep c F m dv v
theorem Gc.pe {x : Str} {dv : D} (G : Gc X.mg c x dv) (hg : Gl X x) (hd : (x == ("__debug__" : Str)) = false) : ∃ v, PE X (.Name x pos) (tC v) ∧ ∀ F m, Rep c F m dv v := by
  obtain ⟨u, v, h1, h2, h3⟩ := G.g
  exact ⟨v, ⟨fun pins s σ H Q I q => ld_glob I hg h1 ⟨v, H, I, h2, q⟩ hd⟩, h3⟩
theorem k_glo {x : Str} {dv : D} (G : Gc X.mg c x dv) (hg : Gl X x) (hd : (x == ("__debug__" : Str)) = false) : PE X (.Name x pos) (tM c W (M.pure dv)) := by
  obtain ⟨v, h, r⟩ := G.pe hg hd
  exact ok_cst h r
theorem k_sglo {x : Str} {dv : D} (G : Gc X.mg c x dv) (hg : Gl X x) (hd : (x == ("__debug__" : Str)) = false) : PE X (.Name x pos) (tSi c W (M.pure dv)) := by
  obtain ⟨v, h, r⟩ := G.pe hg hd
  exact ok_scst h r
theorem k_nil : PA X [] (tA c W aNil) := ok_nil
theorem k_cons (ha : PE X e (tM c W m)) (hr : PA X es (tA c W ms)) (hs : starEach (e :: es) X.env = (false, eval e X.env) :: starEach es X.env) : PA X (e :: es) (tA c W (aCons m ms)) := ok_cons ha hr hs
theorem kk_nil : PK X [] (tA c W aNil) := okk_nil
theorem kk_cons {kws : List Keyword} {nm : Option Str} {kpos : Pos} (ha : PE X e (tM c W m)) (hr : PK X kws (tA c W ms)) : PK X (⟨nm, e, kpos⟩ :: kws) (tA c W (aCons m ms)) := okk_cons ha hr
theorem k_tup {j : Nat} (h : PA X es (tA c W ms)) : PE X (.Tuple es j pos) (tM c W (xTup ms)) := ok_tup h
theorem kF_lst (h : PA X es (tA c W ms)) : PE X (.List es pos) (tF c W (fLst ms)) := okF_lst h
theorem k_fz (h : PE X e (tF c W ms)) : PE X e (tM c W (xFz ms)) := ok_ofF h
theorem k_bin {ht : Bool} (B : Bg X c W k ht) (o : Bop) (ha : PE X a (tM c W ma)) (hb : PE X b (tM c W mb)) : PE X (.BinOp a (bopOf o) b pos) (tM c W (xBin o ma mb)) := ok_bin B.hK ha hb
theorem kF_add {ht : Bool} (B : Bg X c W k ht) (ha : PE X a (tM c W ma)) (hb : PE X b (tM c W mb)) : PE X (.BinOp a .Add b pos) (tF c W (fAdd ma mb)) := okF_add B.hK ha hb
theorem kF_mul {ht : Bool} (B : Bg X c W k ht) (ha : PE X a (tM c W ma)) (hb : PE X b (tM c W mb)) : PE X (.BinOp a .Mult b pos) (tF c W (fMul ma mb)) := okF_mul B.hK ha hb
theorem k_neg (ha : PE X a (tM c W ma)) : PE X (.UnaryOp .USub a pos) (tM c W (xNeg ma)) := ok_neg ha
theorem k_sneg {i : Int} {j : Nat} {p1 : Pos} : PE X (.UnaryOp .USub (.Constant (.int i) j p1) pos) (tSi c W (xNeg (M.pure (.int i)))) := ok_sneg
theorem k_cmp {ht : Bool} (B : Bg X c W k ht) (o : Cop) (ha : PE X a (tM c W ma)) (hb : PE X b (tBo c W mb)) (hm : behindInMarks (copOf o) b = false) : PE X (.Compare a [copOf o] [b] pos) (tM c W (xCmp o ma mb)) := ok_cmp B.hK B.hw B.hu o ha hb hm
theorem k_cmp2 {ht : Bool} (B : Bg X c W k ht) (o : Cop) (ha : PE X a (tBo c W ma)) (hb : PE X b (tSi c W mb)) (hm : behindInMarks (copOf o) b = false) : PE X (.Compare a [copOf o] [b] pos) (tM c W (xCmp o ma mb)) := ok_cmp2 B.hK B.hw B.hu o ha hb hm
theorem kT_cmp {ht : Bool} (B : Bg X c W k ht) (o : Cop) (ha : PE X a (tM c W ma)) (hb : PE X b (tBo c W mb)) (hm : behindInMarks (copOf o) b = false) : PT X (.Compare a [copOf o] [b] pos) (tB c W (mT (xCmp o ma mb))) := okT_cmp B.hK B.hw B.hu o ha hb hm
theorem kT_cmp2 {ht : Bool} (B : Bg X c W k ht) (o : Cop) (ha : PE X a (tBo c W ma)) (hb : PE X b (tSi c W mb)) (hm : behindInMarks (copOf o) b = false) : PT X (.Compare a [copOf o] [b] pos) (tB c W (mT (xCmp o ma mb))) := okT_cmp2 B.hK B.hw B.hu o ha hb hm
theorem k_chn {ht : Bool} (B : Bg X c W k ht) (o q : Cop) (ha : PE X a (tM c W ma)) (hb : PE X b (tM c W mb)) (hd : PE X d (tM c W mc)) (hm : lastMarks [copOf o, copOf q] [b, d] = false) : PE X (.Compare a [copOf o, copOf q] [b, d] pos) (tM c W (mChn o q ma mb mc)) := ok_chn B.hK B.hw B.hu o q ha hb hd hm
theorem kT_chn {ht : Bool} (B : Bg X c W k ht) (o q : Cop) (ha : PE X a (tM c W ma)) (hb : PE X b (tM c W mb)) (hd : PE X d (tM c W mc)) (hm : lastMarks [copOf o, copOf q] [b, d] = false) : PT X (.Compare a [copOf o, copOf q] [b, d] pos) (tB c W (mT (mChn o q ma mb mc))) := okT_chn B.hK B.hw B.hu o q ha hb hd hm
theorem kT_of {ht : Bool} (B : Bg X c W k ht) (ha : PE X a (tM c W ma)) (he : ∀ whole, isTrue a X.env whole = (do let v ← whole; standAt a.pos; holding [v] (truthy v))) : PT X a (tB c W (mT ma)) := okT_truth B.hK ha he
theorem k_not {ht : Bool} (B : Bg X c W k ht) (ha : PE X a (tM c W ma)) : PE X (.UnaryOp .Not a pos) (tM c W (mNot ma)) := ok_not B.hK ha
theorem kT_not (ha : PT X a (tB c W (mT ma))) : PT X (.UnaryOp .Not a pos) (tB c W (mT (mNot ma))) := okT_not ha
theorem k_and {ht : Bool} (B : Bg X c W k ht) {rest : List Expr} (ha : PE X a (tM c W ma)) (hb : PE X (.BoolOp .And (b :: rest) pos) (tM c W mb)) : PE X (.BoolOp .And (a :: b :: rest) pos) (tM c W (mAnd ma mb)) := ok_and B.hK ha hb
theorem k_or {ht : Bool} (B : Bg X c W k ht) {rest : List Expr} (ha : PE X a (tM c W ma)) (hb : PE X (.BoolOp .Or (b :: rest) pos) (tM c W mb)) : PE X (.BoolOp .Or (a :: b :: rest) pos) (tM c W (mOr ma mb)) := ok_or B.hK ha hb
theorem k_idx {ht : Bool} (B : Bg X c W k ht) (ha : PE X a (tM c W ma)) (hb : PE X b (tM c W mb)) (hs : PlainIx b) : PE X (.Subscript a b pos) (tM c W (xIdx ma mb)) := ok_idx B.hK B.hw ha hb hs
theorem k_idx2 {ht : Bool} (B : Bg X c W k ht) (ha : PE X a (tBo c W ma)) (hb : PE X b (tSi c W mb)) (hs : PlainIx b) : PE X (.Subscript a b pos) (tM c W (xIdx ma mb)) := ok_idx2 B.hK B.hw ha hb hs
theorem k_bi (B : Bg X c W k) (bi : Bi) {x : Str} {id : String} (hv : biVal bi = .builtin id) (hm : X.mg x = none) (hb : bootBuiltins x = some (.builtin id)) (ha : PA X (e :: es) (tA c W ms)) (hg : Gl X x) (hn : x ≠ "__name__") (hdb : (x == ("__debug__" : Str)) = false)
    (he : starEach (e :: es) X.env = (false, eval e X.env) :: starEach es X.env) (hpl : (backTo pos (starEach es X.env)).any (·.1) = false) : PE X (.Call (.Name x p) (e :: es) [] pos) (tM c W (xBi bi ms)) := ok_bi bi hv B.hK (B.hc rfl) B.hg B.hu hg hm hb hn hdb ha he hpl
theorem k_biT (B : Bg X c W k) (bi : Bi) {x : Str} {id : String} (hv : biVal bi = .type id) (hm : X.mg x = none) (hb : bootBuiltins x = some (.type id)) (ha : PA X (e :: es) (tA c W ms)) (hg : Gl X x) (hn : x ≠ "__name__") (hdb : (x == ("__debug__" : Str)) = false)
    (he : starEach (e :: es) X.env = (false, eval e X.env) :: starEach es X.env) (hpl : (backTo pos (starEach es X.env)).any (·.1) = false) : PE X (.Call (.Name x p) (e :: es) [] pos) (tM c W (xBi bi ms)) := ok_biT bi hv B.hK (B.hc rfl) B.hg B.hu hg hm hb hn hdb ha he hpl
theorem k_len {ht : Bool} (B : Bg X c W k ht) {x : Str} (hm : X.mg x = none) (hb : bootBuiltins x = some (.builtin "len")) (ha : PE X e (tBo c W m)) (hg : Gl X x) (hn : x ≠ "__name__") (hdb : (x == ("__debug__" : Str)) = false)
    (he : starEach [e] X.env = (false, eval e X.env) :: starEach [] X.env) (hpl : (backTo pos (starEach [] X.env)).any (·.1) = false) : PE X (.Call (.Name x p) [e] [] pos) (tM c W (xLen m)) := ok_len B.hK hg hm hb hn hdb ha he hpl
theorem kF_list {ht : Bool} (B : Bg X c W k ht) {x : Str} (hm : X.mg x = none) (hb : bootBuiltins x = some (.type "list")) (ha : PE X e (tM c W m)) (hg : Gl X x) (hn : x ≠ "__name__") (hdb : (x == ("__debug__" : Str)) = false)
    (he : starEach [e] X.env = (false, eval e X.env) :: starEach [] X.env) (hpl : (backTo pos (starEach [] X.env)).any (·.1) = false) : PE X (.Call (.Name x p) [e] [] pos) (tF c W (fList m)) := okF_list B.hK hg hm hb hn hdb ha he hpl
theorem k_isi {ht : Bool} (B : Bg X c W k ht) (T : Ty) {x y : Str} {p3 : Pos} (hm : X.mg x = none) (hb : bootBuiltins x = some (.builtin "isinstance")) (hm2 : X.mg y = none) (hb2 : bootBuiltins y = some (.type (tyNm T))) (ha : PE X e (tBo c W m)) (hg : Gl X x) (hg2 : Gl X y) (hn : x ≠ "__name__") (hn2 : y ≠ "__name__")
    (hdb : (x == ("__debug__" : Str)) = false) (hdb2 : (y == ("__debug__" : Str)) = false) (he : starEach [e, .Name y p3] X.env = (false, eval e X.env) :: starEach [.Name y p3] X.env) (hpl : (backTo pos (starEach [.Name y p3] X.env)).any (·.1) = false) :
    PE X (.Call (.Name x p) [e, .Name y p3] [] pos) (tM c W (xIsi m T)) := ok_isi T B.hK hg hm hb hn hdb hg2 hm2 hb2 hn2 hdb2 ha he hpl
end
end Ev

set_option Elab.async false
set_option linter.all false
set_option autoImplicit false
set_option maxRecDepth 100000
/-! EvU: calls, comprehensions, methods, statements by name. -/
namespace Ev
open PySem PySem.Spec PyProof.Rows L2
/-- what is known of a def at a depth -/
structure Fe (P : PySem.Program) (w : World) (K : PySem.W.Frag) (mg : Str → Option Value) (base : Heap) (c : Kx) (call : Call) (k : Nat) (x : Str) (nf : Nat) (ps : List Str) (B : FuncData → Prop) : Prop where
  e : ∃ f fd, mg x = some (.ref f) ∧ PySem.W.keepIn K (.ref f) = true ∧ FnG P w K mg base k f fd ps (spF c call nf ps.length) ∧ B fd
section
variable {X : Cx} {c : Kx} {W : WX} {k : Nat} {pos p : Pos} {a b d e : Expr} {es : List Expr} {ma mb mc md m : M D} {ms mk : M (List D)} {P : Prm} {nf : Nat} {ps : List Str} {x : Str}
theorem k_call (B : Bg X c W k) (F : Fe X.prog X.w X.K X.mg X.base c P.call k x nf ps (fun fd => Binds X.K fd ps [])) (ha : PA X (e :: es) (tA c W ms)) (hg : Gl X x) (hdb : (x == ("__debug__" : Str)) = false)
    (he : starEach (e :: es) X.env = (false, eval e X.env) :: starEach es X.env) (hpl : (backTo pos (starEach es X.env)).any (·.1) = false) : PE X (.Call (.Name x p) (e :: es) [] pos) (tM c W (xCall P nf ps.length ms)) := by
  obtain ⟨f, fd, hm, hk, G, hb⟩ := F.e
  refine PE.weak (pe_callG G (B.hr rfl) B.hg B.tk hg hm hk hb ha hdb he hpl) fun σ H Q ⟨g, R, h⟩ => ⟨g, R, (After.bind h).imp fun ds g1 H1 x1 R1 q vs rs => ?_⟩
  by_cases z : ds.length = ps.length
  · rw [if_pos z] at q
    exact call_read R1 rs z q
  · rw [if_neg z] at q; exact q.elim
theorem k_callk (B : Bg X c W k) {n : Nat} {ks : List Str} {src : List (Sum Nat D)} {kws : List Keyword} (F : Fe X.prog X.w X.K X.mg X.base c P.call k x nf ps (fun fd => KSrc X.K fd ps n ks src)) (ha : PA X (e :: es) (tA c W ms)) (hkw : PK X kws (tA c W mk)) (hg : Gl X x)
    (hall : (backToKw pos (keywordEach kws X.env)).all (·.1.isSome) = true) (hks : (backToKw pos (keywordEach kws X.env)).filterMap (·.1) = ks) (hdb : (x == ("__debug__" : Str)) = false)
    (he : starEach (e :: es) X.env = (false, eval e X.env) :: starEach es X.env) (hpl : ((backTo pos (starEach (e :: es) X.env)).any (·.1) || (backToKw pos (keywordEach kws X.env)).any (·.1.isNone)) = false) :
    PE X (.Call (.Name x p) (e :: es) kws pos) (tM c W (mCalk P nf n ks.length ms mk src)) := by
  obtain ⟨f, fd, hm, hk, G, hb⟩ := F.e
  exact ok_calk G (B.hr rfl) B.hg B.tk hg hm hk hb ha hkw hall hks hdb he hpl
theorem k_callk0 (B : Bg X c W k) {ks : List Str} {src : List (Sum Nat D)} {kws : List Keyword} (F : Fe X.prog X.w X.K X.mg X.base c P.call k x nf ps (fun fd => KSrc X.K fd ps 0 ks src)) (hkw : PK X kws (tA c W mk)) (hg : Gl X x)
    (hall : (backToKw pos (keywordEach kws X.env)).all (·.1.isSome) = true) (hks : (backToKw pos (keywordEach kws X.env)).filterMap (·.1) = ks) (hdb : (x == ("__debug__" : Str)) = false)
    (hpl : ((backTo pos (starEach [] X.env)).any (·.1) || (backToKw pos (keywordEach kws X.env)).any (·.1.isNone)) = false) :
    PE X (.Call (.Name x p) [] kws pos) (tM c W (mCalk P nf 0 ks.length aNil mk src)) := by
  obtain ⟨f, fd, hm, hk, G, hb⟩ := F.e
  exact ok_calk0 G (B.hr rfl) B.hg B.tk hg hm hk hb hkw hall hks hdb hpl
/-- the defaults fill up: as a call by names without names -/
theorem k_callp (B : Bg X c W k) {n : Nat} {src : List (Sum Nat D)} (F : Fe X.prog X.w X.K X.mg X.base c P.call k x nf ps (fun fd => KSrc X.K fd ps n [] src)) (ha : PA X (e :: es) (tA c W ms)) (hg : Gl X x) (hdb : (x == ("__debug__" : Str)) = false)
    (he : starEach (e :: es) X.env = (false, eval e X.env) :: starEach es X.env) (hpl : ((backTo pos (starEach (e :: es) X.env)).any (·.1) || (backToKw pos (keywordEach [] X.env)).any (·.1.isNone)) = false) :
    PE X (.Call (.Name x p) (e :: es) [] pos) (tM c W (mCalk P nf n 0 ms aNil src)) := by
  obtain ⟨f, fd, hm, hk, G, hb⟩ := F.e
  exact ok_calk (ks := []) G (B.hr rfl) B.hg B.tk hg hm hk hb ha okk_nil rfl rfl hdb he hpl
def mJoinT (m : M D) (ms : M (List D)) : M D := mMt .join (tyIs .str) m ms
theorem k_join {ht : Bool} (B : Bg X c W k ht) {apos cpos : Pos} (ho : PE X a (tM c W m)) (ha : PA X (e :: es) (tA c W ms)) (hbase : attributeBase a "join" X.env (eval a X.env) = eval a X.env)
    (hfew : ((backTo cpos (starEach (e :: es) X.env)).all (fun x => !x.1) && (backToKw cpos (keywordEach [] X.env)).all (fun x => x.1.isSome) && decide ((e :: es).length + ([] : List Keyword).length + (if ([] : List Keyword).isEmpty then 0 else 1) < 30)) = true)
    (hline : (apos.endLine == cpos.line) = true) (hs : starEach (e :: es) X.env = (false, eval e X.env) :: starEach es X.env) (hplain : (backTo cpos (starEach es X.env)).any (·.1) = false) :
    PE X (.Call (.Attribute a "join" apos) (e :: es) [] cpos) (tM c W (mJoinT m ms)) :=
  ok_mt .join .str B.hK PySem.F.plainAttrs_str PySem.F.slot_str_join PySem.F.type_str_join (mt_ok_join B.hK) ho ha hbase hfew hline hs hplain
/-- a written tuple's index -/
structure Gt (mg : Str → Option Value) (K : PySem.W.Frag) (c : Kx) (x : Str) (xs : List D) : Prop where
  g : ∃ p, mg x = some (.ref p) ∧ (∃ ob, K.lookup p = some ob ∧ ob.cls = .type "tuple" ∧ ob.dict = none) ∧ ∀ F m, Rep c F m (.tup xs) (.ref p)
theorem k_tindex {ht : Bool} (B : Bg X c W k ht) {xs : List D} {apos cpos p1 : Pos} (G : Gt X.mg X.K c x xs) (ha : PA X (e :: es) (tA c W ms)) (hg : Gl X x) (hd : (x == ("__debug__" : Str)) = false) (hbase : attributeBase (.Name x p1) "index" X.env (eval (.Name x p1) X.env) = eval (.Name x p1) X.env)
    (hfew : ((backTo cpos (starEach (e :: es) X.env)).all (fun x => !x.1) && (backToKw cpos (keywordEach [] X.env)).all (fun x => x.1.isSome) && decide ((e :: es).length + ([] : List Keyword).length + (if ([] : List Keyword).isEmpty then 0 else 1) < 30)) = true)
    (hline : (apos.endLine == cpos.line) = true) (hs : starEach (e :: es) X.env = (false, eval e X.env) :: starEach es X.env) (hplain : (backTo cpos (starEach es X.env)).any (·.1) = false) :
    PE X (.Call (.Attribute (.Name x p1) "index" apos) (e :: es) [] cpos) (tM c W (xMtg .index (.tup xs) ms)) := by
  obtain ⟨p, hm, hp, hr⟩ := G.g
  have ho : PE X (.Name x p1) (tC (.ref p)) := ⟨fun pins s σ H Q I q => ld_glob I hg hm ⟨.ref p, H, I, rfl, q⟩ hd⟩
  exact ok_mtg .index B.hK PySem.F.plainAttrs_tuple PySem.F.slot_tuple_index PySem.F.type_tuple_index (mt_ok_tindex B.hK) ho hp hr ha hbase hfew hline hs hplain
theorem k_slc {ht : Bool} (B : Bg X c W k ht) {lo hi : Option Expr} {ml mh : M (Option Int)} {p2 : Pos} (ha : PE X a (tM c W ma)) (hl : PO X lo (tO c W ml)) (hh : PO X hi (tO c W mh)) : PE X (.Subscript a (.Slice lo hi none p2) pos) (tM c W (mSlc ma ml mh)) := ok_slc B.hK ha hl hh
theorem k_slc2 {ht : Bool} (B : Bg X c W k ht) {lo hi : Option Expr} {ml mh : M (Option Int)} {p2 : Pos} (ha : PE X a (tBo c W ma)) (hl : PO X lo (tOs c W ml)) (hh : PO X hi (tOs c W mh)) : PE X (.Subscript a (.Slice lo hi none p2) pos) (tM c W (mSlc ma ml mh)) := ok_slc2 B.hK ha hl hh
/-- an own class: raised with a text -/
structure Ge (mg : Str → Option Value) (K : PySem.W.Frag) (c : Kx) (x : Str) (n : Nat) : Prop where
  n0 : n ≠ 0
  g : ∃ C, mg x = some (.ref C) ∧ c.ca n = some C ∧ PySem.W.excIn K C He.veBase "ValueError.__new__" = true ∧ PySem.W.keepIn K (.ref C) = true ∧ PySem.W.subIn K (.ref C) (.type "BaseException") = some true ∧ PySem.W.typeIn K (.ref C) = some (.type "type")
theorem k_raise (B : Bg X c W k) {n : Nat} {m : Str} {j : Nat} {p2 pos' : Pos} (G : Ge X.mg X.K c x n) (hg : Gl X x) (hdb : (x == ("__debug__" : Str)) = false) : PS X (.Raise (some (.Call (.Name x p) [.Constant (.str m) j p2] [] pos)) none pos') (tS c W (sRai n)) := by
  obtain ⟨C, h1, h2, h3, h4, h5, h6⟩ := G.g
  exact os_raise (B.hc rfl) B.tk G.n0 h2 (pmk_own PySem.F.excBase_ValueError h3 h1 h4 (raises_own h5 h6) hg hdb)
/-- a clause's class -/
structure Gh (mg : Str → Option Value) (K : PySem.W.Frag) (c : Kx) (x : Str) (sb : Nat → Bool) : Prop where
  g : ∃ C, mg x = some (.ref C) ∧ ∀ n C', n ≠ 0 → c.ca n = some C' → PySem.W.exmOne K (.ref C') (.ref C) = some (sb n)
theorem k_try (B : Bg X c W k) {body suite : List Stmt} {b₀ : Stmt} {np pos' : Pos} {b h : M Flow} (sb : Nat → Bool) (G : Gh X.mg X.K c x sb) (hg : Gl X x) (hdb : (x == ("__debug__" : Str)) = false) (hs : X.stack = X.env :: X.outer) (hf : X.env.frame = some X.env.locals)
    (hb : ∀ (W : WX) (pn : List (Addr × Obj)) (xe : Value → Shared → Prop), Bg (X.tr pn xe) c W k → PassesOwn (model X.prog X.w) (X.tr pn xe).A (X.tr pn xe).env (X.tr pn xe).xe → PSs (X.tr pn xe) body (tS c W b))
    (hsu : ∀ (a : Addr) (oe : Obj) (pn : List (Addr × Obj)), PSs (X.suite a ((a, oe) :: pn)) (b₀ :: suite) (tS c W0 h)) :
    PS X (.Try body [.ExceptHandler (some (.Name x np)) none (b₀ :: suite) pos'] [] [] pos) (tS c W (sTry b sb h)) := by
  obtain ⟨C, h1, h2⟩ := G.g
  exact os_try hs hf ⟨hg, hdb, .inl h1⟩ B.tk h2 (fun W pn xe tk hp => hb W pn xe (B.tr tk) hp) hsu
theorem k_for (B : Bg X c W k) (hp : PassesOwn (model X.prog X.w) X.A X.env X.xe) {tg iter : Expr} {body : List Stmt} {mi : M (List D)} {f : D → M Unit} {b : M Flow} (hi : PI X tg iter (tI c W mi)) (hg : PG X tg (tG c W zAny f)) (hb : PSs X body (tS c W b)) (hs : ∀ x, foldedSetIterable iter X.env x = pure x) :
    PS X (.For tg iter body [] pos) (tS c W (sFor mi f b)) := os_for hp (B.hc rfl) hi hg hb hs
theorem g_name {ht : Bool} (B : Bg X c W k ht) {Z : St → St → Prop} (i : Nat) (hi : X.N[i]? = some x) (hl : locB X.env.scope x = true) (hf : fnB X x = true) (hz : ∀ σ v, Z σ (σ.set i (some v))) : PG X (.Name x pos) (tG c W Z (mSet i)) := og_name B.hN hi (loc_of hl) (fn_of_ hf) hz
theorem zAny_set (i : Nat) : ∀ (σ : St) (v : V), zAny σ (σ.set i (some v)) := fun _ _ => trivial
theorem g_unp (B : Bg X c W k) {Z : St → St → Prop} {f : List D → M Unit} {k' n : Nat} (h : PGs X es (tGs c W Z f)) (hn : (assignEach es X.env).length = n) (hst : (assignEach es X.env).findIdx? (·.1) = none) : PG X (.Tuple es k' pos) (tG c W Z (gUnp n f)) := og_unp B.hK (B.hc rfl) h hn hst
theorem g_star (B : Bg X c W k) {Z : St → St → Prop} {f h : D → M Unit} {kk : Nat} {p2 : Pos} (zr : Zr Z) (h1 : PG X a (tG c W Z f)) (h2 : PG X b (tG c W Z h)) (hn : (assignEach [a, .Starred b p2] X.env).length = 2) (hst : (assignEach [a, .Starred b p2] X.env).findIdx? (·.1) = some 1)
    (hs : (assignEach [a, .Starred b p2] X.env).map (·.2) = [assign a X.env, assign b X.env]) : PG X (.Tuple [a, .Starred b p2] kk pos) (tG c W Z (gStar f h)) := og_star B.hK (B.hc rfl) zr h1 h2 hn hst hs
theorem g_put {ht : Bool} (B : Bg X c W k ht) {Z : St → St → Prop} {o i : Expr} {mo mi : M D} (zr : Zr Z) (ho : PE X o (tM c W mo)) (hi : PE X i (tM c W mi))
    (ha : ∀ v, assign (.Subscript o i pos) X.env v = (do
      let ov ← holding [v] (eval o X.env)
      let iv ← holding [v, ov] (eval i X.env)
      standAt pos
      holding [v, ov, iv] (setItem ov iv v)
      release [v, ov, iv] [])) : PG X (.Subscript o i pos) (tG c W Z (gPut mo mi)) := og_put B.hK ho hi zr ha
theorem k_own {ht : Bool} (B : Bg X c W k ht) {pos' : Pos} (i : Nat) (hi : X.N[i]? = some x) (hl : locB X.env.scope x = true) (hf : fnB X x = true) (he : PE X e (tF c W ms)) (hs : swapsWith e (some (.Name x pos')) pos.line X.env = pure false) : PS X (.Assign [.Name x pos'] e pos) (tS c W (sOwn i ms)) := os_own B.hN hi (loc_of hl) he hs (fn_of_ hf)
theorem k_app {ht : Bool} (B : Bg X c W k ht) {apos cpos : Pos} (i : Nat) (hi : X.N[i]? = some x) (hv : visB X.env.scope x = true) (he : PE X e (tM c W m)) (hbase : attributeBase (.Name x p) "append" X.env (eval (.Name x p) X.env) = eval (.Name x p) X.env)
    (hfew : ((backTo cpos (starEach [e] X.env)).all (fun x => !x.1) && (backToKw cpos (keywordEach [] X.env)).all (fun x => x.1.isSome)
      && decide (([e] : List Expr).length + ([] : List Keyword).length + (if ([] : List Keyword).isEmpty then 0 else 1) < 30)) = true)
    (hline : (apos.endLine == cpos.line) = true) (hs : starEach [e] X.env = (false, eval e X.env) :: starEach [] X.env) (hsw : swapsWith (.Call (.Attribute (.Name x p) "append" apos) [e] [] cpos) none pos.line X.env = pure false) :
    PS X (.Expr (.Call (.Attribute (.Name x p) "append" apos) [e] [] cpos) pos) (tS c W (sApp i m)) := os_app B.hK hi (vis_of hv).1 (vis_of hv).2.1 (vis_of hv).2.2 he hbase hfew hline hs hsw
end
end Ev

set_option Elab.async false
set_option linter.all false
set_option autoImplicit false
set_option maxRecDepth 100000
/-! EvV: comprehensions by name. -/
namespace Ev
open PySem PySem.Spec PyProof.Rows L2
section
variable {X : Cx} {c : Kx} {W : WX} {k : Nat} {elt tg iter : Expr} {ifs : List Expr} {scope : Scope} {own : List (Str × Nat)} {vs : List Nat} {pos : Pos} {mi : M (List D)} {f : D → M Unit} {mt : M Bool} {me : M D}
theorem kF_comp (B : Bg X c W k) (hi : PI X tg iter (tI c W mi)) (ok : BlkOk X.N X.env.scope scope own) (hvs : own.map (·.2) = vs)
    (hg : ∀ (s : Shared) (H : Hp) (C : Addr) (cl : List (Str × Addr)) (fp : List Addr), Bg (X.blk s H scope (compEnvC scope cl C X.env) fp) c W0 k → PG (X.blk s H scope (compEnvC scope cl C X.env) fp) tg (tG c W0 (zOwn vs) f))
    (ht : ∀ (s : Shared) (H : Hp) (C : Addr) (cl : List (Str × Addr)) (fp : List Addr), Bg (X.blk s H scope (compEnvC scope cl C X.env) fp) c W0 k → PTs (X.blk s H scope (compEnvC scope cl C X.env) fp) ifs (tB c W0 mt))
    (he : ∀ (s : Shared) (H : Hp) (C : Addr) (cl : List (Str × Addr)) (fp : List Addr), Bg (X.blk s H scope (compEnvC scope cl C X.env) fp) c W0 k → PE (X.blk s H scope (compEnvC scope cl C X.env) fp) elt (tM c W0 me)) (hs : ∀ x, foldedSetIterable iter X.env x = pure x) :
    PE X (.ListComp elt [⟨tg, iter, ifs, 0⟩] scope pos) (tF c W (fComp mi vs f mt me)) :=
  okF_comp (B.hc rfl) B.hN hi ok hvs (fun s H C cl fp => hg s H C cl fp B.blk) (fun s H C cl fp => ht s H C cl fp B.blk) (fun s H C cl fp => he s H C cl fp B.blk) hs
theorem k_ownLc (B : Bg X c W k) (i : Nat) {y : Str} {py spos : Pos} (hy : X.N[i]? = some y) (hyl : X.env.scope.names.lookup y = some .local) (hsw : swapsWith (.ListComp elt [⟨tg, iter, ifs, 0⟩] scope pos) (some (.Name y py)) spos.line X.env = pure true)
    (hi : PI X tg iter (tI c W mi)) (ok : BlkOk X.N X.env.scope scope own) (hvs : own.map (·.2) = vs)
    (hg : ∀ (s : Shared) (H : Hp) (C : Addr) (cl : List (Str × Addr)) (fp : List Addr), Bg (X.blk s H scope (compEnvC scope cl C X.env) fp) c W0 k → PG (X.blk s H scope (compEnvC scope cl C X.env) fp) tg (tG c W0 (zOwn vs) f))
    (ht : ∀ (s : Shared) (H : Hp) (C : Addr) (cl : List (Str × Addr)) (fp : List Addr), Bg (X.blk s H scope (compEnvC scope cl C X.env) fp) c W0 k → PTs (X.blk s H scope (compEnvC scope cl C X.env) fp) ifs (tB c W0 mt))
    (he : ∀ (s : Shared) (H : Hp) (C : Addr) (cl : List (Str × Addr)) (fp : List Addr), Bg (X.blk s H scope (compEnvC scope cl C X.env) fp) c W0 k → PE (X.blk s H scope (compEnvC scope cl C X.env) fp) elt (tM c W0 me)) (hs : ∀ x, foldedSetIterable iter X.env x = pure x) :
    PS X (.Assign [.Name y py] (.ListComp elt [⟨tg, iter, ifs, 0⟩] scope pos) spos) (tS c W (sOwn i (fComp mi vs f mt me))) :=
  os_ownLc (B.hc rfl) B.hN hy hyl hsw hi ok hvs (fun s H C cl fp => hg s H C cl fp B.blk) (fun s H C cl fp => ht s H C cl fp B.blk) (fun s H C cl fp => he s H C cl fp B.blk) hs
theorem k_asgLc (B : Bg X c W k) (i : Nat) {y : Str} {py spos : Pos} (hy : X.N[i]? = some y) (hyl : X.env.scope.names.lookup y = some .local) (hsw : swapsWith (.ListComp elt [⟨tg, iter, ifs, 0⟩] scope pos) (some (.Name y py)) spos.line X.env = pure true)
    (hi : PI X tg iter (tI c W mi)) (ok : BlkOk X.N X.env.scope scope own) (hvs : own.map (·.2) = vs)
    (hg : ∀ (s : Shared) (H : Hp) (C : Addr) (cl : List (Str × Addr)) (fp : List Addr), Bg (X.blk s H scope (compEnvC scope cl C X.env) fp) c W0 k → PG (X.blk s H scope (compEnvC scope cl C X.env) fp) tg (tG c W0 (zOwn vs) f))
    (ht : ∀ (s : Shared) (H : Hp) (C : Addr) (cl : List (Str × Addr)) (fp : List Addr), Bg (X.blk s H scope (compEnvC scope cl C X.env) fp) c W0 k → PTs (X.blk s H scope (compEnvC scope cl C X.env) fp) ifs (tB c W0 mt))
    (he : ∀ (s : Shared) (H : Hp) (C : Addr) (cl : List (Str × Addr)) (fp : List Addr), Bg (X.blk s H scope (compEnvC scope cl C X.env) fp) c W0 k → PE (X.blk s H scope (compEnvC scope cl C X.env) fp) elt (tM c W0 me)) (hs : ∀ x, foldedSetIterable iter X.env x = pure x) :
    PS X (.Assign [.Name y py] (.ListComp elt [⟨tg, iter, ifs, 0⟩] scope pos) spos) (tS c W (sAsg (xFz (fComp mi vs f mt me)) (mSet i))) :=
  os_asgLc (B.hc rfl) B.hN hy hyl hsw hi ok hvs (fun s H C cl fp => hg s H C cl fp B.blk) (fun s H C cl fp => ht s H C cl fp B.blk) (fun s H C cl fp => he s H C cl fp B.blk) hs
end
end Ev

set_option Elab.async false
set_option linter.all false
set_option autoImplicit false
set_option maxRecDepth 100000
/-! EvW: a law's end: the promise of its def, at the heap behind the top. -/
namespace Ev
open PySem PySem.Spec PyProof.Rows L2
section
variable {P : PySem.Program} {w : World} {K : PySem.W.Frag} {mg mb : Str → Option Value} {k : Nat} {fa a : Addr} {fd : FuncData} {x : Str} {sp : Sp} {t : Shared} {us : List Value} {ns : List Int}
theorem lawG (kx : K.In t.heap) (g1 : t.heap.Ns mainGlobals mg) (g2 : t.heap.Ns builtinsNs mb) (g3 : ∀ y : Str, y ≠ "__name__" → mb y = bootBuiltins y) (g4 : t.heap.NoLimit) (g5 : t.gens = #[])
    (obj : t.heap.get? a = some { cls := .type "list", data := .seq us.toArray }) (hin : IntsAre us ns) (small : ns.length ≤ sizeLine) (room : Room k callerA)
    (F : ∀ b : Heap, K.In b → b.Ns mainGlobals mg → FnG P w K mg b k fa fd [x] sp) (bnd : ∀ (s : Shared) (u : Value), BindsTo s fd ⟨[u], []⟩ [(x, u)])
    (wish : ∀ H : Hp, Only H → SqL K H a (ns.map V.int) → sp [.ref a] H (fun v _ => v = .bl true) fun _ _ _ => False) :
    codeAny (model P w) callerA (.call (.ref fa) ⟨[.ref a], []⟩) (fun r s' => r = .ok (.ret (.bool true)) ∧ OldK t.heap s'.heap ∧ s'.os = t.os ∧ AllBare s'.gens) t := by
  have rv := vals_ints hin
  have inner : ∀ H : Hp, Only H → SqL K H a (ns.map V.int) → HOk P w H t.heap → (∀ b, H b ≠ none → b = a) → (H a ≠ none → K.lookup a = none) →
      codeAny (model P w) callerA (.call (.ref fa) ⟨[.ref a], []⟩) (fun r s' => r = .ok (.ret (.bool true)) ∧ OldK t.heap s'.heap ∧ s'.os = t.os ∧ AllBare s'.gens) t := by
    intro H only sq hok one out
    have untr : ∀ {b : Addr} {o : Obj}, t.heap.get? b = some o → (∀ es ep, o.data ≠ .seq es ep) → H b = none := fun {b o} e d => by
      cases q : H b with
      | none => rfl
      | some u =>
        have z := one b (by rw [q]; simp)
        rw [z, obj] at e
        cases e
        exact absurd rfl (d us.toArray _)
    have ns' : ∀ {b : Addr} {m : Str → Option Value}, t.heap.Ns b m → (hidT t.heap H).Ns b m := fun {b m} ⟨o, es, ep, e, d, r⟩ =>
      ⟨o, es, ep, hidT_get e (untr e fun _ _ z => by rw [d] at z; cases z), d, r⟩
    have kin : K.In (hidT t.heap H) := fun b o e => hidT_get (kx b o e) (by
      cases q : H b with
      | none => rfl
      | some u =>
        have z := one b (by rw [q]; simp)
        rw [z] at e q
        rw [out (by rw [q]; simp)] at e; cases e)
    have md : Mod K mg (hidT t.heap H) := ⟨kin, ns' g1, ⟨mb, ns' g2, g3⟩, let ⟨mc, q1, q2⟩ := g4; ⟨mc, ns' q1, q2⟩⟩
    have en : Env0 P w K mg (hidT t.heap H) callerA [] t H := ⟨rfl, md, fun b o e => of_hidT e, Nat.le_of_eq (hidT_size _ _), trivial, fun b hb => (List.not_mem_nil hb).elim, hok, .of_eq g5⟩
    refine codeAny_mono ((F _ kin (ns' g1)).run callerA [] t H ⟨[.ref a], []⟩ [.ref a] [.ref a] _ _ room rfl en (bnd t (.ref a)) (.cons rfl .nil) (wish H only sq)) fun r s' h => ?_
    cases r with
    | error e =>
      obtain ⟨_, _, _, _, _, _, _, _, _, _, _, _, z⟩ := h
      exact z.elim
    | ok fl =>
      cases fl with
      | next => exact h.elim
      | brk => exact h.elim
      | cont => exact h.elim
      | ret u =>
        obtain ⟨v, H', h1, h2, un, h3, h4, q⟩ := h
        have q : v = .bl true := q
        rw [q] at h4
        have e4 : u = Value.bool true := h4
        rw [e4]
        refine ⟨rfl, OldK.of_keep fun b o e => ?_, h1, h2⟩
        cases hb : H b with
        | none => exact un.keep b o e hb (fun z => (List.not_mem_nil z).elim) (fun z => (List.not_mem_nil z).elim)
        | some u =>
          rcases only b with z | ⟨ob, xs, z⟩
          · rw [hb] at z; cases z
          · have e1 := (hok b _ z).1
            have e2 := (h3 b _ (un.frzs b ob _ z)).1
            rw [e] at e1; cases e1
            exact e2
  cases hk : K.lookup a with
  | some o =>
    have e := kx a o hk
    rw [obj] at e
    cases e
    exact inner (fun _ => none) (fun _ => .inl rfl) (.inr ⟨_, us.toArray, _, hk, rfl, rfl, rfl, by rw [List.size_toArray, hin.length]; exact small, by simpa using rv⟩) (fun b u z => by cases z) (fun b z => (z rfl).elim) fun z => (z rfl).elim
  | none =>
    have at_ : ∀ b : Addr, b ≠ a → (if b = a then some (HO.frz { cls := .type "list", data := .seq us.toArray } (.lst (ns.map V.int))) else none) = none := fun b hb => if_neg hb
    refine inner (fun b => if b = a then some (.frz { cls := .type "list", data := .seq us.toArray } (.lst (ns.map V.int))) else none) (fun b => ?_) (.inl (.inr ⟨_, if_pos rfl⟩)) (fun b u z => ?_) (fun b z => ?_) fun _ => hk
    · by_cases hb : b = a
      · exact .inr ⟨_, _, if_pos hb⟩
      · exact .inl (at_ b hb)
    · by_cases hb : b = a
      · have z := (if_pos hb).symm.trans z
        cases z
        subst hb
        exact ⟨obj, by rw [List.length_map]; exact small, us, _, rv, obj⟩
      · have z := (at_ b hb).symm.trans z
        cases z
    · by_cases hb : b = a
      · exact hb
      · exact (z (at_ b hb)).elim
end
theorem endG {l : PySem.W.OpenLaw} {n k : Nat} {q : PySem.Program} {loose : List Str} {XP : (Str → Option Value) → Heap → Prop} {YP : World → Heap → Prop} {d : DefRec} {x : Str} (hn : l.most = some n) (hn2 : n ≤ sizeLine) (hdf : d.params.defaults = []) (room : Room k callerA)
    (F : ∀ (w : World) (mg : Str → Option Value) (fa : Addr) (h : Heap), YP w h → h.Ns mainGlobals mg → mg d.name = some (.ref fa) →
      ∃ (K : PySem.W.Frag) (fd : FuncData) (sp : Sp), K.In h ∧ (∀ (s : Shared) (u : Value), BindsTo s fd ⟨[u], []⟩ [(x, u)]) ∧
        (∀ (H : Hp) (a : Addr) (ns : List Int), ns.length ≤ n → (∀ z ∈ ns, Builtin.Int.intBits z ≤ 1048576) → Only H → SqL K H a (ns.map V.int) → sp [.ref a] H (fun v _ => v = .bl true) fun _ _ _ => False) ∧
        ∀ base : Heap, K.In base → base.Ns mainGlobals mg → FnG l.prog w K mg base k fa fd [x] sp) : PySem.W.WalkO q loose XP YP l.row.toRowW d [] (fun f vs => PySem.call f vs) := by
  refine Att.attach_callB hn hdf fun w s₀ s₁ mg mb fa o pm cd doc a vs ns G Y ho hd hcd hmg hobj hints hlen hbits hg => ?_
  obtain ⟨K, fd, sp, kx, hb, hsp, hF⟩ := F w mg fa _ Y G.T.g hmg
  exact lawG kx G.T.g G.T.b G.T.builtins G.T.nolimit hg hobj hints (Nat.le_trans hlen hn2) room hF hb fun H hO hS => hsp H a ns hlen hbits hO hS
end Ev

set_option Elab.async false
set_option linter.all false
set_option autoImplicit false
set_option maxRecDepth 100000
/-! EvX: the head: constants, classes, defs told by what is looked at. -/
namespace Ev
open PySem PySem.Spec PyProof.Rows L2
def flatV : D → V
  | .bl b => .bl b
  | .int i => .int i
  | .str x => .str (toStr x)
  | _ => .non
theorem rep_flat {c : Kx} {F : Hp} {m : List Addr} : ∀ {d : D}, d.flat = true → Rep c F m d (flatV d)
  | .non, _ => by simp [Rep, flatV]
  | .bl _, _ => by simp [Rep, flatV]
  | .int _, _ => by simp [Rep, flatV]
  | .str _, _ => by simp [Rep, flatV]
  | .tup _, h => by simp [D.flat] at h
  | .lst _, h => by simp [D.flat] at h
  | .dic _, h => by simp [D.flat] at h
  | .ref _, h => by simp [D.flat] at h
  | .scr _, h => by simp [D.flat] at h
theorem repL_flat {c : Kx} {F : Hp} {m : List Addr} : ∀ {ds : List D}, ds.all D.flat = true → RepL c F m ds (ds.map flatV)
  | [], _ => by simp [RepL]
  | d :: ds, h => by
    simp only [List.all_cons, Bool.and_eq_true] at h
    exact RepL.cons_ (rep_flat h.1) (repL_flat h.2)
/-- the module's name x is a tuple of these -/
def tupC (x : Str) (xs : List D) (K : PySem.W.Frag) : Bool := xs.all D.flat && match K.lookup (He.ga K x) with
  | some ⟨.type c, none, .seq its _, _⟩ => decide (c = "tuple") && (decide (its.size ≤ sizeLine) && He.relAll (xs.map flatV) its.toList)
  | _ => false
theorem tupC_ok {c : Kx} {x : Str} {xs : List D} (h : tupC x xs c.K = true) : (∃ ob, c.K.lookup (He.ga c.K x) = some ob ∧ ob.cls = .type "tuple" ∧ ob.dict = none) ∧ ∀ F m, Rep c F m (.tup xs) (.ref (He.ga c.K x)) := by
  unfold tupC at h
  obtain ⟨hf, h⟩ := He.ba h
  cases q : c.K.lookup (He.ga c.K x) with
  | none => rw [q] at h; cases h
  | some o =>
    obtain ⟨oc, od, dt, sl⟩ := o
    rw [q] at h
    cases oc with
    | type n =>
      cases od with
      | none =>
        cases dt with
        | seq its k =>
          obtain ⟨h1, h2⟩ := He.ba (show (decide (n = "tuple") && (decide (its.size ≤ sizeLine) && He.relAll (xs.map flatV) its.toList)) = true from h)
          obtain ⟨h3, h4⟩ := He.ba h2
          have e := of_decide_eq_true h1
          subst e
          refine ⟨⟨_, rfl, rfl, rfl⟩, fun F m => ?_⟩
          simp only [Rep]
          exact ⟨_, _, rfl, .inr ⟨_, its, k, q, rfl, rfl, of_decide_eq_true h3, He.relAll_ok h4⟩, repL_flat hf⟩
        | _ => cases h
      | some a => cases dt <;> cases h
    | _ => cases od <;> cases dt <;> cases h
def entC : List DictEntry → List (D × D) → Bool
  | [], [] => true
  | e :: es, (.str k, d) :: r => (match e.key with
    | .str y _ => decide (y = toStr k)
    | _ => false) && (d.flat && He.relB (flatV d) e.val) && entC es r
  | _, _ => false
theorem entC_find : ∀ {es : List DictEntry} {kvs : List (D × D)}, entC es kvs = true → ∀ z : Txt, match dget (.str z) kvs with
    | none => es.find? (·.key.isStr (toStr z)) = none ∧ es.any (·.refKey) = false
    | some d => ∃ e, es.find? (·.key.isStr (toStr z)) = some e ∧ RelV (flatV d) e.val ∧ d.flat = true
  | [], [], _, z => by simp [dget]
  | [], (_, _) :: _, h, _ => by cases h
  | e :: es, [], h, _ => by simp [entC] at h
  | e :: es, (k, d) :: r, h, z => by
    cases k with
    | str k =>
      simp only [entC, Bool.and_eq_true] at h
      obtain ⟨⟨h1, h2, h3⟩, h4⟩ := h
      have ih := entC_find h4 z
      cases ek : e.key with
      | str y t =>
        rw [ek] at h1
        have hy : y = toStr k := by simpa using h1
        have er : e.refKey = false := by unfold DictEntry.refKey; rw [ek]
        by_cases hz : k = z
        · subst hz
          have e1 : dget (.str k) ((.str k, d) :: r) = some d := by simp [dget, D.eqb]
          rw [e1]
          have e2 : e.key.isStr (toStr k) = true := by rw [ek, hy]; simp [Value.isStr]
          exact ⟨e, by rw [List.find?_cons, e2], He.relB_ok h3, h2⟩
        · have e1 : dget (.str z) ((.str k, d) :: r) = dget (.str z) r := by
            have : (k == z) = false := by simpa using hz
            simp [dget, D.eqb, this]
          rw [e1]
          have e2 : e.key.isStr (toStr z) = false := by
            rw [ek, hy]
            have : ¬ toStr k = toStr z := fun q => hz (toStr_inj q)
            simp [Value.isStr, this]
          revert ih
          cases dget (.str z) r with
          | none => exact fun ih => ⟨by rw [List.find?_cons, e2]; exact ih.1, by rw [List.any_cons, er]; exact ih.2⟩
          | some d' => exact fun ⟨e', q1, q2, q3⟩ => ⟨e', by rw [List.find?_cons, e2]; exact q1, q2, q3⟩
      | _ => rw [ek] at h1; cases h1
    | _ => simp [entC] at h
/-- the module's name x is a dict of these -/
def dicC (x : Str) (kvs : List (D × D)) (K : PySem.W.Frag) : Bool := match K.lookup (He.ga K x) with
  | some ⟨_, _, .dict es _, _⟩ => entC es.toList kvs
  | _ => false
theorem dicC_ok {c : Kx} {x : Str} {kvs : List (D × D)} (h : dicC x kvs c.K = true) (hk : ∃ es n, KDict c.K c.w (He.ga c.K x) es n) : ∀ F m, Rep c F m (.dic kvs) (.ref (He.ga c.K x)) := by
  intro F m
  simp only [Rep]
  refine ⟨_, rfl, .inr ⟨hk, fun z => ?_⟩⟩
  unfold dicC at h
  cases q : c.K.lookup (He.ga c.K x) with
  | none => rw [q] at h; cases h
  | some o =>
    obtain ⟨oc, od, dt, sl⟩ := o
    rw [q] at h
    cases dt with
    | dict es n =>
      have f := entC_find (show entC es.toList kvs = true from h) z
      unfold PySem.W.nsIn
      rw [q]
      revert f
      cases dget (.str z) kvs with
      | none =>
        rintro ⟨f1, f2⟩
        refine ⟨none, ?_, rfl⟩
        show (match es.toList.find? (·.key.isStr (toStr z)) with | some e => some (some e.val) | none => if es.toList.any (·.refKey) then none else some none) = _
        rw [f1]
        simp only [f2]
        rfl
      | some d =>
        rintro ⟨e, f1, f2, f3⟩
        refine ⟨some e.val, ?_, e.val, flatV d, rfl, f2, ?_⟩
        · show (match es.toList.find? (·.key.isStr (toStr z)) with | some e => some (some e.val) | none => if es.toList.any (·.refKey) then none else some none) = _
          rw [f1]
        · cases d <;> simp [D.flat] at f3 <;> simp [FlatV, flatV]
    | _ => cases h
/-! ### the Hook -/
abbrev AlX : Type := He.AlT × Bool
def obsX (fa : List He.Fa) (fn : List He.DefD) (ts : List He.Tab) (ch : PySem.W.Frag → Bool) (K : PySem.W.Frag) : AlX := (He.obsT fa fn ts K, ch K)
def valX (fn : List He.DefD) (ts : List He.Tab) (w : World) : AlX := (He.valT fn ts w, true)
def SaysX (fa : List He.Fa) (fn : List He.DefD) (ts : List He.Tab) (ch : PySem.W.Frag → Bool) (w : World) (K : PySem.W.Frag) : Prop := obsX fa fn ts ch K = valX fn ts w
def obsXG (n : Nat) (fa : List He.Fa) (fn : List He.DefD) (ts : List He.Tab) (ch : PySem.W.Frag → Bool) (g : Addr → Option Obj) : AlX := obsX fa fn ts ch (He.frG g (He.asD g n))
def hookX (n : Nat) (fa : List He.Fa) (fn : List He.DefD) (ts : List He.Tab) (ch : PySem.W.Frag → Bool) : PySem.W.Hook where
  α := AlX
  obs := fun s => obsXG n fa fn ts ch s.heap.get?
  val := fun w => valX fn ts w
  says := fun w h => ∃ K : PySem.W.Frag, K.In h ∧ SaysX fa fn ts ch w K
  of := fun _ _ e => ⟨_, He.frG_in, e⟩
  keeps := fun _ _ _ ⟨K, hK, c⟩ k => ⟨K, PySem.W.Frag.In.keeps hK k, c⟩
theorem obsXG_eq {n : Nat} {fa : List He.Fa} {fn : List He.DefD} {ts : List He.Tab} {ch : PySem.W.Frag → Bool} {g : Addr → Option Obj} {s : Shared} (h : ∀ a, g a = s.heap.get? a) : obsXG n fa fn ts ch g = (hookX n fa fn ts ch).obs s := by
  have e : g = s.heap.get? := funext h
  rw [e] <;> rfl
section
variable {fa : List He.Fa} {fn : List He.DefD} {ts : List He.Tab} {ch : PySem.W.Frag → Bool} {w : World} {K : PySem.W.Frag}
theorem SaysX.t (c : SaysX fa fn ts ch w K) : He.SaysT fa fn ts w K := congrArg (fun z : AlX => z.1) c
theorem SaysX.c (c : SaysX fa fn ts ch w K) : ch K = true := congrArg (fun z : AlX => z.2) c
theorem SaysX.fds (c : SaysX fa fn ts ch w K) : ∃ fds : Nat → FuncData, ∀ (i : Nat) (d : He.DefD), fn[i]? = some d → FunD K d.name d.qual d.params d.body d.scope (d.dvs K) (d.kws K) (He.fAd K d.at_) (fds i) := by
  have h : ∀ i : Nat, ∃ fd : FuncData, ∀ d : He.DefD, fn[i]? = some d → FunD K d.name d.qual d.params d.body d.scope (d.dvs K) (d.kws K) (He.fAd K d.at_) fd := fun i => by
    cases e : fn[i]? with
    | none => exact ⟨default, fun d z => by cases z⟩
    | some d =>
      obtain ⟨fd, F⟩ := c.t.d.def_ i e
      exact ⟨fd, fun d' z => by cases z; exact F⟩
  exact ⟨fun i => (h i).choose, fun i => (h i).choose_spec⟩
end
section
variable {c : Kx} {h : Heap} {mg : Str → Option Value}
theorem gc_str (X : c.K.In h) (G : h.Ns mainGlobals mg) {x z : Str} {l : Txt} (e : z = toStr l) (q : (He.Fa.str x z).ok c.K = true) : Gc mg c x (.str l) := by
  obtain ⟨t, hm⟩ := He.str_ok X G q
  subst e
  exact ⟨_, .str (toStr l), hm, ⟨t, rfl⟩, fun F m => by simp [Rep]⟩
theorem gc_int (X : c.K.In h) (G : h.Ns mainGlobals mg) {x : Str} {i : Int} (q : (He.Fa.int x i).ok c.K = true) : Gc mg c x (.int i) := by
  obtain ⟨t, hm⟩ := He.int_ok X G q
  exact ⟨_, .int i, hm, ⟨t, rfl⟩, fun F m => by simp [Rep]⟩
theorem gc_tup (X : c.K.In h) (G : h.Ns mainGlobals mg) {x : Str} {xs : List D} (q : (He.Fa.glo x).ok c.K = true) (t : tupC x xs c.K = true) : Gc mg c x (.tup xs) := ⟨_, .ref (He.ga c.K x), He.glo_ok X G q, rfl, (tupC_ok t).2⟩
theorem gt_tup (X : c.K.In h) (G : h.Ns mainGlobals mg) {x : Str} {xs : List D} (q : (He.Fa.glo x).ok c.K = true) (t : tupC x xs c.K = true) : Gt mg c.K c x xs := ⟨_, He.glo_ok X G q, (tupC_ok t).1, (tupC_ok t).2⟩
theorem gc_dic (X : c.K.In h) (G : h.Ns mainGlobals mg) {x : Str} {kvs : List (D × D)} (q : (He.Fa.glo x).ok c.K = true) (t : dicC x kvs c.K = true) (hk : ∃ es n, KDict c.K c.w (He.ga c.K x) es n) : Gc mg c x (.dic kvs) := ⟨_, .ref (He.ga c.K x), He.glo_ok X G q, rfl, dicC_ok t hk⟩
theorem ge_exc (X : c.K.In h) (G : h.Ns mainGlobals mg) {x : Str} {n : Nat} (n0 : n ≠ 0) (ca : c.ca n = some (He.ga c.K x)) (q : (He.Fa.glo x).ok c.K = true) (e : (He.Fa.exc x).ok c.K = true) : Ge mg c.K c x n := by
  obtain ⟨e1, e2, e3, e4⟩ := He.exc_ok e
  exact ⟨n0, _, He.glo_ok X G q, ca, e1, e2, e3, e4⟩
/-- without calls nothing is promised -/
theorem fnG_zero {P : PySem.Program} {w : World} {K : PySem.W.Frag} {base : Heap} {T : Tb} {f : Addr} {fd : FuncData} {ps : List Str} {nf np : Nat} : FnG P w K mg base 0 f fd ps (spF c (callT T 0) nf np) := by
  have no : ∀ vs H Q E, ¬ spF c (callT T 0) nf np vs H Q E := fun vs H Q E ⟨g, ds, _, _, _, _, h⟩ => h
  exact ⟨fun vs H Q E h => (no vs H Q E h).elim, fun A outer s H args us vs Q E _ _ _ _ _ h => (no vs H Q E h).elim⟩
/-- the law's end, by what its def's meaning answers -/
theorem wish_of {call : Call} {nf : Nat} {a : Addr} {ns : List Int} {H : Hp} {S' : Sto} (h : call nf [.scr ns] [] = .ok (.bl true) S') (hS : SqL c.K H a (ns.map V.int)) : spF c call nf 1 [.ref a] H (fun v _ => v = .bl true) fun _ _ _ => False := by
  refine ⟨⟨fun _ => none, H, [], [], []⟩, [.scr ns], rfl, ⟨fun _ _ q => q, (fun _ _ q => by cases q), fun _ _ _ => rfl, rfl, List.nodup_nil, fun n x b q => by simp at q⟩, ?_, rfl, ?_⟩
  · simp only [RepL, Rep]
    exact ⟨_, [], rfl, ⟨a, rfl, hS⟩, rfl⟩
  · rw [h]
    intro v H' F' m' _ _ r
    simpa [Rep] using r
end
end Ev

set_option Elab.async false
set_option linter.all false
set_option autoImplicit false
set_option maxRecDepth 100000
/-! EvY: calls by names: the values put in order. -/
namespace Ev
open PySem PySem.Spec PyProof.Rows L2
def pick {α : Type} (l : List α) : List Nat → List α
  | [] => []
  | i :: r => match l[i]? with | some a => a :: pick l r | none => pick l r
theorem pick_rel {vs : List V} {us : List Value} (r : Vals vs us) : ∀ pm : List Nat, Vals (pick vs pm) (pick us pm)
  | [] => .nil
  | i :: pm => by
    unfold pick
    cases e : vs[i]? with
    | none =>
      rw [r.none_of e]
      exact pick_rel r pm
    | some v =>
      obtain ⟨u, hu, rv⟩ := r.get e
      rw [hu]
      exact .cons rv (pick_rel r pm)
theorem repL_app {c : Kx} {F : Hp} {m : List Addr} : ∀ {ds es : List D} {vs zs : List V}, RepL c F m ds vs → RepL c F m es zs → RepL c F m (ds ++ es) (vs ++ zs)
  | [], _, vs, _, h, h' => by simp only [RepL] at h; subst h; exact h'
  | d :: ds, es, vs, zs, h, h' => by
    simp only [RepL] at h
    obtain ⟨v, r, rfl, h1, h2⟩ := h
    exact RepL.cons_ h1 (repL_app h2 h')
theorem pick_rep {c : Kx} {F : Hp} {m : List Addr} {ds : List D} {vs : List V} (r : RepL c F m ds vs) : ∀ {pm : List Nat}, (∀ i ∈ pm, i < ds.length) → ∃ l, srcOf ds (pm.map .inl) = some l ∧ RepL c F m l (pick vs pm) ∧ l.length = pm.length
  | [], _ => ⟨[], rfl, by simp [RepL, pick], rfl⟩
  | i :: pm, h => by
    obtain ⟨l, e, rl, hl⟩ := pick_rep r (pm := pm) fun j hj => h j (List.mem_cons_of_mem _ hj)
    have hi := h i List.mem_cons_self
    have ei : ds[i]? = some ds[i] := List.getElem?_eq_getElem hi
    obtain ⟨v, ev, rv⟩ := repL_at r ei
    refine ⟨ds[i] :: l, ?_, ?_, by simp [hl]⟩
    · simp only [List.map_cons, srcOf, ei, e]
    · unfold pick
      rw [ev]
      exact RepL.cons_ rv rl
theorem ksrc_of {K : PySem.W.Frag} {fd : FuncData} {ps ks : List Str} {n : Nat} (pm : List Nat) (hlt : ∀ i ∈ pm, i < n + ks.length) (hl : pm.length = ps.length)
    (hb : ∀ (s : Shared) (us zs : List Value), us.length = n → zs.length = ks.length → BindsTo s fd ⟨us, ks.zip zs⟩ (ps.zip (pick (us ++ zs) pm))) : KSrc K fd ps n ks (pm.map .inl) := by
  refine ⟨fun us zs => pick (us ++ zs) pm, fun vs zs => pick (vs ++ zs) pm, ⟨fun s us zs _ l1 l2 => hb s us zs l1 l2, fun r1 r2 => pick_rel (r1.append r2) pm⟩, fun c F m ds es vs zs r1 r2 l1 l2 => ?_⟩
  obtain ⟨l, e, r, hl'⟩ := pick_rep (repL_app r1 r2) (pm := pm) fun i hi => by rw [List.length_append, l1, l2]; exact hlt i hi
  exact ⟨l, e, r, hl'.trans hl⟩
end Ev

set_option Elab.async false
set_option linter.all false
set_option autoImplicit false
set_option maxRecDepth 100000
/-! EvZ: a caught exception with a name; isinstance of it. -/
namespace Ev
open PySem PySem.Spec PyProof.Rows L2
def caX (ca : Nat → Option Addr) (a : Addr) : Nat → Option Addr := fun n => if n = 0 then some a else ca n
/-- the context while an exception at a is caught -/
def Kx.exc (c : Kx) (a : Addr) : Kx := ⟨c.K, c.w, caX c.ca a⟩
section
variable {K : PySem.W.Frag} {w : World} {ca cb : Nat → Option Addr} {F : Hp} {m : List Addr}
mutual
theorem Rep.to : ∀ {d : D} {v : V}, Rep ⟨K, w, ca⟩ F m d v → Rep ⟨K, w, cb⟩ F m d v
  | .non, _, h => by simpa [Rep] using h
  | .bl _, _, h => by simpa [Rep] using h
  | .int _, _, h => by simpa [Rep] using h
  | .str _, _, h => by simpa [Rep] using h
  | .tup xs, v, h => by
    obtain ⟨a, vs, e1, h1, h2⟩ := (show ∃ a vs, v = .ref a ∧ SqT K F a vs ∧ RepL ⟨K, w, ca⟩ F m xs vs by simpa [Rep] using h)
    have q := RepL.to h2
    simp only [Rep]
    exact ⟨a, vs, e1, h1, q⟩
  | .lst xs, v, h => by
    obtain ⟨a, vs, e1, h1, h2⟩ := (show ∃ a vs, v = .ref a ∧ F a = some (.lst vs) ∧ RepL ⟨K, w, ca⟩ F m xs vs by simpa [Rep] using h)
    have q := RepL.to h2
    simp only [Rep]
    exact ⟨a, vs, e1, h1, q⟩
  | .dic kvs, v, h => by simpa [Rep, WDict] using h
  | .ref n, v, h => by simpa [Rep] using h
  | .scr ns, v, h => by simpa [Rep] using h
theorem RepL.to : ∀ {xs : List D} {vs : List V}, RepL ⟨K, w, ca⟩ F m xs vs → RepL ⟨K, w, cb⟩ F m xs vs
  | [], _, h => by simpa [RepL] using h
  | x :: xs, vs, h => by
    obtain ⟨v, r, e1, h1, h2⟩ := (show ∃ v r, vs = v :: r ∧ Rep ⟨K, w, ca⟩ F m x v ∧ RepL ⟨K, w, ca⟩ F m xs r by simpa [RepL] using h)
    have q1 := Rep.to h1
    have q2 := RepL.to h2
    simp only [RepL]
    exact ⟨v, r, e1, q1, q2⟩
end
theorem RelB.to {G : Hp} {S : Sto} {H : Hp} (B : RelB ⟨K, w, ca⟩ G F m S H) : RelB ⟨K, w, cb⟩ G F m S H :=
  ⟨B.fh, B.gh, B.fg, B.ml, B.md, fun n x a h1 h2 => by
    obtain ⟨q1, q2, q3⟩ := B.cl n x a h1 h2
    refine ⟨q1, q2, ?_⟩
    cases x with
    | lst xs => obtain ⟨vs, e, r⟩ := q3; exact ⟨vs, e, r.to⟩⟩
end
/-- no slot holds a caught exception -/
def noEx (ρ : Env) : Bool := ρ.all fun | some (.ex _) => false | _ => true
theorem noEx_at {ρ : Env} (h : noEx ρ = true) {i : Nat} {x : Exn} (e : ρ[i]? = some (some (.ex x))) : False := by
  have q := List.all_eq_true.mp h _ (List.mem_of_getElem? e)
  cases q
section
variable {c : Kx} {g : Gs} {σ : St} {H : Hp}
theorem Rel.toExc (R : Rel c g σ H) (n : noEx g.ρ = true) {i : Nat} (hi : i < g.ρ.length) (x : Exn) (a : Addr) : Rel (c.exc a) { g with ρ := g.ρ.set i (some (.ex x)) } (σ.set i (some (.ref a))) H := by
  have lt : ∀ {j : Nat} {s : SV}, (g.ρ.set i (some (.ex x)))[j]? = some (some s) → (j = i ∧ s = .ex x) ∨ (j ≠ i ∧ g.ρ[j]? = some (some s)) := fun {j s} h => by
    by_cases z : j = i
    · subst z
      rw [List.getElem?_set_self hi] at h
      cases h
      exact .inl ⟨rfl, rfl⟩
    · rw [List.getElem?_set_ne (Ne.symm z)] at h
      exact .inr ⟨z, h⟩
  refine ⟨R.b.to, by simp [R.ln], fun j d h => ?_, fun j ys h => ?_, fun j k ys zs b ne h1 h2 h3 => ?_, fun j y h => ?_⟩
  · rcases lt h with ⟨_, z⟩ | ⟨z, h⟩
    · cases z
    · obtain ⟨v, e1, r⟩ := R.sf j d h
      exact ⟨v, by rw [List.getElem?_set_ne (Ne.symm z)]; exact e1, r.to⟩
  · rcases lt h with ⟨_, z⟩ | ⟨z, h⟩
    · cases z
    · obtain ⟨b, vs, e1, h1, r, q⟩ := R.so j ys h
      exact ⟨b, vs, by rw [List.getElem?_set_ne (Ne.symm z)]; exact e1, h1, r.to, q⟩
  · rcases lt h1 with ⟨_, z⟩ | ⟨z1, h1'⟩
    · cases z
    rcases lt h2 with ⟨_, z⟩ | ⟨z2, h2'⟩
    · cases z
    rw [List.getElem?_set_ne (Ne.symm z1)] at h3
    rw [List.getElem?_set_ne (Ne.symm z2)]
    exact R.sd j k ys zs b ne h1' h2' h3
  · rcases lt h with ⟨rfl, _⟩ | ⟨z, h⟩
    · exact ⟨a, rfl, by rw [List.getElem?_set_self (by rw [← R.ln]; exact hi)]⟩
    · exact (noEx_at n h).elim
theorem Rel.ofExc {a : Addr} (R : Rel (c.exc a) g σ H) {i : Nat} (n : noEx (g.ρ.set i none) = true) : Rel c { g with ρ := g.ρ.set i none } (σ.set i none) H := by
  have R1 := R.drop2 i
  exact ⟨R1.b.to, R1.ln, fun j d h => let ⟨v, e, r⟩ := R1.sf j d h; ⟨v, e, r.to⟩, fun j ys h => let ⟨b, vs, e1, h1, r, q⟩ := R1.so j ys h; ⟨b, vs, e1, h1, r.to, q⟩, R1.sd, fun j y h => (noEx_at n h).elim⟩
end
/-! ### try: .. except X as n: .. -/
def sTryAs (b : M Flow) (sb : Nat → Bool) (i : Nat) (h : Exn → M Flow) : M Flow := fun ρ S => match b ρ S with
  | .exc x ρ' S' => if sb x.c then (if noEx ρ' && decide (i < ρ'.length) then (match h x (ρ'.set i (some (.ex x))) S' with
      | .ok f ρ2 S2 => if noEx (ρ2.set i none) then .ok f (ρ2.set i none) S2 else .bad
      | _ => .bad) else .bad) else .exc x ρ' S'
  | r => r
/-- what is known of a caught exception's object -/
structure Exc1 (K : PySem.W.Frag) (a : Addr) (oe : Obj) (C : Addr) : Prop where
  z : Zc (.ref C) none oe
  f : ∃ vs, oe.data = .fields vs
section
variable {X : Cx} {c : Kx} {W : WX} {pos : Pos}
theorem os_tryAs {x n : Str} {cv : Value} {body suite : List Stmt} {b₀ : Stmt} {np pos' : Pos} {b : M Flow} {h : Exn → M Flow} {sb : Nat → Bool} {i : Nat} (hs : X.stack = X.env :: X.outer) (hf : X.env.frame = some X.env.locals) (hN : X.N.Nodup) (hi : X.N[i]? = some n) (hln : X.env.kindOf n = some .local) (hc : Names X x cv) (tk : Takes X W)
    (hx : ∀ n C, n ≠ 0 → c.ca n = some C → PySem.W.exmOne X.K (.ref C) cv = some (sb n))
    (hb : ∀ (W : WX) (pn : List (Addr × Obj)) (xe : Value → Shared → Prop), Takes (X.tr pn xe) W → PassesOwn (model X.prog X.w) X.A X.env xe → PSs (X.tr pn xe) body (tS c W b))
    (hsu : ∀ (a : Addr) (oe : Obj) (pn : List (Addr × Obj)) (y : Exn) (C : Addr), y.c ≠ 0 → (c.exc a).ca y.c = some C → c.ca y.c = some C → y.fs = [] → Exc1 X.K a oe C → PSs (X.suite a ((a, oe) :: pn)) (b₀ :: suite) (tS (c.exc a) W0 (h y))) :
    PS X (.Try body [.ExceptHandler (some (.Name x np)) (some n) (b₀ :: suite) pos'] [] [] pos) (tS c W (sTryAs b sb i h)) := by
  refine PS.weak (ps_try_as (Wout := W) (tb := fun W => tS c W b) (ts := fun a cls d D σ H => ∃ y C, y.c ≠ 0 ∧ c.ca y.c = some C ∧ y.fs = [] ∧ cls = .ref C ∧ d = none ∧ tS (c.exc a) W0 (h y) D σ H) hs hf hN hi hln hc tk hb fun a oe cls d pn hz hv =>
    ⟨fun pins s σ H D I ⟨y, C, q0, q1, q2, q3, q4, q⟩ => by
      subst q3 q4
      exact (hsu a oe pn y C q0 ((if_neg q0).trans q1) q1 q2 ⟨hz, hv⟩).run pins s σ H D I q⟩) fun D σ H ⟨g, R, h0⟩ => ⟨g, R, ?_⟩
  unfold sTryAs at h0
  revert h0
  cases e : b g.ρ g.S with
  | ok f ρ S => exact fun z => z
  | bad => exact fun z => z
  | exc y ρ S =>
    intro h0 g' σ' H' cls d e1 e2 x1 R1 r
    obtain ⟨z1, z2, z0, C, hC, z3⟩ := id r
    have h0 : After2 c W g (if sb y.c then (if noEx ρ && decide (i < ρ.length) then (match h y (ρ.set i (some (.ex y))) S with
      | .ok f ρ2 S2 => if noEx (ρ2.set i none) then .ok f (ρ2.set i none) S2 else .bad
      | _ => .bad) else .bad) else .exc y ρ S) (flowOk c D) := h0
    refine ⟨sb y.c, by rw [z3]; exact hx _ _ z0 hC, fun hb a na => ?_, fun hb => ?_⟩
    · rw [if_pos hb] at h0
      by_cases hn : (noEx ρ && decide (i < ρ.length)) = true
      · rw [if_pos hn] at h0
        simp only [Bool.and_eq_true, decide_eq_true_eq] at hn
        refine ⟨y, C, z0, hC, z1, z3, z2, { g' with ρ := g'.ρ.set i (some (.ex y)) }, R1.toExc (by rw [e1]; exact hn.1) (by rw [e1]; exact hn.2) y a, ?_⟩
        show After2 (c.exc a) W0 _ (h y (g'.ρ.set i (some (.ex y))) g'.S) _
        rw [e1, e2]
        revert h0
        cases eh : h y (ρ.set i (some (.ex y))) S with
        | exc _ _ _ => exact fun z => z.elim
        | bad => exact fun z => z.elim
        | ok f ρ2 S2 =>
          intro h0 g2 σ2 H2 p1 p2 x2 R2
          have h0 : After2 c W g (if noEx (ρ2.set i none) then .ok f (ρ2.set i none) S2 else .bad) (flowOk c D) := h0
          by_cases hn2 : noEx (ρ2.set i none) = true
          · rw [if_pos hn2] at h0
            have x2' : GExt g { g2 with ρ := g2.ρ.set i none } := ⟨x1.e.trans x2.e, x2.pr.trans x1.pr⟩
            have q := h0 { g2 with ρ := g2.ρ.set i none } (σ2.set i none) H2 (by show g2.ρ.set i none = _; rw [p1]) p2 x2' (R2.ofExc (by rw [p1]; exact hn2))
            cases f with
            | nx => exact q
            | br => exact q
            | ct => exact q
            | rt d => exact fun v rr => q v rr.to
          · rw [if_neg hn2] at h0; exact h0.elim
      · rw [if_neg hn] at h0; exact h0.elim
    · rw [hb] at h0
      exact h0 g' σ' H' cls d e1 e2 x1 R1 r
/-! ### isinstance of it -/
/-- the slot i holds the caught exception -/
def mIsE (i : Nat) (b : Bool) : M D := fun ρ S => match ρ[i]? with
  | some (some (.ex _)) => .ok (.bl b) ρ S
  | _ => .bad
def tEx (c : Kx) (i : Nat) : TE := fun σ H Q => ∃ g x, Rel c g σ H ∧ g.ρ[i]? = some (some (.ex x)) ∧ ∀ a, c.ca 0 = some a → Q (.ref a) H
theorem ok_ex {i : Nat} {x : Str} (hN : X.N[i]? = some x) (hv : Vis X.env.scope x) (hd : (x == ("__debug__" : Str)) = false) (hcd : (x == ("__classdict__" : Str)) = false) : PE X (.Name x pos) (tEx c i) := by
  refine PE.weak (pe_var hN hv hd hcd) fun σ H Q ⟨g, y, R, e, h⟩ => ?_
  obtain ⟨a, e1, e2⟩ := R.sx i y e
  exact ⟨_, e2, h a e1⟩
theorem call_isET {X : Cx} {a D : Addr} {oe : Obj} {pn : List (Addr × Obj)} (C : ExcC X.K D) (E : Exc1 X.K a oe D) : CallR (X.suite a ((a, oe) :: pn)) (.builtin "isinstance")
    (fun xs H Q => ∃ (tp : Addr) (cs : List V) (us : List Value) (b : Bool), xs = [.ref a, .ref tp] ∧ H tp = some (.tup cs) ∧ Paired ClsV cs us ∧ PySem.W.kitAny X.K (.ref D) us = some b ∧ Q (.bl b) H) := by
  intro pins s σ H xs us Q I r h
  obtain ⟨tp, cs, ws, b, rfl, hT, k, e, q⟩ := h
  obtain ⟨u1, u2, rfl, r1, r2⟩ := vals2 r
  cases (show u2 = Value.ref tp from r2)
  cases (show u1 = Value.ref a from r1)
  obtain ⟨hget, _⟩ := I.pin (a, oe) (List.mem_append.mpr (.inl List.mem_cons_self))
  obtain ⟨vs, hv⟩ := E.f
  have J : PySem.W.InstAt s.heap a oe D none := by
    obtain ⟨oc, od, oda, osl⟩ := oe
    obtain ⟨h1, h2⟩ := E.z
    dsimp only at h1 h2 hv
    subst h1 h2 hv
    exact ⟨hget, rfl, rfl, trivial⟩
  obtain ⟨_, its, rv, o, h1, h2, n, h3⟩ := (show ObjOk X.prog X.w H s.heap tp (.tup cs) from I.hok tp _ hT)
  have e3 := ClsV.all k rv
  subst e3
  obtain ⟨oc, od, dt, sl⟩ := o
  simp only at h2 h3
  subst h2 h3
  exact PySem.W.kia_tup (PySem.W.handS_kitx_exc C.hg C.hk C.hs C.hd C.ha C.hn C.ht C.hm) I.kIn J h1 e (fun z => nomatch z) fun tk => ⟨.bl b, H, I.tok tk, rfl, q⟩
/-- a class by its name, asked of the caught ones -/
structure Gi (mg : Str → Option Value) (K : PySem.W.Frag) (ca : Nat → Option Addr) (x : Str) (sb : Nat → Bool) : Prop where
  g : ∃ v u, ClsV v u ∧ (∀ n C, n ≠ 0 → ca n = some C → PySem.W.kitOne K (.ref C) u = some (sb n)) ∧ (mg x = some u ∨ (mg x = none ∧ bootBuiltins x = some u ∧ x ≠ "__name__"))
theorem clsV_rel {v : V} {u : Value} (k : ClsV v u) : RelV v u := by cases k <;> rfl
theorem Gi.pe {ca : Nat → Option Addr} {x : Str} {sb : Nat → Bool} (G : Gi X.mg X.K ca x sb) (hg : Gl X x) (hdb : (x == ("__debug__" : Str)) = false) : ∃ v u, ClsV v u ∧ (∀ n C, n ≠ 0 → ca n = some C → PySem.W.kitOne X.K (.ref C) u = some (sb n)) ∧ PE X (.Name x pos) (tC v) := by
  obtain ⟨v, u, k, h, q⟩ := G.g
  refine ⟨v, u, k, h, ?_⟩
  rcases q with q | ⟨q1, q2, q3⟩
  · exact pe_glob hg q (clsV_rel k) hdb
  · exact pe_bltn hg q1 q2 (clsV_rel k) q3 hdb
theorem Gi.exc {mg : Str → Option Value} {K : PySem.W.Frag} {ca : Nat → Option Addr} {x : Str} {sb : Nat → Bool} (G : Gi mg K ca x sb) (a : Addr) : Gi mg K (caX ca a) x sb := by
  obtain ⟨v, u, k, h, q⟩ := G.g
  exact ⟨v, u, k, fun n C n0 e => h n C n0 ((if_neg n0).symm.trans e), q⟩
/-- a row of classes -/
inductive Gis (X : Cx) (ca : Nat → Option Addr) : List Expr → (Nat → Bool) → Prop where
  | nil : Gis X ca [] (fun _ => false)
  | cons {x : Str} {pos : Pos} {es : List Expr} {sb sc : Nat → Bool} : Gi X.mg X.K ca x sb → Gl X x → (x == ("__debug__" : Str)) = false → Gis X ca es sc → Gis X ca (.Name x pos :: es) (fun n => sb n || sc n)
theorem Gis.pa {ca : Nat → Option Addr} {es : List Expr} {sb : Nat → Bool} (G : Gis X ca es sb) : ∃ (cs : List V) (us : List Value), cs.length = es.length ∧ Paired ClsV cs us ∧ (∀ n C, n ≠ 0 → ca n = some C → PySem.W.kitAny X.K (.ref C) us = some (sb n)) ∧ PA X es (fun σ H Q => Q cs H) := by
  induction G with
  | nil => exact ⟨[], [], rfl, .nil, fun _ _ _ _ => rfl, pa_nil⟩
  | @cons x pos es sb sc g h1 h2 _ ih =>
    obtain ⟨v, u, k, q, p⟩ := g.pe (pos := pos) h1 h2
    obtain ⟨cs, us, hl, ks, qs, ps⟩ := ih
    refine ⟨v :: cs, u :: us, by simp [hl], .cons k ks, fun n C n0 hC => ?_, pa_cons p ps⟩
    show (match PySem.W.kitOne X.K (.ref C) u with | some true => some true | some false => PySem.W.kitAny X.K (.ref C) us | none => none) = _
    rw [q n C n0 hC, qs n C n0 hC]
    show _ = some (sb n || sc n)
    cases sb n
    · simp
    · simp
section
variable {a C : Addr} {oe : Obj} {pn : List (Addr × Obj)} {y : Exn} {i : Nat} {p p1 p2 : Pos} {x : Str}
theorem k_isx (hcx : c.ca 0 = some a) (hC : ExcC X.K C) (hE : Exc1 X.K a oe C) (n0 : y.c ≠ 0) (hca : c.ca y.c = some C) {sb : Nat → Bool} {f z : Str} (hf : f = "isinstance") (hm : X.mg f = none) (hg : Gl X f) (G : Gi X.mg X.K c.ca z sb) (hgz : Gl X z) (hdz : (z == ("__debug__" : Str)) = false)
    (hN : X.N[i]? = some x) (hv : visB X.env.scope x = true) (hes : starEach [.Name x p1, .Name z p2] X.env = (false, eval (.Name x p1) X.env) :: starEach [.Name z p2] X.env) (hpl : (backTo pos (starEach [.Name z p2] X.env)).any (·.1) = false) :
    PE (X.suite a ((a, oe) :: pn)) (.Call (.Name f p) [.Name x p1, .Name z p2] [] pos) (tM c W0 (mIsE i (sb y.c))) := by
  subst hf
  obtain ⟨v, u, k, q, pz⟩ := Gi.pe (X := X.suite a ((a, oe) :: pn)) (pos := p2) G hgz hdz
  refine PE.weak (pe_callB (call_isE hC hE.z hE.f) hg hm boot_isinstance (pa_cons (ok_ex (c := c) hN (vis_of hv).1 (vis_of hv).2.1 (vis_of hv).2.2) (pa_cons pz pa_nil)) (by decide) (by decide) hes hpl) fun σ H Q ⟨g, R, h⟩ => ?_
  unfold mIsE at h
  cases e : g.ρ[i]? with
  | none => rw [e] at h; exact h.elim
  | some o =>
    cases o with
    | none => rw [e] at h; exact h.elim
    | some s =>
      cases s with
      | fz d => rw [e] at h; exact h.elim
      | ow d => rw [e] at h; exact h.elim
      | ex z =>
        rw [e] at h
        refine ⟨g, z, R, e, fun b hb => ?_⟩
        rw [hcx] at hb; cases hb
        exact ⟨v, u, sb y.c, rfl, fun w r => k.eq r, q _ _ n0 hca, h g H rfl rfl .refl R _ (by simp [Rep])⟩
theorem k_isxT (hcx : c.ca 0 = some a) (hC : ExcC X.K C) (hE : Exc1 X.K a oe C) (n0 : y.c ≠ 0) (hca : c.ca y.c = some C) {sb : Nat → Bool} {f : Str} {es : List Expr} {kk : Nat} (hf : f = "isinstance") (hm : X.mg f = none) (hg : Gl X f) (G : Gis (X.suite a ((a, oe) :: pn)) c.ca es sb) (hlen : es.length ≤ SZ)
    (hN : X.N[i]? = some x) (hv : visB X.env.scope x = true) (hes : starEach [.Name x p1, .Tuple es kk p2] X.env = (false, eval (.Name x p1) X.env) :: starEach [.Tuple es kk p2] X.env) (hpl : (backTo pos (starEach [.Tuple es kk p2] X.env)).any (·.1) = false) :
    PE (X.suite a ((a, oe) :: pn)) (.Call (.Name f p) [.Name x p1, .Tuple es kk p2] [] pos) (tM c W0 (mIsE i (sb y.c))) := by
  subst hf
  obtain ⟨cs, us, hl, ks, qs, ps⟩ := G.pa
  refine PE.weak (pe_callB (call_isET hC hE) hg hm boot_isinstance (pa_cons (ok_ex (c := c) hN (vis_of hv).1 (vis_of hv).2.1 (vis_of hv).2.2) (pa_cons (pe_tup ps) pa_nil)) (by decide) (by decide) hes hpl) fun σ H Q ⟨g, R, h⟩ => ?_
  unfold mIsE at h
  cases e : g.ρ[i]? with
  | none => rw [e] at h; exact h.elim
  | some o =>
    cases o with
    | none => rw [e] at h; exact h.elim
    | some s =>
      cases s with
      | fz d => rw [e] at h; exact h.elim
      | ow d => rw [e] at h; exact h.elim
      | ex z =>
        rw [e] at h
        refine ⟨g, z, R, e, fun b hb => ?_⟩
        rw [hcx] at hb; cases hb
        exact ⟨by rw [hl]; exact hlen, fun q hq => ⟨q, cs, us, sb y.c, rfl, upd_same, ks, qs _ _ n0 hca, h g (upd H q (.tup cs)) rfl rfl .refl (R.grow0 hq) _ (by simp [Rep])⟩⟩
end
end
section
variable {X : Cx} {c : Kx} {W : WX} {k : Nat} {pos : Pos}
theorem Bg.suite (B : Bg X c W k) {a : Addr} {pn : List (Addr × Obj)} : Bg (X.suite a pn) (c.exc a) W0 k true :=
  ⟨B.hK, B.hw, fun z => (nomatch z), ⟨(B.hr rfl).dp, (B.hr rfl).un⟩, B.hg, B.hN, takes_blk, fun z => (nomatch z)⟩
theorem k_tryAs (B : Bg X c W k) {x n : Str} {body suite : List Stmt} {b₀ : Stmt} {np pos' : Pos} {b : M Flow} {h : Exn → M Flow} (sb : Nat → Bool) (i : Nat) (G : Gh X.mg X.K c x sb) (hg : Gl X x) (hdb : (x == ("__debug__" : Str)) = false) (hs : X.stack = X.env :: X.outer) (hf : X.env.frame = some X.env.locals) (hi : X.N[i]? = some n) (hln : X.env.kindOf n = some .local)
    (hb : ∀ (W : WX) (pn : List (Addr × Obj)) (xe : Value → Shared → Prop), Bg (X.tr pn xe) c W k → PassesOwn (model X.prog X.w) (X.tr pn xe).A (X.tr pn xe).env (X.tr pn xe).xe → PSs (X.tr pn xe) body (tS c W b))
    (hsu : ∀ (a : Addr) (oe : Obj) (pn : List (Addr × Obj)) (y : Exn) (C : Addr), y.c ≠ 0 → (c.exc a).ca y.c = some C → c.ca y.c = some C → Exc1 X.K a oe C → Bg (X.suite a ((a, oe) :: pn)) (c.exc a) W0 k true → PSs (X.suite a ((a, oe) :: pn)) (b₀ :: suite) (tS (c.exc a) W0 (h y))) :
    PS X (.Try body [.ExceptHandler (some (.Name x np)) (some n) (b₀ :: suite) pos'] [] [] pos) (tS c W (sTryAs b sb i h)) := by
  obtain ⟨C, h1, h2⟩ := G.g
  exact os_tryAs hs hf B.hN hi hln ⟨hg, hdb, .inl h1⟩ B.tk h2 (fun W pn xe tk hp => hb W pn xe (B.tr tk) hp) fun a oe pn y C n0 hca hca0 _ E => hsu a oe pn y C n0 hca hca0 E B.suite
end
/-! ### the head's checks -/
open PySem.W in
def excC (x : Str) (K : PySem.W.Frag) : Bool :=
  decide (findIn K (.ref (He.ga K x)) "__getattribute__" = some (some (.builtin "BaseException.__getattribute__"))) &&
  decide (findIn K (.ref (He.ga K x)) "__getattr__" = some none) &&
  decide (subIn K (.ref (He.ga K x)) (.type "BaseException") = some true) && hasDictIn K (He.ga K x) &&
  decide (findIn K (.ref (He.ga K x)) "__class__" = some (some (.builtin "object.__class__"))) &&
  decide (specialIn K (.builtin "object.__class__") "__get__" = some (some (.builtin "getset_descriptor.__get__"))) &&
  decide (takesIn K (.builtin "object.__class__") = some true) && decide (mroIn K (He.ga K x) (.type "object") = some true)
theorem excC_ok {x : Str} {K : PySem.W.Frag} (h : excC x K = true) : ExcC K (He.ga K x) := by
  unfold excC at h
  simp only [Bool.and_eq_true, decide_eq_true_eq] at h
  obtain ⟨⟨⟨⟨⟨⟨⟨h1, h2⟩, h3⟩, h4⟩, h5⟩, h6⟩, h7⟩, h8⟩ := h
  exact ⟨h1, h2, h3, h4, h5, h6, h7, h8⟩
def kiC (x y : Str) (b : Bool) (K : PySem.W.Frag) : Bool := decide (PySem.W.kitOne K (.ref (He.ga K x)) (.ref (He.ga K y)) = some b)
def kiT (x : Str) (n : String) (b : Bool) (K : PySem.W.Frag) : Bool := decide (PySem.W.kitOne K (.ref (He.ga K x)) (.type n) = some b)
theorem ki_ok {p : Prop} [Decidable p] (h : decide p = true) : p := of_decide_eq_true h
end Ev

set_option Elab.async false
set_option linter.all false
set_option autoImplicit false
set_option maxRecDepth 100000
/-! EvRv: x[::-1] of lists, tuples, texts. -/
namespace Ev
open PySem PySem.Spec PyProof.Rows L2
section
variable {prog : Program} {w : World} {A : Around} {E : Value → Shared → Prop} {s : Shared}
theorem rv_places (n : Nat) : Builtin.Slice.slicePlaces ((n : Int) - 1) (-1) (-1) = n := by
  unfold Builtin.Slice.slicePlaces
  rw [if_neg (by decide)]
  by_cases h : (n : Int) - 1 > -1
  · rw [if_pos h]
    have e : ((n : Int) - 1 - -1 - 1) / (- -1) = (n : Int) - 1 := by
      rw [show (- -1 : Int) = 1 by decide, Int.ediv_one]; omega
    rw [e]; omega
  · rw [if_neg h]; omega
theorem rv_applied {sl : Addr} {vs : Value} {n : Nat} {Q : Int × Int × Nat → Shared → Prop} (hs : s.heap.IsSliceOf sl .none .none vs) (ps : IsPart vs (some (-1)))
    (h : Q ((n : Int) - 1, -1, n) s) : wpAny (model prog w) A (Builtin.Slice.sliceApplied (.ref sl) (pure (n : Int))) Q E s := by
  obtain ⟨os, hos, hcs, hds⟩ := id hs
  unfold Builtin.Slice.sliceApplied Builtin.Slice.sliceFields
  refine wpAny_bind (wpAny_bind (wpAny_field hos hds (x := .none) rfl (wpAny_bind (wpAny_field hos hds (x := .none) rfl (wpAny_bind (wpAny_field hos hds (x := vs) rfl (wpAny_pure ?_)))))))
  refine wpAny_bind (HT.slicePart_ ps ?_)
  show wpAny _ _ (if ((-1 : Int) == 0) = true then _ else _) _ _ s
  rw [if_neg (by decide)]
  refine wpAny_bind (HT.slicePart_ .none (wpAny_bind (HT.slicePart_ .none (wpAny_bind (wpAny_pure ?_)))))
  show wpAny _ _ (pure ((n : Int) - 1, (-1 : Int), Builtin.Slice.slicePlaces ((n : Int) - 1) (-1) (-1))) _ _ s
  rw [rv_places]
  exact wpAny_pure h
theorem rv_pick (xs : Array Value) : ((List.range xs.size).filterMap fun (m : Nat) => xs[(((xs.size : Int) - 1) + (m : Int) * (-1)).toNat]?).toArray = xs.toList.reverse.toArray := by
  rw [← PySem.W.krv_pick]
  unfold slicePick
  rw [PySem.W.krv_bounds]
  show _ = ((sliceRange ((xs.size : Int) - 1) (-1) (-1)).filterMap (xs[·]?)).toArray
  rw [PySem.W.krv_sliceRange, List.filterMap_map]
  congr 2
  funext m
  have : (((xs.size : Int) - 1) + (m : Int) * (-1)).toNat = xs.size - 1 - m := by omega
  show xs[(((xs.size : Int) - 1) + (m : Int) * (-1)).toNat]? = xs[xs.size - 1 - m]?
  rw [this]
theorem getItem_tuple_rev {t sl : Addr} {items : Array Value} {vs : Value} {Q : Value → Shared → Prop} (ht : IsTup s.heap t items) (hs : s.heap.IsSliceOf sl .none .none vs) (ps : IsPart vs (some (-1)))
    (h : Q (.ref s.heap.objs.size) { s with heap := s.heap.push { cls := .type "tuple", data := .seq items.toList.reverse.toArray } })
    (hsz : items.size ≤ sizeLine) : wpAny (model prog w) A (getItem (.ref t) (.ref sl)) Q E s := by
  have htake : sizeOk (.seq items.toList.reverse.toArray) := by
    show (items.toList.reverse.toArray).size ≤ sizeLine
    rw [List.size_toArray, List.length_reverse, Array.length_toList]
    exact hsz
  obtain ⟨os, hos, hcs, hds⟩ := id hs
  have hTs : s.TypeIs (.ref sl) "slice" := ⟨os, hos, hcs⟩
  unfold getItem
  try with_reducible refine wpAny_holding ?_
  first | refine wpAny_bind (wpAny_pure ?_) | skip
  refine wpAny_bind (wpAny_sequenceKey ht.typeIs (by decide) ?_)
  refine wpAny_bind (wpAny_callSpecial?_slot (name := Str.ofString "__getitem__") ht.typeIs PyProof.Rows.slot_tuple_getitem
    (wpAny_call_entry PyProof.Rows.slot_tuple_getitem ht.typeIs entry_tuple_getitem ?_ (args_tuple_getitem _ _)))
  show wpAny _ _ (Builtin.Tuple.tupleItemsOf (.ref t) >>= _) _ _ s
  refine wpAny_bind (tupleItemsOf_ ht ?_)
  refine wpAny_bind (wpAny_typeOf hTs ?_)
  rw [if_pos (by decide)]
  refine wpAny_bind (rv_applied hs ps ?_)
  have hno : ¬ ((((items.size : Int) - 1) == 0 && (-1 : Int) == 1 && items.size == items.size) = true) := by
    intro q
    rw [Bool.and_eq_true, Bool.and_eq_true] at q
    have q1 : (-1 : Int) = 1 := eq_of_beq q.1.2
    cases q1
  show wpAny _ _ (if ((((items.size : Int) - 1) == 0 && (-1 : Int) == 1 && items.size == items.size)) = true then _ else _) _ _ s
  rw [if_neg hno, rv_pick]
  first
    | exact wpAny_bind (m := Builtin.Tuple.tupleExact _) (wpAny_newObj_type (wpAny_pure ⟨_, rfl, wpAny_pure h⟩) htake)
    | exact wpAny_bind (m := Builtin.Tuple.tupleExact _) (wpAny_newObj_type (wpAny_bind (wpAny_pure (wpAny_pure ⟨_, rfl, wpAny_pure h⟩))) htake)
    | exact wpAny_bind (wpAny_bind (m := Builtin.Tuple.tupleExact _) (wpAny_newObj_type (wpAny_pure (wpAny_pure ⟨_, rfl, wpAny_pure h⟩)) htake))
    | exact wpAny_bind (wpAny_bind (m := Builtin.Tuple.tupleExact _) (wpAny_newObj_type (wpAny_pure ⟨_, rfl, wpAny_pure h⟩) htake))
theorem rv_str (z : Str) : ((Builtin.Str.strSliceIndices none none (-1) z.length).filterMap (z.cps[·]?)).toArray = z.cps.toList.reverse.toArray := by
  have e : Builtin.Str.strSliceIndices none none (-1) z.length = sliceRange ((z.length : Int) - 1) (-1) (-1) := rfl
  rw [e, PySem.W.krv_sliceRange, PySem.W.krv_range, List.filterMap_reverse]
  rw [show z.length = z.cps.size from rfl, PySem.W.krv_all]
end
/-- a sequence turned about -/
def revD (d : D) : Option D := match d with
  | .lst xs => some (.lst xs.reverse)
  | .tup xs => if xs.length ≤ SZ then some (.tup xs.reverse) else none
  | .str x => if x.length ≤ SZ then some (.str x.reverse) else none
  | _ => none
def xRev (m : M D) : M D := M.bind m fun x => M.of (revD x)
section
variable {X : Cx} {c : Kx} {W : WX} {k : Nat} {e : Expr} {m : M D}
theorem repL_reverse {F : Hp} {mm : List Addr} {xs : List D} {vs : List V} (h : RepL c F mm xs vs) : RepL c F mm xs.reverse vs.reverse := by
  induction xs generalizing vs with
  | nil => simp only [RepL] at h; subst h; simp [RepL]
  | cons x xs ih =>
    simp only [RepL] at h
    obtain ⟨v, r, rfl, h1, h2⟩ := h
    rw [List.reverse_cons, List.reverse_cons]
    exact (ih h2).app (by simp only [RepL]; exact ⟨v, [], rfl, h1, rfl⟩)
theorem k_rev {ht : Bool} (B : Bg X c W k ht) {kk : Nat} {p1 p2 p3 pos : Pos} (he : PE X e (tM c W m)) : PE X (.Subscript e (.Slice none none (some (.UnaryOp .USub (.Constant (.int 1) kk p1) p2)) p3) pos) (tM c W (xRev m)) := by
  refine ⟨fun pins s σ H Q I ⟨g, R, h⟩ => ?_⟩
  refine Subscript_ (thn (he.run pins s σ H (fun v H1 => ∃ g1 d, Rel c g1 σ H1 ∧ Rep c g1.F g1.m d v ∧ After c W g1 σ (M.of (revD d) g1.ρ g1.S) fun d g' H' => ∀ v, Rep c g'.F g'.m d v → Q v H') I ⟨g, R, (After.bind h).imp fun d g1 H1 x1 R1 q v r => ⟨g1, d, R1, r, q⟩⟩) fun v s1 ⟨x, H1, I1, r1, g1, d, R1, rr, q1⟩ => ?_)
  have hst : PO X (some (.UnaryOp .USub (.Constant (.int 1) kk p1) p2)) (tPart (tUn (rU fun i => .int (-i)) (tC (.int 1)))) := po_some (pe_un un_neg pe_int)
  refine wpAny_Slice (thn (po_none.run pins s1 σ H1 (fun o H2 => o = none ∧ H2 = H1) I1 ⟨rfl, rfl⟩) fun vl s2 ⟨l, H2, I2, pl, el, e2⟩ => ?_)
  subst el e2
  refine thn (po_none.run pins s2 σ H2 (fun o H3 => o = none ∧ H3 = H2) I2 ⟨rfl, rfl⟩) fun vu s3 ⟨u, H3, I3, pu, eu, e3⟩ => ?_
  subst eu e3
  refine thn (hst.run pins s3 σ H3 (fun o H4 => o = some (-1) ∧ H4 = H3) I3 ⟨1, rfl, -1, rfl, rfl, rfl⟩) fun vs s4 ⟨o, H4, I4, ps, eo, e4⟩ => ?_
  subst eo e4
  have I5 : Inv X pins σ H4 { s4 with heap := s4.heap.push { cls := .type "slice", data := .fields #[vl, vu, vs] } } := I4.kept (t' := s4.toks) fun b ob q => Heap.get?_push_of_some _ q
  obtain ⟨d', ed, q⟩ := After.of q1
  show wpAny (model X.prog X.w) X.A (subscriptTail e (.Slice none none (some (.UnaryOp .USub (.Constant (.int 1) kk p1) p2)) p3) v (.ref s4.heap.objs.size)) (EP X pins σ Q) X.xe { s4 with heap := s4.heap.push { cls := .type "slice", data := .fields #[vl, vu, vs] } }
  unfold revD at ed
  cases d with
  | lst xs =>
    cases ed
    simp only [Rep] at rr
    obtain ⟨a, ws, rfl, hF, rs⟩ := rr
    cases r1
    have hx := R1.b.fh _ _ hF
    obtain ⟨its, r, ht, hz⟩ := I5.list (SqL.of (K := X.K) hx)
    have hlen := r.length
    refine tail_any (ops := [.ref a, .ref s4.heap.objs.size]) ht.isList.typeIs (PySem.slot_list_getitem.lookup) ?_ (by with_unfolding_all rfl)
    refine wpAny_getItem_list_slice ht.isList (Heap.IsSliceOf.new _ vl vu vs) pl pu ps (by decide) ?_ (by rw [List.size_toArray]; omega)
    rw [PySem.W.krv_pick]
    have np : H4 s4.heap.objs.size.succ = none ∨ True := .inr trivial
    refine ⟨.ref _, _, I5.laid (t' := s4.toks) (o := .lst ws.reverse) (fun b ob q => Heap.get?_push_of_some _ q) (Nat.le_refl _) ?_, rfl, ?_⟩
    · exact ⟨by rw [List.length_reverse]; exact hz, _, 0, r.reverse, Heap.get?_push_size _ rfl⟩
    · obtain ⟨R2, x2⟩ := R1.grow (o := .lst ws.reverse) (I5.hok.fresh (Nat.le_refl _))
      exact q { g1 with F := upd g1.F _ _ } _ rfl rfl x2 R2 _ (by simp only [Rep]; exact ⟨_, _, rfl, upd_same, (repL_reverse rs).ext x2.e⟩)
  | tup xs =>
    by_cases hl : xs.length ≤ SZ
    · rw [show (match D.tup xs with | .lst xs => some (D.lst xs.reverse) | .tup xs => if xs.length ≤ SZ then some (.tup xs.reverse) else none | .str x => if x.length ≤ SZ then some (.str x.reverse) else none | _ => none) = some (.tup xs.reverse) from if_pos hl] at ed
      cases ed
      simp only [Rep] at rr
      obtain ⟨a, ws, rfl, hq, rs⟩ := rr
      cases r1
      have hq : SqT X.K H4 a ws := by rw [B.hK]; exact sqT_of R1.b.fh hq
      obtain ⟨its, r, ht, hz⟩ := I5.tuple hq
      have hlen := r.length
      have hnl : vl = .none := by cases pl; rfl
      have hnu : vu = .none := by cases pu; rfl
      subst hnl hnu
      refine tail_any (ops := [.ref a, .ref s4.heap.objs.size]) ht.typeIs (PyProof.Rows.slot_tuple_getitem.lookup) ?_ (by with_unfolding_all rfl)
      refine getItem_tuple_rev ht (Heap.IsSliceOf.new _ _ _ vs) ps ?_ (by rw [List.size_toArray]; omega)
      refine ⟨.ref _, _, I5.laid (t' := s4.toks) (o := .tup ws.reverse) (fun b ob q => Heap.get?_push_of_some _ q) (Nat.le_refl _) ?_, rfl, ?_⟩
      · exact ⟨by rw [List.length_reverse]; exact hz, _, r.reverse, IsTup.new _ _⟩
      · obtain ⟨R2, x2⟩ := R1.grow (o := .tup ws.reverse) (I5.hok.fresh (Nat.le_refl _))
        exact q { g1 with F := upd g1.F _ _ } _ rfl rfl x2 R2 _ (by simp only [Rep]; exact ⟨_, _, rfl, SqT.of upd_same, (repL_reverse rs).ext x2.e⟩)
    · exact absurd ed (by show (if xs.length ≤ SZ then some (D.tup xs.reverse) else none) ≠ some d'; rw [if_neg hl]; simp)
  | str x =>
    by_cases hl : x.length ≤ SZ
    · rw [show (match D.str x with | .lst xs => some (D.lst xs.reverse) | .tup xs => if xs.length ≤ SZ then some (.tup xs.reverse) else none | .str x => if x.length ≤ SZ then some (.str x.reverse) else none | _ => none) = some (.str x.reverse) from if_pos hl] at ed
      cases ed
      simp only [Rep] at rr
      subst rr
      obtain ⟨t, rfl⟩ := r1
      have hnl : vl = .none := by cases pl; rfl
      have hnu : vu = .none := by cases pu; rfl
      subst hnl hnu
      obtain ⟨sp, hsp, hsv⟩ := IsPart.raw ps
      refine tail_any (ops := [.str (toStr x) t, .ref s4.heap.objs.size]) (typeIs_str _ _ _) (F.slot_str_getitem.lookup) ?_ (by with_unfolding_all rfl)
      obtain rfl : vs = partValue sp := hsp
      refine wpAny_getItem_str_slice (l := none) (u := none) (st := sp) (Heap.IsSliceOf.new _ _ _ _) (by rw [hsv]; rfl) ?_
      have hlx : (toStr x).length = x.length := by simp [toStr, Str.length]
      have e1 : (PySem.slicePicked (toStr x) none none sp) = Builtin.Str.strSliceIndices none none (-1) (toStr x).length := by unfold PySem.slicePicked; rw [hsv]; rfl
      unfold PySem.sliceMade
      rw [hsv, if_neg (by intro z; rw [Bool.and_eq_true] at z; cases z.1), e1, rv_str]
      have hv : (⟨(toStr x).cps.toList.reverse.toArray⟩ : Str) = toStr x.reverse := by simp [toStr]
      rw [hv]
      have hlr : (toStr x.reverse).length ≤ sizeLine := by
        have : (toStr x.reverse).length = x.length := by simp [toStr, Str.length]
        rw [this]; exact hl
      refine ⟨hlr, .str _, H4, I5.tok _, ⟨_, rfl⟩, ?_⟩
      exact q g1 H4 rfl rfl .refl R1 _ (by simp [Rep])
    · exact absurd ed (by show (if x.length ≤ SZ then some (D.str x.reverse) else none) ≠ some d'; rw [if_neg hl]; simp)
  | _ => cases ed
end
end Ev

set_option Elab.async false
set_option linter.all false
set_option autoImplicit false
set_option maxRecDepth 100000
/-! EvMt: more methods: list.count, list.index. -/
namespace Ev
open PySem PySem.Spec PyProof.Rows L2
def rCountD (K : PySem.W.Frag) : V → List V → Hp → VK → Prop := fun x xs H Q => ∃ (a : Addr) (y : V) (d : PyData) (ds : List PyData), x = V.ref a ∧ xs = [y] ∧ Dp K H (V.ref a) (.list ds) ∧ Dp K H y d ∧
  SeqAt.shaped (.list ds) = true ∧ SeqAt.shaped d = true ∧ Q (.int (ds.countP fun z => PyData.eqv z d : Nat)) H
theorem mt_countD {X : Cx} (hu : X.A.units + 65 < cLine) : MtR X "list.count" (rCountD X.K) := by
  intro pins s σ H x xs v us Q I rx rxs h
  obtain ⟨a, y, d, ds, rfl, rfl, hl, hy, sl, sd, q⟩ := h
  cases rx
  cases rxs with
  | cons ry rt =>
    rename_i uy ut
    cases rt
    obtain ⟨bs, r1⟩ := Dp.reads I d y uy hy ry
    have hxs : PyData.canLayAll0 ds = true := SeqAt.canLay_of_shaped sl
    have hroom : X.A.units + 1 + min (PyData.depthAll ds) d.depth < cLine := room_in_shaped sd hu
    cases hl with
    | lst hs ha =>
      obtain ⟨its, rv, ⟨⟨cls, dd, data, sls⟩, n, ho, hc, hdn, hdt⟩, hlen⟩ := I.list hs
      simp only at hc hdt
      subst hc hdt
      obtain ⟨as, h4⟩ := Dp.readsAll I ds _ its ha rv
      have hmap : its.map (SeqAt.readOf s.heap) = ds := SeqAt.readsAll_map ds its as hxs h4
      refine call_meets PySem.F.slot_list_count ⟨_, ho, rfl⟩ PySem.F.entry_list_count (PySem.F.args_list_count_2 _ _)
        (SeqAt.list_countAt a its.toArray n dd sls uy (fun u => PyData.eqv (SeqAt.readOf s.heap u) d)) ⟨ho, SeqAt.items_eqAt (vs := its.toArray) (show ReadsAll s.heap its.toArray.toList ds as from h4) r1 hxs (SeqAt.canLay_of_shaped sd) hroom, ?_⟩
      have ec : its.toArray.toList.countP (fun u => PyData.eqv (SeqAt.readOf s.heap u) d) = ds.countP fun z => PyData.eqv z d := by
        rw [← hmap, List.countP_map]; rfl
      refine ⟨.int (ds.countP (fun z => PyData.eqv z d) : Nat), H, I.tok _, ⟨s.toks, ?_⟩, q⟩
      show Value.int ((its.toArray.toList.countP (fun u => PyData.eqv (SeqAt.readOf s.heap u) d) : Nat) : Int) s.toks = _
      rw [ec]
theorem toPys_countP (x : D) (n : Nat) (hx : D.plain n x = true) : ∀ (k : Nat) (ys : List D), D.plains k ys = true → (toPys ys).countP (fun z => PyData.eqv z (toPy x)) = ys.countP fun y => D.eqb y x
  | k, [], _ => rfl
  | k, y :: ys, h => by
    have h : D.plain k y = true ∧ D.plains k ys = true := by
      have q : D.plains k (y :: ys) = (D.plain k y && D.plains k ys) := by cases k <;> rfl
      rw [q] at h; simpa using h
    show (toPy y :: toPys ys).countP _ = _
    rw [List.countP_cons, List.countP_cons, toPys_countP x n hx k ys h.2, toPy_eqv k n y x h.1 hx]
section
variable {X : Cx} {c : Kx} {W : WX} {k : Nat} {e o : Expr} {es : List Expr} {m : M D} {ms : M (List D)} {apos cpos : Pos}
theorem mt_ok_lcount (hK : X.K = c.K) (hu : X.A.units + 65 < cLine) : MtR X "list.count" (rMt c W .count .list) := by
  intro pins s σ H x xs v us Q I rx rs ⟨g, σ', a, ds, d, R, ra, rds, ty, e, q⟩
  obtain ⟨y, rfl⟩ := mtp_one e
  obtain ⟨v', rfl, h⟩ := repL_one rds
  cases a <;> simp [tyOf, tyNm] at ty <;> try (simp [mtp] at e; done)
  rename_i ys
  simp only [mtp] at e
  split at e
  case isFalse z => cases e
  case isTrue z =>
  simp only [Bool.and_eq_true] at z
  cases e
  have hl := Rep.dp (c := c) R.b.fh 60 (.lst ys) x z.2 ra
  have hy := Rep.dp (c := c) R.b.fh 60 y v' z.1 h
  have sl : SeqAt.shaped (toPy (.lst ys)) = true := plain_shaped z.2
  simp only [toPy] at hl sl
  simp only [Rep] at ra
  obtain ⟨p, vs, rfl, s1, r1⟩ := ra
  refine mt_countD hu pins s σ H _ _ v us Q I rx rs ⟨p, v', toPy y, toPys ys, rfl, rfl, by rw [hK]; exact hl, by rw [hK]; exact hy, sl, plain_shaped z.1, ?_⟩
  rw [toPys_countP y 60 z.1 59 ys (show D.plains 59 ys = true from z.2)]
  exact q.here R (by simp [Rep])
def mCount (m : M D) (ms : M (List D)) : M D := mMt .count (tyIs .list) m ms
def mIndexL (m : M D) (ms : M (List D)) : M D := mMt .index (tyIs .list) m ms
theorem k_lcount {ht : Bool} (B : Bg X c W k ht) (ho : PE X o (tM c W m)) (ha : PA X (e :: es) (tA c W ms)) (hbase : attributeBase o "count" X.env (eval o X.env) = eval o X.env)
    (hfew : ((backTo cpos (starEach (e :: es) X.env)).all (fun x => !x.1) && (backToKw cpos (keywordEach [] X.env)).all (fun x => x.1.isSome) && decide ((e :: es).length + ([] : List Keyword).length + (if ([] : List Keyword).isEmpty then 0 else 1) < 30)) = true)
    (hline : (apos.endLine == cpos.line) = true) (hs : starEach (e :: es) X.env = (false, eval e X.env) :: starEach es X.env) (hplain : (backTo cpos (starEach es X.env)).any (·.1) = false) :
    PE X (.Call (.Attribute o "count" apos) (e :: es) [] cpos) (tM c W (mCount m ms)) :=
  ok_mt .count .list B.hK PySem.F.plainAttrs_list PySem.F.slot_list_count PySem.F.type_list_count (mt_ok_lcount B.hK B.hu) ho ha hbase hfew hline hs hplain
theorem k_lindex {ht : Bool} (B : Bg X c W k ht) (ho : PE X o (tM c W m)) (ha : PA X (e :: es) (tA c W ms)) (hbase : attributeBase o "index" X.env (eval o X.env) = eval o X.env)
    (hfew : ((backTo cpos (starEach (e :: es) X.env)).all (fun x => !x.1) && (backToKw cpos (keywordEach [] X.env)).all (fun x => x.1.isSome) && decide ((e :: es).length + ([] : List Keyword).length + (if ([] : List Keyword).isEmpty then 0 else 1) < 30)) = true)
    (hline : (apos.endLine == cpos.line) = true) (hs : starEach (e :: es) X.env = (false, eval e X.env) :: starEach es X.env) (hplain : (backTo cpos (starEach es X.env)).any (·.1) = false) :
    PE X (.Call (.Attribute o "index" apos) (e :: es) [] cpos) (tM c W (mIndexL m ms)) :=
  ok_mt .index .list B.hK PySem.F.plainAttrs_list PySem.F.slot_list_index PySem.F.type_list_index (mt_ok_lindex B.hK) ho ha hbase hfew hline hs hplain
end
end Ev

set_option Elab.async false
set_option linter.all false
set_option autoImplicit false
set_option maxRecDepth 100000
/-! EvKw: calls that leave keyword-only parameters out. -/
namespace Ev
open PySem PySem.Spec PyProof.Rows L2
theorem ksrc_kw {K : PySem.W.Frag} {x qual : Str} {params : Arguments} {body : List Stmt} {scope : Scope} {kws : List (Str × V)} {f : Addr} {fd : FuncData} {ps : List Str} (F : FunD K x qual params body scope [] kws f fd) (n : Nat) (ks : List Str) (ms : List Str) (dms : List D) (pm : List Nat) (src : List (Sum Nat D))
    (hk : kws ≠ []) (hms : ∀ q ∈ ms.zip (dms.map flatV), q ∈ kws) (hl : ms.length = dms.length) (hf : dms.all D.flat = true) (hpm : ∀ i ∈ pm, i < n + ks.length + dms.length) (hlp : pm.length = ps.length)
    (hsrc : ∀ l : List D, l.length = n + ks.length → srcOf l src = srcOf (l ++ dms) (pm.map .inl))
    (h : ∀ (D : Addr) (doc pm' : Value) (an : Option Addr) (cdv ct : Value) (us mv ws : List Value), us.length = n → mv.length = ms.length → ws.length = ks.length →
      KwChain D (ms.zip mv) (bindArgs (PySem.W.fnOf x qual params body scope .none (.ref D) doc pm' an cdv ct) ⟨us, ks.zip ws⟩) (ps.zip (pick (us ++ ws ++ mv) pm))) : KSrc K fd ps n ks src := by
  obtain ⟨oc, od, dV, kV, doc, pm', an, cdv, ct, osl, rfl, lk, hcd, hD, hK⟩ := F.ex
  rcases hD with ⟨_, rfl⟩ | ⟨e, _⟩
  · rcases hK with e | ⟨Dk, rfl, hq⟩
    · exact absurd e hk
    · obtain ⟨mv, hlv, rk, hks⟩ := kwd_vals (ms := ms.zip (dms.map flatV)) fun q hm => hq q (hms q hm)
      have e1 : (ms.zip (dms.map flatV)).map (·.1) = ms := by rw [List.map_fst_zip]; simp [hl]
      have e2 : (ms.zip (dms.map flatV)).map (·.2) = dms.map flatV := by rw [List.map_snd_zip]; simp [hl]
      rw [e1] at hks
      rw [e2] at rk
      have hlv : mv.length = ms.length := by rw [hlv, List.length_zip]; simp [hl]
      refine ⟨fun us ws => pick (us ++ ws ++ mv) pm, fun vs zs => pick (vs ++ zs ++ dms.map flatV) pm, ⟨fun s us ws X l1 l2 => ?_, fun r1 r2 => pick_rel ((r1.append r2).append rk) pm⟩, fun c F m ds es vs zs r1 r2 l1 l2 => ?_⟩
      · exact BindsTo.of_looks fun M => KwChain.looks X hks (h Dk doc pm' an cdv ct us mv ws l1 hlv l2)
      · have rr := repL_app (repL_app r1 r2) (repL_flat (c := c) (F := F) (m := m) hf)
        obtain ⟨l, e, r, hl'⟩ := pick_rep rr (pm := pm) fun i hi => by rw [List.length_append, List.length_append, l1, l2]; exact hpm i hi
        exact ⟨l, by rw [hsrc _ (by rw [List.length_append, l1, l2])]; exact e, r, hl'.trans hlp⟩
  · exact absurd rfl e
/-! ### a, b = e1, e2 -/
def sPar (i j : Nat) (ms : M (List D)) : M Flow := M.bind ms fun ds => match ds with
  | [a, b] => M.bind (mSet i a) fun _ => M.bind (mSet j b) fun _ => sNx
  | _ => M.bad
def sPar3 (i j l : Nat) (ms : M (List D)) : M Flow := M.bind ms fun ds => match ds with
  | [a, b, d] => M.bind (mSet i a) fun _ => M.bind (mSet j b) fun _ => M.bind (mSet l d) fun _ => sNx
  | _ => M.bad
section
variable {X : Cx} {c : Kx} {W : WX} {k : Nat}
theorem set_step {g : Gs} {σ : St} {H : Hp} {i : Nat} {d : D} {v : V} {α : Type} {f : Unit → M α} {ok : α → Gs → St → Hp → Prop} (R : Rel c g σ H) (r : Rep c g.F g.m d v) (h : After2 c W g (M.bind (mSet i d) f g.ρ g.S) ok) :
    ∃ g', Rel c g' (σ.set i (some v)) H ∧ GExt g g' ∧ After2 c W g' (f () g'.ρ g'.S) ok := by
  have h1 := After2.bind h
  unfold mSet at h1
  by_cases z : i < g.ρ.length
  · rw [if_pos z] at h1
    refine ⟨{ g with ρ := g.ρ.set i (some (.fz d)) }, R.set r, ⟨.refl, rfl⟩, ?_⟩
    exact After2.app h1 (R.set r) ⟨.refl, rfl⟩ rfl rfl
  · rw [if_neg z] at h1; exact h1.elim
theorem k_par (B : Bg X c W k) (i j : Nat) {x y : Str} {a b : Expr} {ms : M (List D)} {px py pt pos : Pos} {kt k2 : Nat} {pt2 : Pos} (hi : X.N[i]? = some x) (hj : X.N[j]? = some y) (hij : i ≠ j)
    (hx : (X.env.scope.names.lookup x == some .local) = true) (hy : (X.env.scope.names.lookup y == some .local) = true) (ha : PA X [a, b] (tA c W ms))
    (hw : swappedStores [.Tuple [.Name x px, .Name y py] kt pt] (.Tuple [a, b] k2 pt2) X.env = pure (some [x, y]))
    (hs : swapsWithSole [.Tuple [.Name x px, .Name y py] kt pt] (.Tuple [a, b] k2 pt2) pos.line X.env = pure false) :
    PS X (.Assign [.Tuple [.Name x px, .Name y py] kt pt] (.Tuple [a, b] k2 pt2) pos) (tS c W (sPar i j ms)) := by
  refine PS.weak (ps_par (B.hc rfl) B.hN hi hj hij (nk_eq hx) (nk_eq hy) ha hw hs) fun D σ H ⟨g, R, h⟩ => ⟨g, R, ((After2.bind h).one σ).imp fun ds g1 H1 x1 R1 q vs rs => ?_⟩
  match ds, rs, q with
  | [d1, d2], rs, q =>
    obtain ⟨v, w, rfl, r1, r2⟩ := repL_two rs
    refine ⟨v, w, rfl, ?_⟩
    obtain ⟨g2, R2, x2, q2⟩ := set_step R1 r1 q
    obtain ⟨g3, R3, x3, q3⟩ := set_step R2 (r2.ext x2.e) q2
    exact After2.pure q3 R3
  | [], _, q => exact q.elim
  | [_], _, q => exact q.elim
  | _ :: _ :: _ :: _, _, q => exact q.elim
theorem repL_three {F : Hp} {m : List Addr} {d1 d2 d3 : D} {vs : List V} (h : RepL c F m [d1, d2, d3] vs) : ∃ u v w, vs = [u, v, w] ∧ Rep c F m d1 u ∧ Rep c F m d2 v ∧ Rep c F m d3 w := by
  simp only [RepL] at h
  obtain ⟨u, r, rfl, h1, v, r2, rfl, h2, w, r3, rfl, h3, rfl⟩ := h
  exact ⟨u, v, w, rfl, h1, h2, h3⟩
theorem k_par3 (B : Bg X c W k) (i j l : Nat) {x y z : Str} {a b d : Expr} {ms : M (List D)} {px py pz pt pos : Pos} {kt k2 : Nat} {pt2 : Pos} (hi : X.N[i]? = some x) (hj : X.N[j]? = some y) (hl : X.N[l]? = some z) (hij : i ≠ j) (hil : i ≠ l) (hjl : j ≠ l)
    (hx : (X.env.scope.names.lookup x == some .local) = true) (hy : (X.env.scope.names.lookup y == some .local) = true) (hz : (X.env.scope.names.lookup z == some .local) = true) (ha : PA X [a, b, d] (tA c W ms))
    (hw : swappedStores [.Tuple [.Name x px, .Name y py, .Name z pz] kt pt] (.Tuple [a, b, d] k2 pt2) X.env = pure (some [x, y, z]))
    (hs : swapsWithSole [.Tuple [.Name x px, .Name y py, .Name z pz] kt pt] (.Tuple [a, b, d] k2 pt2) pos.line X.env = pure false) :
    PS X (.Assign [.Tuple [.Name x px, .Name y py, .Name z pz] kt pt] (.Tuple [a, b, d] k2 pt2) pos) (tS c W (sPar3 i j l ms)) := by
  refine PS.weak (ps_par3 (B.hc rfl) B.hN hi hj hl hij hil hjl (nk_eq hx) (nk_eq hy) (nk_eq hz) ha hw hs) fun D σ H ⟨g, R, h⟩ => ⟨g, R, ((After2.bind h).one σ).imp fun ds g1 H1 x1 R1 q vs rs => ?_⟩
  match ds, rs, q with
  | [d1, d2, d3], rs, q =>
    obtain ⟨u, v, w, rfl, r1, r2, r3⟩ := repL_three rs
    refine ⟨u, v, w, rfl, ?_⟩
    obtain ⟨g2, R2, x2, q2⟩ := set_step R1 r1 q
    obtain ⟨g3, R3, x3, q3⟩ := set_step R2 (r2.ext x2.e) q2
    obtain ⟨g4, R4, x4, q4⟩ := set_step R3 ((r3.ext x2.e).ext x3.e) q3
    exact After2.pure q4 R4
  | [], _, q => exact q.elim
  | [_], _, q => exact q.elim
  | [_, _], _, q => exact q.elim
  | _ :: _ :: _ :: _ :: _, _, q => exact q.elim
end
end Ev

set_option Elab.async false
set_option linter.all false
set_option autoImplicit false
set_option maxRecDepth 100000
/-! Pg: the meanings that laws share. -/
namespace Ev
open PySem
/-- a table has a def -/
class Fn (T : Tb) (n : Nat) (fd : outParam FD) : Prop where
  e : T.fn n = some fd
/-- forms.is_form_to -/
def b_101 (P : Prm) : M Flow := (sSeq (sIf (mT (xIsi (mBor 0) .str)) (sRet (xCmp .in_ (mBor 0) (M.pure (.tup [(.str [97,110,121]), (.str [110,117,109]), (.str [116,101,120,116])])))) sNx) (sSeq (sIf (mT (mOr (mNot (xIsi (mBor 0) .tuple)) (mOr (xCmp .eq (mVar 0) (xTup aNil)) (xCmp .eq (mBor 1) (M.pure (.int 0)))))) (sRet (M.pure (.bl false))) sNx) (sSeq (sAsg (mVar 0) (gStar (mSet 2) (mSet 3))) (sSeq (sIf (mT (mOr (mNot (xIsi (mBor 2) .str)) (mOr (xCmp .nin (mBor 2) (M.pure (.dic [((.str [100,101,101,100]), (.int 3)), ((.str [98,111,120]), (.int 2))]))) (xCmp .ne (xLen (mBor 0)) (xIdx (M.pure (.dic [((.str [100,101,101,100]), (.int 3)), ((.str [98,111,120]), (.int 2))])) (mVar 2)))))) (sRet (M.pure (.bl false))) sNx) (sRet (xBi .all (aCons (xFz (fComp (mItems (mVar 3)) [4] (mSet 4) (M.pure true) (xCall P 101 2 (aCons (mVar 4) (aCons (xBin .sub (mVar 1) (M.pure (.int 1))) aNil))))) aNil)))))))
abbrev fd_101 : FD := ⟨2, 5, b_101⟩
/-- forms.is_form -/
def b_102 (P : Prm) : M Flow := (sRet (xCall P 101 2 (aCons (mVar 0) (aCons (M.pure (.int 5)) aNil))))
abbrev fd_102 : FD := ⟨1, 1, b_102⟩
/-- forms.want_form -/
def b_104 (P : Prm) : M Flow := (sIf (mT (mNot (xCall P 102 1 (aCons (mVar 0) aNil)))) (sRai 103) sNx)
abbrev fd_104 : FD := ⟨1, 1, b_104⟩
/-- forms.near_forms -/
def b_105 (P : Prm) : M Flow := (sSeq (sIf (mT (xCmp .in_ (M.pure (.str [97,110,121])) (xTup (aCons (mVar 0) (aCons (mVar 1) aNil))))) (sRet (M.pure (.bl true))) sNx) (sSeq (sIf (mT (mOr (xIsi (mBor 0) .str) (mOr (xIsi (mBor 1) .str) (xCmp .ne (xIdx (mBor 0) (M.pure (.int 0))) (xIdx (mBor 1) (M.pure (.int 0))))))) (sRet (xCmp .eq (mVar 0) (mBor 1))) sNx) (sRet (xBi .all (aCons (xFz (fComp (mZs (aCons (mSlc (mBor 0) (mPart (M.pure (.int 1))) (M.pure none)) (aCons (mSlc (mBor 1) (mPart (M.pure (.int 1))) (M.pure none)) aNil))) [2, 3] (gUnp 2 (gCon (mSet 2) (gCon (mSet 3) gEnd))) (M.pure true) (xCall P 105 2 (aCons (mVar 2) (aCons (mVar 3) aNil))))) aNil)))))
abbrev fd_105 : FD := ⟨2, 4, b_105⟩
/-- forms.are_near -/
def b_106 (P : Prm) : M Flow := (sSeq (sEx (xCall P 104 1 (aCons (mVar 0) aNil))) (sSeq (sEx (xCall P 104 1 (aCons (mVar 1) aNil))) (sRet (xCall P 105 2 (aCons (mVar 0) (aCons (mVar 1) aNil))))))
abbrev fd_106 : FD := ⟨2, 2, b_106⟩
/-- forms.looser_form -/
def b_107 (P : Prm) : M Flow := (sSeq (sIf (mT (xCmp .eq (mBor 0) (M.pure (.str [97,110,121])))) (sRet (M.pure (.bl true))) sNx) (sSeq (sIf (mT (mOr (xIsi (mBor 0) .str) (mOr (xIsi (mBor 1) .str) (xCmp .ne (xIdx (mBor 0) (M.pure (.int 0))) (xIdx (mBor 1) (M.pure (.int 0))))))) (sRet (xCmp .eq (mVar 0) (mBor 1))) sNx) (sRet (xBi .all (aCons (xFz (fComp (mZs (aCons (mSlc (mBor 0) (mPart (M.pure (.int 1))) (M.pure none)) (aCons (mSlc (mBor 1) (mPart (M.pure (.int 1))) (M.pure none)) aNil))) [2, 3] (gUnp 2 (gCon (mSet 2) (gCon (mSet 3) gEnd))) (M.pure true) (xCall P 107 2 (aCons (mVar 2) (aCons (mVar 3) aNil))))) aNil)))))
abbrev fd_107 : FD := ⟨2, 4, b_107⟩
/-- forms.is_looser -/
def b_108 (P : Prm) : M Flow := (sSeq (sEx (xCall P 104 1 (aCons (mVar 0) aNil))) (sSeq (sEx (xCall P 104 1 (aCons (mVar 1) aNil))) (sRet (xCall P 107 2 (aCons (mVar 0) (aCons (mVar 1) aNil))))))
abbrev fd_108 : FD := ⟨2, 2, b_108⟩
/-- forms.met_forms -/
def b_109 (P : Prm) : M Flow := (sSeq (sIf (mT (xCmp .eq (mBor 0) (M.pure (.str [97,110,121])))) (sRet (mVar 1)) sNx) (sSeq (sIf (mT (mOr (xCmp .eq (mBor 1) (M.pure (.str [97,110,121]))) (xIsi (mBor 0) .str))) (sRet (mVar 0)) sNx) (sRet (xBin .add (mSlc (mBor 0) (M.pure none) (mPart (M.pure (.int 1)))) (xBi .tuple (aCons (xFz (fComp (mZs (aCons (mSlc (mBor 0) (mPart (M.pure (.int 1))) (M.pure none)) (aCons (mSlc (mBor 1) (mPart (M.pure (.int 1))) (M.pure none)) aNil))) [2, 3] (gUnp 2 (gCon (mSet 2) (gCon (mSet 3) gEnd))) (M.pure true) (xCall P 109 2 (aCons (mVar 2) (aCons (mVar 3) aNil))))) aNil))))))
abbrev fd_109 : FD := ⟨2, 4, b_109⟩
/-- forms.met -/
def b_111 (P : Prm) : M Flow := (sSeq (sIf (mT (mNot (xCall P 106 2 (aCons (mVar 0) (aCons (mVar 1) aNil))))) (sRai 110) sNx) (sRet (xCall P 109 2 (aCons (mVar 0) (aCons (mVar 1) aNil)))))
abbrev fd_111 : FD := ⟨2, 2, b_111⟩
/-- law._law_pot -/
def b_112 (P : Prm) : M Flow := (sSeq (sAsg (mIte (xCmp .lt (mVar 1) (xLen (mBor 0))) (xIdx (mBor 0) (mVar 1)) (M.pure (.int 0))) (mSet 2)) (sRet (xCel (aCons (xBi .max2 (aCons (M.pure (.int 0)) (aCons (xBin .sub (xBi .abs (aCons (mVar 2) aNil)) (xBin .pow (M.pure (.int 10)) (M.pure (.int 18)))) aNil))) (aCons (xBin .add (xBin .mod (xBin .pow (xBin .add (xBin .add (xBin .mod (xBi .abs (aCons (mVar 2) aNil)) (M.pure (.int 2147483477))) (xBin .mul (M.pure (.int 101)) (mVar 1))) (M.pure (.int 3))) (M.pure (.int 2))) (M.pure (.int 2147483399))) (M.pure (.int 1))) aNil)))))
abbrev fd_112 : FD := ⟨2, 3, b_112⟩
/-- law._law_digit -/
def b_113 (P : Prm) : M Flow := (sSeq (sIf (mT (xCmp .gt (xIdx (mBor 0) (M.pure (.int 0))) (M.pure (.int 0)))) (sSeq (sAsg (xBi .divmod (aCons (xIdx (mBor 0) (M.pure (.int 0))) (aCons (mVar 1) aNil))) (gUnp 2 (gCon (gPut (mVar 0) (M.pure (.int 0))) (gCon (mSet 2) gEnd)))) (sRet (mVar 2))) sNx) (sSeq (sAsg (xBin .mod (xBin .add (xBin .mul (xIdx (mBor 0) (M.pure (.int 1))) (M.pure (.int 48271))) (M.pure (.int 10037))) (M.pure (.int 2147483587))) (gPut (mVar 0) (M.pure (.int 1)))) (sRet (xBin .mod (xBin .fdv (xBin .mod (xBin .mul (xIdx (mBor 0) (M.pure (.int 1))) (xIdx (mBor 0) (M.pure (.int 1)))) (M.pure (.int 2147483563))) (M.pure (.int 5))) (mVar 1)))))
abbrev fd_113 : FD := ⟨2, 3, b_113⟩
/-- law._law_form -/
def b_114 (P : Prm) : M Flow := (sSeq (sAsg (xCall P 113 2 (aCons (mVar 0) (aCons (M.pure (.int 6)) aNil))) (mSet 2)) (sSeq (sIf (mT (mOr (xCmp .eq (mBor 1) (M.pure (.int 0))) (xCmp .lt (mBor 2) (M.pure (.int 3))))) (sRet (xIdx (xFz (fLst (aCons (M.pure (.str [97,110,121])) (aCons (M.pure (.str [110,117,109])) (aCons (M.pure (.str [116,101,120,116])) aNil))))) (xCall P 113 2 (aCons (mVar 0) (aCons (M.pure (.int 3)) aNil))))) sNx) (sSeq (sIf (mT (xCmp .lt (mBor 2) (M.pure (.int 5)))) (sRet (xTup (aCons (M.pure (.str [100,101,101,100])) (aCons (xCall P 114 2 (aCons (mVar 0) (aCons (xBin .sub (mVar 1) (M.pure (.int 1))) aNil))) (aCons (xCall P 114 2 (aCons (mVar 0) (aCons (xBin .sub (mVar 1) (M.pure (.int 1))) aNil))) aNil))))) sNx) (sRet (xTup (aCons (M.pure (.str [98,111,120])) (aCons (xCall P 114 2 (aCons (mVar 0) (aCons (xBin .sub (mVar 1) (M.pure (.int 1))) aNil))) aNil)))))))
abbrev fd_114 : FD := ⟨2, 3, b_114⟩
/-- law._law_near -/
def b_115 (P : Prm) : M Flow := (sSeq (sIf (mT (xCmp .eq (xCall P 113 2 (aCons (mVar 0) (aCons (M.pure (.int 4)) aNil))) (M.pure (.int 0)))) (sRet (M.pure (.str [97,110,121]))) sNx) (sSeq (sIf (mT (xCmp .eq (mBor 1) (M.pure (.str [97,110,121])))) (sRet (xCall P 114 2 (aCons (mVar 0) (aCons (mVar 2) aNil)))) sNx) (sSeq (sIf (mT (xCmp .in_ (mVar 1) (xTup (aCons (M.pure (.str [110,117,109])) (aCons (M.pure (.str [116,101,120,116])) aNil))))) (sRet (mVar 1)) sNx) (sRet (xBin .add (mSlc (mBor 1) (M.pure none) (mPart (M.pure (.int 1)))) (xBi .tuple (aCons (xFz (fComp (mItems (mSlc (mBor 1) (mPart (M.pure (.int 1))) (M.pure none))) [3] (mSet 3) (M.pure true) (xCall P 115 3 (aCons (mVar 0) (aCons (mVar 3) (aCons (xBi .max2 (aCons (M.pure (.int 0)) (aCons (xBin .sub (mVar 2) (M.pure (.int 1))) aNil))) aNil)))))) aNil)))))))
abbrev fd_115 : FD := ⟨3, 4, b_115⟩
/-- law._law_is_near -/
def b_116 (P : Prm) : M Flow := (sSeq (sIf (mT (mOr (xCmp .in_ (M.pure (.str [97,110,121])) (xTup (aCons (mVar 0) (aCons (mVar 1) aNil)))) (xCmp .eq (mVar 0) (mBor 1)))) (sRet (M.pure (.bl true))) sNx) (sSeq (sIf (mT (mOr (xIsi (mBor 0) .str) (mOr (xIsi (mBor 1) .str) (xCmp .ne (xIdx (mBor 0) (M.pure (.int 0))) (xIdx (mBor 1) (M.pure (.int 0))))))) (sRet (M.pure (.bl false))) sNx) (sRet (xBi .all (aCons (xFz (fComp (mZip (aCons (mSlc (mBor 0) (mPart (M.pure (.int 1))) (M.pure none)) (aCons (mSlc (mBor 1) (mPart (M.pure (.int 1))) (M.pure none)) aNil))) [2, 3] (gUnp 2 (gCon (mSet 2) (gCon (mSet 3) gEnd))) (M.pure true) (xCall P 116 2 (aCons (mVar 2) (aCons (mVar 3) aNil))))) aNil)))))
abbrev fd_116 : FD := ⟨2, 4, b_116⟩
/-- law._law_met -/
def b_118 (P : Prm) : M Flow := (sSeq (sIf (mT (xCmp .eq (mBor 0) (M.pure (.str [97,110,121])))) (sRet (mVar 1)) sNx) (sSeq (sIf (mT (mOr (xCmp .eq (mBor 1) (M.pure (.str [97,110,121]))) (xIsi (mBor 0) .str))) (sRet (mVar 0)) sNx) (sRet (xBin .add (mSlc (mBor 0) (M.pure none) (mPart (M.pure (.int 1)))) (xBi .tuple (aCons (xFz (fComp (mZip (aCons (mSlc (mBor 0) (mPart (M.pure (.int 1))) (M.pure none)) (aCons (mSlc (mBor 1) (mPart (M.pure (.int 1))) (M.pure none)) aNil))) [2, 3] (gUnp 2 (gCon (mSet 2) (gCon (mSet 3) gEnd))) (M.pure true) (xCall P 118 2 (aCons (mVar 2) (aCons (mVar 3) aNil))))) aNil))))))
abbrev fd_118 : FD := ⟨2, 4, b_118⟩
/-- law._law_pick -/
def b_127 (P : Prm) : M Flow := (sRet (xIdx (mVar 1) (xCall P 113 2 (aCons (mVar 0) (aCons (xLen (mBor 1)) aNil)))))
abbrev fd_127 : FD := ⟨2, 2, b_127⟩
/-- law._law_looser -/
def b_128 (P : Prm) : M Flow := (sSeq (sIf (mT (xCmp .eq (xCall P 113 2 (aCons (mVar 0) (aCons (M.pure (.int 4)) aNil))) (M.pure (.int 0)))) (sRet (M.pure (.str [97,110,121]))) sNx) (sSeq (sIf (mT (xIsi (mBor 1) .str)) (sRet (mVar 1)) sNx) (sRet (xBin .add (mSlc (mBor 1) (M.pure none) (mPart (M.pure (.int 1)))) (xBi .tuple (aCons (xFz (fComp (mItems (mSlc (mBor 1) (mPart (M.pure (.int 1))) (M.pure none))) [2] (mSet 2) (M.pure true) (xCall P 128 2 (aCons (mVar 0) (aCons (mVar 2) aNil))))) aNil))))))
abbrev fd_128 : FD := ⟨2, 3, b_128⟩
/-- law._law_joint -/
def b_131 (P : Prm) : M Flow := (sSeq (sIf (mT (xCmp .eq (mBor 0) (M.pure (.str [97,110,121])))) (sRet (mVar 1)) sNx) (sSeq (sIf (mT (mOr (xCmp .eq (mBor 1) (M.pure (.str [97,110,121]))) (xIsi (mBor 0) .str))) (sRet (mVar 0)) sNx) (sRet (xBin .add (mSlc (mBor 0) (M.pure none) (mPart (M.pure (.int 1)))) (xBi .tuple (aCons (xFz (fComp (mZip (aCons (mSlc (mBor 0) (mPart (M.pure (.int 1))) (M.pure none)) (aCons (mSlc (mBor 1) (mPart (M.pure (.int 1))) (M.pure none)) aNil))) [2, 3] (gUnp 2 (gCon (mSet 2) (gCon (mSet 3) gEnd))) (M.pure true) (xCall P 131 2 (aCons (mVar 2) (aCons (mVar 3) aNil))))) aNil))))))
abbrev fd_131 : FD := ⟨2, 4, b_131⟩
/-- formtexts.text_of_form -/
def b_135 (P : Prm) : M Flow := (sSeq (sIf (mT (xIsi (mBor 0) .str)) (sRet (mVar 0)) sNx) (sSeq (sAsg (xFz (fComp (mItems (mSlc (mBor 0) (mPart (M.pure (.int 1))) (M.pure none))) [2] (mSet 2) (M.pure true) (xCall P 135 1 (aCons (mVar 2) aNil)))) (mSet 1)) (sRet (mIte (xCmp .eq (xIdx (mBor 0) (M.pure (.int 0))) (M.pure (.str [100,101,101,100]))) (mJoin [(M.pure (.str [40])), (mFmt (mJoinT (M.pure (.str [62])) (aCons (mVar 1) aNil))), (M.pure (.str [41]))] []) (mJoin [(M.pure (.str [91])), (mFmt (xIdx (mBor 1) (M.pure (.int 0)))), (M.pure (.str [93]))] [])))))
abbrev fd_135 : FD := ⟨1, 3, b_135⟩
/-- formtexts.form_text -/
def b_136 (P : Prm) : M Flow := (sSeq (sEx (xCall P 104 1 (aCons (mVar 0) aNil))) (sRet (xCall P 135 1 (aCons (mVar 0) aNil))))
abbrev fd_136 : FD := ⟨1, 1, b_136⟩
/-- formtexts.want_sign -/
def b_137 (P : Prm) : M Flow := (sIf (mT (xCmp .ne (mSlc (mVar 0) (mPart (mVar 1)) (mPart (xBin .add (mVar 1) (M.pure (.int 1))))) (mBor 2))) (sRai 103) sNx)
abbrev fd_137 : FD := ⟨3, 3, b_137⟩
/-- formtexts.form_at -/
def b_138 (P : Prm) : M Flow := (sSeq (sFor (mItems (M.pure (.tup [(.str [97,110,121]), (.str [110,117,109]), (.str [116,101,120,116])]))) (mSet 3) (sIf (mT (xCmp .eq (mSlc (mVar 0) (mPart (mVar 1)) (mPart (xBin .add (mVar 1) (xLen (mBor 3))))) (mBor 3))) (sRet (xTup (aCons (mVar 3) (aCons (xBin .add (mVar 1) (xLen (mBor 3))) aNil)))) sNx)) (sSeq (sIf (mT (mOr (xCmp .eq (mBor 2) (M.pure (.int 0))) (xCmp .nin (mSlc (mVar 0) (mPart (mVar 1)) (mPart (xBin .add (mVar 1) (M.pure (.int 1))))) (xTup (aCons (M.pure (.str [40])) (aCons (M.pure (.str [91])) aNil)))))) (sRai 103) sNx) (sSeq (sAsg (xCall P 138 3 (aCons (mVar 0) (aCons (xBin .add (mVar 1) (M.pure (.int 1))) (aCons (xBin .sub (mVar 2) (M.pure (.int 1))) aNil)))) (gUnp 2 (gCon (mSet 4) (gCon (mSet 5) gEnd)))) (sSeq (sIf (mT (xCmp .eq (xIdx (mBor 0) (mVar 1)) (M.pure (.str [91])))) (sSeq (sEx (xCall P 137 3 (aCons (mVar 0) (aCons (mVar 5) (aCons (M.pure (.str [93])) aNil))))) (sRet (xTup (aCons (xTup (aCons (M.pure (.str [98,111,120])) (aCons (mVar 4) aNil))) (aCons (xBin .add (mVar 5) (M.pure (.int 1))) aNil))))) sNx) (sSeq (sEx (xCall P 137 3 (aCons (mVar 0) (aCons (mVar 5) (aCons (M.pure (.str [62])) aNil))))) (sSeq (sAsg (xCall P 138 3 (aCons (mVar 0) (aCons (xBin .add (mVar 5) (M.pure (.int 1))) (aCons (xBin .sub (mVar 2) (M.pure (.int 1))) aNil)))) (gUnp 2 (gCon (mSet 6) (gCon (mSet 5) gEnd)))) (sSeq (sEx (xCall P 137 3 (aCons (mVar 0) (aCons (mVar 5) (aCons (M.pure (.str [41])) aNil))))) (sRet (xTup (aCons (xTup (aCons (M.pure (.str [100,101,101,100])) (aCons (mVar 4) (aCons (mVar 6) aNil)))) (aCons (xBin .add (mVar 5) (M.pure (.int 1))) aNil)))))))))))
abbrev fd_138 : FD := ⟨3, 7, b_138⟩
/-- formtexts.read_form -/
def b_139 (P : Prm) : M Flow := (sSeq (sIf (mT (mNot (xIsi (mBor 0) .str))) (sRai 103) sNx) (sSeq (sAsg (xCall P 138 3 (aCons (mVar 0) (aCons (M.pure (.int 0)) (aCons (M.pure (.int 5)) aNil)))) (gUnp 2 (gCon (mSet 1) (gCon (mSet 2) gEnd)))) (sSeq (sIf (mT (xCmp .ne (mVar 2) (xLen (mBor 0)))) (sRai 103) sNx) (sRet (mVar 1)))))
abbrev fd_139 : FD := ⟨1, 3, b_139⟩
/-- law._law_written -/
def b_141 (P : Prm) : M Flow := (sSeq (sIf (mT (xIsi (mBor 0) .str)) (sRet (mVar 0)) sNx) (sSeq (sIf (mT (xCmp .eq (xIdx (mBor 0) (M.pure (.int 0))) (M.pure (.str [98,111,120])))) (sRet (xBin .add (xBin .add (M.pure (.str [91])) (xCall P 141 1 (aCons (xIdx (mBor 0) (M.pure (.int 1))) aNil))) (M.pure (.str [93])))) sNx) (sRet (xBin .add (xBin .add (xBin .add (xBin .add (M.pure (.str [40])) (xCall P 141 1 (aCons (xIdx (mBor 0) (M.pure (.int 1))) aNil))) (M.pure (.str [62]))) (xCall P 141 1 (aCons (xIdx (mBor 0) (M.pure (.int 2))) aNil))) (M.pure (.str [41]))))))
abbrev fd_141 : FD := ⟨1, 1, b_141⟩
/-- forms.is_name -/
def b_149 (P : Prm) : M Flow := (sSeq (sIf (mT (mOr (mNot (xIsi (mBor 0) .str)) (mNot (mChn .le .le (M.pure (.int 1)) (xLen (mBor 0)) (M.pure (.int 8)))))) (sRet (M.pure (.bl false))) sNx) (sRet (xBi .all (aCons (xFz (fComp (mItems (mVar 0)) [1] (mSet 1) (M.pure true) (xCmp .in_ (mBor 1) (M.pure (.str [97,98,99,100,101,102,103,104,105,106,107,108,109,110,111,112,113,114,115,116,117,118,119,120,121,122]))))) aNil))))
abbrev fd_149 : FD := ⟨1, 2, b_149⟩
/-- forms.head_of_form -/
def b_150 (P : Prm) : M Flow := (sSeq (sIf (mT (xCmp .eq (mBor 0) (M.pure (.str [97,110,121])))) (sRet (M.pure .non)) sNx) (sRet (mIte (xIsi (mBor 0) .str) (mVar 0) (xIdx (mBor 0) (M.pure (.int 0))))))
abbrev fd_150 : FD := ⟨1, 1, b_150⟩
/-- forms.head_of -/
def b_151 (P : Prm) : M Flow := (sSeq (sEx (xCall P 104 1 (aCons (mVar 0) aNil))) (sRet (xCall P 150 1 (aCons (mVar 0) aNil))))
abbrev fd_151 : FD := ⟨1, 1, b_151⟩
/-- forms.height_of_form -/
def b_152 (P : Prm) : M Flow := (sSeq (sIf (mT (xIsi (mBor 0) .str)) (sRet (M.pure (.int 0))) sNx) (sRet (xBin .add (M.pure (.int 1)) (xBi .max1 (aCons (xFz (fComp (mItems (mSlc (mBor 0) (mPart (M.pure (.int 1))) (M.pure none))) [1] (mSet 1) (M.pure true) (xCall P 152 1 (aCons (mVar 1) aNil)))) aNil)))))
abbrev fd_152 : FD := ⟨1, 2, b_152⟩
/-- forms.height_of -/
def b_153 (P : Prm) : M Flow := (sSeq (sEx (xCall P 104 1 (aCons (mVar 0) aNil))) (sRet (xCall P 152 1 (aCons (mVar 0) aNil))))
abbrev fd_153 : FD := ⟨1, 1, b_153⟩
/-- forms.wide_of -/
def b_154 (P : Prm) : M Flow := (sSeq (sIf (mT (xCmp .in_ (mBor 0) (M.pure (.dic [((.str [100,101,101,100]), (.int 3)), ((.str [98,111,120]), (.int 2))])))) (sRet (xBin .add (xTup (aCons (mVar 0) aNil)) (xBin .mul (xTup (aCons (M.pure (.str [97,110,121])) aNil)) (xBin .sub (xIdx (M.pure (.dic [((.str [100,101,101,100]), (.int 3)), ((.str [98,111,120]), (.int 2))])) (mVar 0)) (M.pure (.int 1)))))) sNx) (sRet (mVar 0)))
abbrev fd_154 : FD := ⟨1, 1, b_154⟩
/-- seals.is_among -/
def b_158 (P : Prm) : M Flow := (sRet (mAnd (xIsi (mBor 0) .str) (xCmp .in_ (mVar 0) (mBor 1))))
abbrev fd_158 : FD := ⟨2, 2, b_158⟩
/-- seals.is_mark -/
def b_159 (P : Prm) : M Flow := (sRet (mAnd (xIsi (mBor 0) .str) (mAnd (mChn .le .le (M.pure (.int 1)) (xLen (mBor 0)) (M.pure (.int 14))) (xBi .all (aCons (xFz (fComp (mItems (mVar 0)) [1] (mSet 1) (M.pure true) (xCmp .in_ (mBor 1) (M.pure (.str [97,98,99,100,101,102,103,104,105,106,107,108,109,110,111,112,113,114,115,116,117,118,119,120,121,122,48,49,50,51,52,53,54,55,56,57,46]))))) aNil)))))
abbrev fd_159 : FD := ⟨1, 2, b_159⟩
/-- seals.is_asked -/
def b_160 (P : Prm) : M Flow := (sSeq (sIf (mT (mOr (mNot (xIsi (mBor 0) .tuple)) (xCmp .ne (xLen (mBor 0)) (M.pure (.int 3))))) (sRet (M.pure (.bl false))) sNx) (sSeq (sAsg (mVar 0) (gUnp 3 (gCon (mSet 1) (gCon (mSet 2) (gCon (mSet 3) gEnd))))) (sRet (mAnd (xCall P 158 2 (aCons (mVar 1) (aCons (M.pure (.tup [(.str [110,117,109]), (.str [116,101,120,116]), (.str [100,101,101,100]), (.str [98,111,120])])) aNil))) (mAnd (xCall P 159 1 (aCons (mVar 2) aNil)) (xCall P 158 2 (aCons (mVar 3) (aCons (M.pure (.tup [(.str [103,105,118,101,114]), (.str [116,97,107,101,114])])) aNil))))))))
abbrev fd_160 : FD := ⟨1, 4, b_160⟩
/-- seals.head_in -/
def b_161 (P : Prm) : M Flow := (sRet (mIte (xCmp .eq (xIdx (mBor 0) (M.pure (.int 0))) (M.pure (.str [98,114,111,107,101,110]))) (xIdx (mBor 0) (M.pure (.int 1))) (xIdx (mBor 0) (M.pure (.int 0)))))
abbrev fd_161 : FD := ⟨1, 1, b_161⟩
/-- seals.is_low_seal -/
def b_162 (P : Prm) : M Flow := (sSeq (sIf (mT (xIsi (mBor 0) .str)) (sRet (xCmp .eq (mBor 0) (M.pure (.str [115,116,97,121])))) sNx) (sSeq (sIf (mT (mOr (mNot (xIsi (mBor 0) .tuple)) (mOr (xCmp .ne (xLen (mBor 0)) (M.pure (.int 2))) (mNot (xCall P 163 2 (aCons (xIdx (mBor 0) (M.pure (.int 1))) (aCons (mVar 1) aNil))))))) (sRet (M.pure (.bl false))) sNx) (sSeq (sAsg (mVar 0) (gUnp 2 (gCon (mSet 2) (gCon (mSet 3) gEnd)))) (sRet (mOr (xCmp .is_ (mBor 2) (M.pure .non)) (mAnd (xCall P 160 1 (aCons (mVar 2) aNil)) (xCmp .eq (xIdx (mBor 2) (M.pure (.int 0))) (xCall P 161 1 (aCons (mVar 3) aNil)))))))))
abbrev fd_162 : FD := ⟨2, 4, b_162⟩
/-- seals.is_core -/
def b_163 (P : Prm) : M Flow := (sSeq (sIf (mT (mOr (mNot (xIsi (mBor 0) .tuple)) (mOr (xCmp .eq (mVar 0) (xTup aNil)) (mNot (xIsi (xIdx (mBor 0) (M.pure (.int 0))) .str))))) (sRet (M.pure (.bl false))) sNx) (sSeq (sAsg (mVar 0) (gStar (mSet 2) (mSet 3))) (sSeq (sIf (mT (xCmp .eq (mBor 2) (M.pure (.str [98,114,111,107,101,110])))) (sRet (xCall P 160 1 (aCons (mSlc (mBor 0) (mPart (M.pure (.int 1))) (M.pure none)) aNil))) sNx) (sSeq (sIf (mT (xCmp .in_ (mBor 2) (M.pure (.tup [(.str [100,101,101,100]), (.str [98,111,120])])))) (sRet (mAnd (xCmp .eq (xLen (mBor 3)) (M.pure (.int 2))) (mAnd (xCmp .gt (mBor 1) (M.pure (.int 0))) (xBi .all (aCons (xFz (fComp (mItems (mVar 3)) [4] (mSet 4) (M.pure true) (xCall P 162 2 (aCons (mVar 4) (aCons (xBin .sub (mVar 1) (M.pure (.int 1))) aNil))))) aNil))))) sNx) (sRet (mAnd (xCmp .in_ (mBor 2) (M.pure (.tup [(.str [110,117,109]), (.str [116,101,120,116])]))) (xCmp .eq (mBor 3) (M.pure (.lst [])))))))))
abbrev fd_163 : FD := ⟨2, 5, b_163⟩
/-- seals.is_seal -/
def b_164 (P : Prm) : M Flow := (sRet (xCall P 162 2 (aCons (mVar 0) (aCons (M.pure (.int 5)) aNil))))
abbrev fd_164 : FD := ⟨1, 1, b_164⟩
/-- walls.wall_ok -/
def b_165 (P : Prm) : M Flow := (sSeq (sIf (mT (mOr (mNot (xIsi (mBor 0) .tuple)) (xCmp .ne (xLen (mBor 0)) (M.pure (.int 3))))) (sRet (M.pure (.bl false))) sNx) (sSeq (sAsg (mVar 0) (gUnp 3 (gCon (mSet 1) (gCon (mSet 2) (gCon (mSet 3) gEnd))))) (sRet (mAnd (xCall P 159 1 (aCons (mVar 1) aNil)) (mAnd (xCall P 102 1 (aCons (mVar 2) aNil)) (mAnd (xCall P 102 1 (aCons (mVar 3) aNil)) (xCall P 106 2 (aCons (mVar 2) (aCons (mVar 3) aNil)))))))))
abbrev fd_165 : FD := ⟨1, 4, b_165⟩
/-- walls.want_wall -/
def b_166 (P : Prm) : M Flow := (sIf (mT (mNot (xCall P 165 1 (aCons (mVar 0) aNil)))) (sRai 121) sNx)
abbrev fd_166 : FD := ⟨1, 1, b_166⟩
/-- walls.other_side -/
def b_167 (P : Prm) : M Flow := (sRet (xIdx (M.pure (.tup [(.str [103,105,118,101,114]), (.str [116,97,107,101,114])])) (xBin .sub (M.pure (.int 1)) (xMtg .index (.tup [(.str [103,105,118,101,114]), (.str [116,97,107,101,114])]) (aCons (mVar 0) aNil)))))
abbrev fd_167 : FD := ⟨1, 1, b_167⟩
/-- walls.seal_from -/
def b_168 (P : Prm) : M Flow := (sSeq (sAsg (mOr (xCall P 151 1 (aCons (mVar 0) aNil)) (xCall P 151 1 (aCons (mVar 1) aNil))) (mSet 4)) (sSeq (sIf (mT (xCmp .is_ (mBor 4) (M.pure .non))) (sRet (M.pure (.str [115,116,97,121]))) sNx) (sSeq (sIf (mT (xCmp .eq (mBor 0) (M.pure (.str [97,110,121])))) (sRet (xTup (aCons (xTup (aCons (mVar 4) (aCons (mVar 2) (aCons (mVar 3) aNil)))) (aCons (xCall P 169 4 (aCons (xCall P 154 1 (aCons (mVar 4) aNil)) (aCons (mVar 1) (aCons (mVar 2) (aCons (mVar 3) aNil))))) aNil)))) sNx) (sRet (xTup (aCons (M.pure .non) (aCons (xCall P 169 4 (aCons (mVar 0) (aCons (mIte (xCmp .eq (mBor 1) (M.pure (.str [97,110,121]))) (xCall P 154 1 (aCons (mVar 4) aNil)) (mVar 1)) (aCons (mVar 2) (aCons (mVar 3) aNil))))) aNil)))))))
abbrev fd_168 : FD := ⟨4, 5, b_168⟩
/-- walls.core_from -/
def b_169 (P : Prm) : M Flow := (sSeq (sIf (mT (xIsi (mBor 0) .str)) (sRet (xTup (aCons (mVar 0) aNil))) sNx) (sSeq (sAsg (mVar 0) (gStar (mSet 4) (mSet 5))) (sSeq (sAsg (mSlc (mBor 1) (mPart (M.pure (.int 1))) (M.pure none)) (gStar (mSet 6) (mSet 7))) (sSeq (sAsg (xCall P 168 4 (aCons (mVar 6) (aCons (xIdx (mBor 5) (M.pure (.int 0))) (aCons (mVar 2) (aCons (xCall P 167 1 (aCons (mVar 3) aNil)) aNil))))) (mSet 8)) (sSeq (sAsg (xIdx (xBin .add (mVar 7) (xFz (fLst (aCons (mVar 6) aNil)))) (M.pure (.int 0))) (mSet 9)) (sRet (xTup (aCons (mVar 4) (aCons (mVar 8) (aCons (xCall P 168 4 (aCons (xIdx (mBor 5) (xNeg (M.pure (.int 1)))) (aCons (mVar 9) (aCons (mVar 2) (aCons (mVar 3) aNil))))) aNil))))))))))
abbrev fd_169 : FD := ⟨4, 10, b_169⟩
/-- walls.seal_of -/
def b_170 (P : Prm) : M Flow := (sSeq (sEx (xCall P 166 1 (aCons (mVar 0) aNil))) (sSeq (sAsg (mVar 0) (gUnp 3 (gCon (mSet 2) (gCon (mSet 3) (gCon (mSet 4) gEnd))))) (sRet (xCall P 168 4 (aCons (mVar 3) (aCons (mVar 4) (aCons (mVar 2) (aCons (mVar 1) aNil))))))))
abbrev fd_170 : FD := ⟨2, 5, b_170⟩
/-- law._law_mark -/
def b_171 (P : Prm) : M Flow := (sSeq (sAsg (M.pure (.str [97,98,99,100,101,102,103,104,105,106,107,108,109,110,111,112,113,114,115,116,117,118,119,120,121,122,48,49,50,51,52,53,54,55,56,57,46])) (mSet 1)) (sSeq (sAsg (xIdx (xFz (fLst (aCons (M.pure (.int 1)) (aCons (M.pure (.int 2)) (aCons (M.pure (.int 14)) (aCons (xBin .add (M.pure (.int 1)) (xCall P 113 2 (aCons (mVar 0) (aCons (M.pure (.int 14)) aNil)))) aNil)))))) (xCall P 113 2 (aCons (mVar 0) (aCons (M.pure (.int 4)) aNil)))) (mSet 2)) (sRet (mJoinT (M.pure (.str [])) (aCons (xFz (fComp (mRng1 (aCons (mVar 2) aNil)) [3] (mSet 3) (M.pure true) (xIdx (mVar 1) (xCall P 113 2 (aCons (mVar 0) (aCons (M.pure (.int 37)) aNil)))))) aNil)))))
abbrev fd_171 : FD := ⟨1, 4, b_171⟩
/-- seals.want_seal -/
def b_174 (P : Prm) : M Flow := (sIf (mT (mNot (xCall P 164 1 (aCons (mVar 0) aNil)))) (sRai 120) sNx)
abbrev fd_174 : FD := ⟨1, 1, b_174⟩
/-- merging.both -/
def b_175 (P : Prm) : M Flow := (sSeq (sIf (mT (xCmp .in_ (M.pure (.str [115,116,97,121])) (xTup (aCons (mVar 0) (aCons (mVar 1) aNil))))) (sRet (mIte (xCmp .eq (mBor 0) (M.pure (.str [115,116,97,121]))) (mVar 1) (mVar 0))) sNx) (sSeq (sAsg (mVar 0) (gUnp 2 (gCon (mSet 2) (gCon (mSet 3) gEnd)))) (sSeq (sIf (mT (xCmp .eq (xIdx (mBor 3) (M.pure (.int 0))) (M.pure (.str [98,114,111,107,101,110])))) (sRet (mVar 0)) sNx) (sSeq (sAsg (mVar 1) (gUnp 2 (gCon (mSet 4) (gCon (mSet 5) gEnd)))) (sSeq (sAsg (xCall P 161 1 (aCons (mVar 3) aNil)) (mSet 6)) (sSeq (sIf (mT (mAnd (xCmp .nis (mBor 4) (M.pure .non)) (xCmp .ne (xIdx (mBor 4) (M.pure (.int 0))) (mBor 6)))) (sRet (xTup (aCons (mVar 2) (aCons (xBin .add (xTup (aCons (M.pure (.str [98,114,111,107,101,110])) (aCons (mVar 6) aNil))) (mSlc (mBor 4) (mPart (M.pure (.int 1))) (M.pure none))) aNil)))) sNx) (sSeq (sIf (mT (xCmp .ne (xCall P 161 1 (aCons (mVar 5) aNil)) (mBor 6))) (sRai 123) sNx) (sRet (xTup (aCons (mVar 2) (aCons (mIte (xCmp .eq (xIdx (mBor 5) (M.pure (.int 0))) (M.pure (.str [98,114,111,107,101,110]))) (mVar 5) (xCall P 176 2 (aCons (mVar 3) (aCons (mVar 5) aNil)))) aNil)))))))))))
abbrev fd_175 : FD := ⟨2, 7, b_175⟩
/-- merging.joined -/
def b_176 (P : Prm) : M Flow := (sSeq (sIf (mT (xCmp .in_ (xIdx (mBor 0) (M.pure (.int 0))) (M.pure (.tup [(.str [110,117,109]), (.str [116,101,120,116])])))) (sRet (mVar 0)) sNx) (sSeq (sAsg (mVar 0) (gUnp 3 (gCon (mSet 2) (gCon (mSet 3) (gCon (mSet 4) gEnd))))) (sSeq (sAsg (mVar 1) (gUnp 3 (gCon (mSet 5) (gCon (mSet 6) (gCon (mSet 7) gEnd))))) (sRet (xTup (aCons (mVar 2) (aCons (xCall P 175 2 (aCons (mVar 6) (aCons (mVar 3) aNil))) (aCons (xCall P 175 2 (aCons (mVar 4) (aCons (mVar 7) aNil))) aNil))))))))
abbrev fd_176 : FD := ⟨2, 8, b_176⟩
/-- merging.merged -/
def b_177 (P : Prm) : M Flow := (sSeq (sEx (xCall P 174 1 (aCons (mVar 0) aNil))) (sSeq (sEx (xCall P 174 1 (aCons (mVar 1) aNil))) (sRet (xCall P 175 2 (aCons (mVar 0) (aCons (mVar 1) aNil))))))
abbrev fd_177 : FD := ⟨2, 2, b_177⟩
/-- law._law_seal -/
def b_178 (P : Prm) : M Flow := (sSeq (sIf (mT (xCmp .eq (xCall P 113 2 (aCons (mVar 0) (aCons (M.pure (.int 5)) aNil))) (M.pure (.int 0)))) (sRet (M.pure (.str [115,116,97,121]))) sNx) (sSeq (sAsg (xCall P 113 2 (aCons (mVar 0) (aCons (M.pure (.int 6)) aNil))) (mSet 2)) (sSeq (sAsg (xIdx (xFz (fLst (aCons (M.pure (.str [103,105,118,101,114])) (aCons (M.pure (.str [116,97,107,101,114])) aNil)))) (xCall P 113 2 (aCons (mVar 0) (aCons (M.pure (.int 2)) aNil)))) (mSet 3)) (sSeq (sAsg (xIdx (xFz (fLst (aCons (M.pure (.str [110,117,109])) (aCons (M.pure (.str [116,101,120,116])) (aCons (M.pure (.str [100,101,101,100])) (aCons (M.pure (.str [98,111,120])) aNil)))))) (xCall P 113 2 (aCons (mVar 0) (aCons (M.pure (.int 4)) aNil)))) (mSet 4)) (sSeq (sAsg (xTup (aCons (mVar 4) aNil)) (mSet 5)) (sSeq (sIf (mT (mOr (xCmp .eq (mBor 2) (M.pure (.int 0))) (mAnd (xCmp .eq (mBor 1) (M.pure (.int 0))) (xCmp .in_ (mVar 4) (xTup (aCons (M.pure (.str [100,101,101,100])) (aCons (M.pure (.str [98,111,120])) aNil))))))) (sAsg (xTup (aCons (M.pure (.str [98,114,111,107,101,110])) (aCons (mVar 4) (aCons (xCall P 171 1 (aCons (mVar 0) aNil)) (aCons (mVar 3) aNil))))) (mSet 5)) (sIf (mT (xCmp .in_ (mVar 4) (xTup (aCons (M.pure (.str [100,101,101,100])) (aCons (M.pure (.str [98,111,120])) aNil))))) (sAsg (xTup (aCons (mVar 4) (aCons (xCall P 178 2 (aCons (mVar 0) (aCons (xBin .sub (mVar 1) (M.pure (.int 1))) aNil))) (aCons (xCall P 178 2 (aCons (mVar 0) (aCons (xBin .sub (mVar 1) (M.pure (.int 1))) aNil))) aNil)))) (mSet 5)) sNx)) (sSeq (sIf (mT (xCmp .eq (xCall P 113 2 (aCons (mVar 0) (aCons (M.pure (.int 2)) aNil))) (M.pure (.int 0)))) (sRet (xTup (aCons (M.pure .non) (aCons (mVar 5) aNil)))) sNx) (sRet (xTup (aCons (xTup (aCons (mVar 4) (aCons (xCall P 171 1 (aCons (mVar 0) aNil)) (aCons (xIdx (xFz (fLst (aCons (M.pure (.str [103,105,118,101,114])) (aCons (M.pure (.str [116,97,107,101,114])) aNil)))) (xCall P 113 2 (aCons (mVar 0) (aCons (M.pure (.int 2)) aNil)))) aNil)))) (aCons (mVar 5) aNil)))))))))))
abbrev fd_178 : FD := ⟨2, 6, b_178⟩
/-- law._law_row_of_shuts -/
def b_179 (P : Prm) : M Flow := (sSeq (sOwn 3 (fLst aNil)) (sSeq (sAsg (xCall P 114 2 (aCons (mVar 0) (aCons (mVar 2) aNil))) (mSet 4)) (sSeq (sFor (mRng1 (aCons (mVar 1) aNil)) (mSet 5) (sSeq (sAsg (xCall P 115 3 (aCons (mVar 0) (aCons (mVar 4) (aCons (mVar 2) aNil)))) (mSet 6)) (sSeq (sApp 3 (xTup (aCons (xBin .add (M.pure (.str [119])) (xBi .str (aCons (mVar 5) aNil))) (aCons (mVar 4) (aCons (mVar 6) aNil))))) (sAsg (mVar 6) (mSet 4))))) (sRet (mVar 3)))))
abbrev fd_179 : FD := ⟨3, 7, b_179⟩
/-- law._law_core_head -/
def b_184 (P : Prm) : M Flow := (sRet (mIte (xCmp .eq (xIdx (mBor 0) (M.pure (.int 0))) (M.pure (.str [98,114,111,107,101,110]))) (xIdx (mBor 0) (M.pure (.int 1))) (xIdx (mBor 0) (M.pure (.int 0)))))
abbrev fd_184 : FD := ⟨1, 1, b_184⟩
/-- law._law_both -/
def b_185 (P : Prm) : M Flow := (sSeq (sIf (mT (xCmp .in_ (M.pure (.str [117,110,109,101,116])) (xTup (aCons (mVar 0) (aCons (mVar 1) aNil))))) (sRet (M.pure (.str [117,110,109,101,116]))) sNx) (sSeq (sIf (mT (mOr (xCmp .eq (mBor 0) (M.pure (.str [115,116,97,121]))) (xCmp .eq (mBor 1) (M.pure (.str [115,116,97,121]))))) (sRet (xIdx (xFz (fLst (aCons (mVar 0) (aCons (mVar 1) aNil)))) (xBi .int (aCons (xCmp .eq (mBor 0) (M.pure (.str [115,116,97,121]))) aNil)))) sNx) (sSeq (sIf (mT (xCmp .eq (xIdx (xIdx (mBor 0) (M.pure (.int 1))) (M.pure (.int 0))) (M.pure (.str [98,114,111,107,101,110])))) (sRet (mVar 0)) sNx) (sSeq (sAsg (xIdx (xIdx (mBor 0) (M.pure (.int 1))) (M.pure (.int 0))) (mSet 2)) (sSeq (sIf (mT (mAnd (xCmp .nis (xIdx (mBor 1) (M.pure (.int 0))) (M.pure .non)) (xCmp .ne (xIdx (xIdx (mBor 1) (M.pure (.int 0))) (M.pure (.int 0))) (mBor 2)))) (sRet (xTup (aCons (xIdx (mBor 0) (M.pure (.int 0))) (aCons (xBin .add (xTup (aCons (M.pure (.str [98,114,111,107,101,110])) (aCons (mVar 2) aNil))) (mSlc (xIdx (mBor 1) (M.pure (.int 0))) (mPart (M.pure (.int 1))) (M.pure none))) aNil)))) sNx) (sSeq (sIf (mT (xCmp .ne (xCall P 184 1 (aCons (xIdx (mBor 1) (M.pure (.int 1))) aNil)) (mBor 2))) (sRet (M.pure (.str [117,110,109,101,116]))) sNx) (sSeq (sIf (mT (mOr (xCmp .eq (xIdx (xIdx (mBor 1) (M.pure (.int 1))) (M.pure (.int 0))) (M.pure (.str [98,114,111,107,101,110]))) (xCmp .in_ (mVar 2) (xTup (aCons (M.pure (.str [110,117,109])) (aCons (M.pure (.str [116,101,120,116])) aNil)))))) (sRet (xTup (aCons (xIdx (mBor 0) (M.pure (.int 0))) (aCons (xIdx (mBor 1) (M.pure (.int 1))) aNil)))) sNx) (sSeq (sAsg (xTup (aCons (xCall P 185 2 (aCons (xIdx (xIdx (mBor 1) (M.pure (.int 1))) (M.pure (.int 1))) (aCons (xIdx (xIdx (mBor 0) (M.pure (.int 1))) (M.pure (.int 1))) aNil))) (aCons (xCall P 185 2 (aCons (xIdx (xIdx (mBor 0) (M.pure (.int 1))) (M.pure (.int 2))) (aCons (xIdx (xIdx (mBor 1) (M.pure (.int 1))) (M.pure (.int 2))) aNil))) aNil))) (mSet 3)) (sRet (mIte (xCmp .in_ (M.pure (.str [117,110,109,101,116])) (mBor 3)) (M.pure (.str [117,110,109,101,116])) (xTup (aCons (xIdx (mBor 0) (M.pure (.int 0))) (aCons (xBin .add (xTup (aCons (mVar 2) aNil)) (mVar 3)) aNil)))))))))))))
abbrev fd_185 : FD := ⟨2, 4, b_185⟩
/-- merging.merged_row -/
def b_187 (P : Prm) : M Flow := (sSeq (sIf (mT (mNot (xIsi (mBor 0) .list))) (sRai 120) sNx) (sSeq (sFor (mItems (mVar 0)) (mSet 1) (sEx (xCall P 174 1 (aCons (mVar 1) aNil)))) (sSeq (sAsg (M.pure (.str [115,116,97,121])) (mSet 2)) (sSeq (sFor (mItems (mVar 0)) (mSet 1) (sAsg (xCall P 175 2 (aCons (mVar 2) (aCons (mVar 1) aNil))) (mSet 2))) (sRet (mVar 2))))))
abbrev fd_187 : FD := ⟨1, 3, b_187⟩
/-- law._law_read -/
def b_188 (P : Prm) : M Flow := (sSeq (sFor (mItems (xFz (fLst (aCons (M.pure (.str [97,110,121])) (aCons (M.pure (.str [110,117,109])) (aCons (M.pure (.str [116,101,120,116])) aNil)))))) (mSet 3) (sIf (mT (xCmp .eq (mSlc (mVar 0) (mPart (mVar 1)) (mPart (xBin .add (mVar 1) (xLen (mBor 3))))) (mBor 3))) (sRet (xTup (aCons (mVar 3) (aCons (xBin .add (mVar 1) (xLen (mBor 3))) aNil)))) sNx)) (sSeq (sAsg (mSlc (mVar 0) (mPart (mVar 1)) (mPart (xBin .add (mVar 1) (M.pure (.int 1))))) (mSet 4)) (sSeq (sIf (mT (mOr (xCmp .eq (mBor 2) (M.pure (.int 0))) (xCmp .nin (mVar 4) (xFz (fLst (aCons (M.pure (.str [40])) (aCons (M.pure (.str [91])) aNil))))))) (sRet (M.pure .non)) sNx) (sSeq (sAsg (xCall P 188 3 (aCons (mVar 0) (aCons (xBin .add (mVar 1) (M.pure (.int 1))) (aCons (xBin .sub (mVar 2) (M.pure (.int 1))) aNil)))) (mSet 5)) (sSeq (sIf (mT (mOr (xCmp .is_ (mBor 5) (M.pure .non)) (xCmp .ne (mSlc (mVar 0) (mPart (xIdx (mBor 5) (M.pure (.int 1)))) (mPart (xBin .add (xIdx (mBor 5) (M.pure (.int 1))) (M.pure (.int 1))))) (xIdx (xFz (fLst (aCons (M.pure (.str [62])) (aCons (M.pure (.str [93])) aNil)))) (xBi .int (aCons (xCmp .eq (mBor 4) (M.pure (.str [91]))) aNil)))))) (sRet (M.pure .non)) sNx) (sSeq (sIf (mT (xCmp .eq (mBor 4) (M.pure (.str [91])))) (sRet (xTup (aCons (xTup (aCons (M.pure (.str [98,111,120])) (aCons (xIdx (mBor 5) (M.pure (.int 0))) aNil))) (aCons (xBin .add (xIdx (mBor 5) (M.pure (.int 1))) (M.pure (.int 1))) aNil)))) sNx) (sSeq (sAsg (xCall P 188 3 (aCons (mVar 0) (aCons (xBin .add (xIdx (mBor 5) (M.pure (.int 1))) (M.pure (.int 1))) (aCons (xBin .sub (mVar 2) (M.pure (.int 1))) aNil)))) (mSet 6)) (sSeq (sIf (mT (mOr (xCmp .is_ (mBor 6) (M.pure .non)) (xCmp .ne (mSlc (mVar 0) (mPart (xIdx (mBor 6) (M.pure (.int 1)))) (mPart (xBin .add (xIdx (mBor 6) (M.pure (.int 1))) (M.pure (.int 1))))) (M.pure (.str [41]))))) (sRet (M.pure .non)) sNx) (sRet (xTup (aCons (xTup (aCons (M.pure (.str [100,101,101,100])) (aCons (xIdx (mBor 5) (M.pure (.int 0))) (aCons (xIdx (mBor 6) (M.pure (.int 0))) aNil)))) (aCons (xBin .add (xIdx (mBor 6) (M.pure (.int 1))) (M.pure (.int 1))) aNil))))))))))))
abbrev fd_188 : FD := ⟨3, 7, b_188⟩
/-- law._law_name -/
def b_193 (P : Prm) : M Flow := (sSeq (sAsg (M.pure (.str [97,98,99,100,101,102,103,104,105,106,107,108,109,110,111,112,113,114,115,116,117,118,119,120,121,122])) (mSet 2)) (sSeq (sAsg (xIdx (xFz (fLst (aCons (M.pure (.int 1)) (aCons (M.pure (.int 1)) (aCons (M.pure (.int 2)) (aCons (M.pure (.int 3)) (aCons (M.pure (.int 8)) (aCons (xBin .add (M.pure (.int 1)) (xCall P 113 2 (aCons (mVar 0) (aCons (M.pure (.int 8)) aNil)))) aNil)))))))) (xCall P 113 2 (aCons (mVar 0) (aCons (M.pure (.int 6)) aNil)))) (mSet 3)) (sSeq (sAsg (mJoinT (M.pure (.str [])) (aCons (xFz (fComp (mRng1 (aCons (mVar 3) aNil)) [7] (mSet 7) (M.pure true) (xIdx (mVar 2) (xCall P 113 2 (aCons (mVar 0) (aCons (M.pure (.int 26)) aNil)))))) aNil)) (mSet 4)) (sSeq (sIf (mT (xCmp .eq (xCall P 113 2 (aCons (mVar 0) (aCons (M.pure (.int 8)) aNil))) (M.pure (.int 0)))) (sAsg (xIdx (xFz (fLst (aCons (M.pure (.str [99,97,108,108])) (aCons (M.pure (.str [100,101,101,100])) (aCons (M.pure (.str [97,110,121])) (aCons (M.pure (.str [110,117,109])) (aCons (M.pure (.str [116,101,120,116])) (aCons (M.pure (.str [98,111,120])) (aCons (M.pure (.str [108,101,116])) (aCons (M.pure (.str [109,97,105,110])) aNil)))))))))) (xCall P 113 2 (aCons (mVar 0) (aCons (M.pure (.int 8)) aNil)))) (mSet 4)) sNx) (sSeq (sIf (mT (mAnd (xCmp .ne (mBor 1) (M.pure (.lst []))) (xCmp .eq (xCall P 113 2 (aCons (mVar 0) (aCons (M.pure (.int 5)) aNil))) (M.pure (.int 0))))) (sSeq (sAsg (xIdx (mVar 1) (xCall P 113 2 (aCons (mVar 0) (aCons (xLen (mBor 1)) aNil)))) (mSet 5)) (sAsg (xBin .add (mSlc (mVar 5) (M.pure none) (mPart (xCall P 113 2 (aCons (mVar 0) (aCons (xLen (mBor 5)) aNil))))) (mSlc (mBor 4) (M.pure none) (mPart (M.pure (.int 1))))) (mSet 4))) sNx) (sSeq (sIf (mT (xCmp .in_ (mVar 4) (mBor 1))) (sSeq (sAsg (xFz (fComp (mRng1 (aCons (M.pure (.int 80)) aNil)) [7] (mSet 7) (M.pure true) (xBin .add (xBin .add (xIdx (mVar 2) (xBin .fdv (mVar 7) (M.pure (.int 26)))) (xIdx (mVar 2) (xBin .mod (mVar 7) (M.pure (.int 26))))) (M.pure (.str [113]))))) (mSet 6)) (sAsg (xIdx (xFz (fComp (mItems (mVar 6)) [8] (mSet 8) (mT (xCmp .nin (mVar 8) (mBor 1))) (mVar 8))) (M.pure (.int 0))) (mSet 4))) sNx) (sRet (mVar 4))))))))
abbrev fd_193 : FD := ⟨2, 9, b_193⟩
/-- seals.inside -/
def b_202 (P : Prm) : M Flow := (sSeq (sIf (mT (mOr (xCmp .eq (mBor 0) (M.pure (.str [115,116,97,121]))) (xCmp .nin (xIdx (xIdx (mBor 0) (M.pure (.int 1))) (M.pure (.int 0))) (M.pure (.tup [(.str [100,101,101,100]), (.str [98,111,120])]))))) (sRet (xFz (fLst aNil))) sNx) (sRet (xFz (fList (mSlc (xIdx (mBor 0) (M.pure (.int 1))) (mPart (M.pure (.int 1))) (M.pure none))))))
abbrev fd_202 : FD := ⟨1, 1, b_202⟩
/-- seals.core_head -/
def b_203 (P : Prm) : M Flow := (sSeq (sEx (xCall P 174 1 (aCons (mVar 0) aNil))) (sRet (mIte (xCmp .eq (mBor 0) (M.pure (.str [115,116,97,121]))) (M.pure .non) (xCall P 161 1 (aCons (xIdx (mBor 0) (M.pure (.int 1))) aNil)))))
abbrev fd_203 : FD := ⟨1, 1, b_203⟩
/-- seals.seal_height -/
def b_205 (P : Prm) : M Flow := (sSeq (sEx (xCall P 174 1 (aCons (mVar 0) aNil))) (sRet (xCall P 204 1 (aCons (mVar 0) aNil))))
abbrev fd_205 : FD := ⟨1, 1, b_205⟩
/-- seals.parts_of -/
def b_207 (P : Prm) : M Flow := (sSeq (sEx (xCall P 174 1 (aCons (mVar 0) aNil))) (sRet (xCall P 206 1 (aCons (mVar 0) aNil))))
abbrev fd_207 : FD := ⟨1, 1, b_207⟩
/-- seals.inner -/
def b_208 (P : Prm) : M Flow := (sSeq (sEx (xCall P 174 1 (aCons (mVar 0) aNil))) (sRet (xCall P 202 1 (aCons (mVar 0) aNil))))
abbrev fd_208 : FD := ⟨1, 1, b_208⟩
/-- sealtexts.asked_text -/
def b_209 (P : Prm) : M Flow := (sSeq (sAsg (mVar 0) (gUnp 3 (gCon (mSet 1) (gCon (mSet 2) (gCon (mSet 3) gEnd))))) (sRet (xBin .add (xBin .add (xBin .add (mVar 1) (M.pure (.str [63]))) (mVar 2)) (xIdx (M.pure (.str [43,45])) (xMtg .index (.tup [(.str [103,105,118,101,114]), (.str [116,97,107,101,114])]) (aCons (mVar 3) aNil))))))
abbrev fd_209 : FD := ⟨1, 4, b_209⟩
/-- sealtexts.text_of -/
def b_210 (P : Prm) : M Flow := (sSeq (sIf (mT (xCmp .eq (mBor 0) (M.pure (.str [115,116,97,121])))) (sRet (M.pure (.str [45]))) sNx) (sSeq (sAsg (mVar 0) (gUnp 2 (gCon (mSet 1) (gCon (mSet 2) gEnd)))) (sSeq (sAsg (mIte (xCmp .is_ (mBor 1) (M.pure .non)) (M.pure (.str [])) (xBin .add (xCall P 209 1 (aCons (mVar 1) aNil)) (M.pure (.str [59])))) (mSet 3)) (sRet (xBin .add (mVar 3) (xCall P 211 1 (aCons (mVar 2) aNil)))))))
abbrev fd_210 : FD := ⟨1, 4, b_210⟩
/-- sealtexts.core_text -/
def b_211 (P : Prm) : M Flow := (sSeq (sIf (mT (xCmp .eq (xIdx (mBor 0) (M.pure (.int 0))) (M.pure (.str [98,114,111,107,101,110])))) (sRet (xBin .add (M.pure (.str [33])) (xCall P 209 1 (aCons (mSlc (mBor 0) (mPart (M.pure (.int 1))) (M.pure none)) aNil)))) sNx) (sSeq (sIf (mT (xCmp .in_ (xIdx (mBor 0) (M.pure (.int 0))) (M.pure (.tup [(.str [110,117,109]), (.str [116,101,120,116])])))) (sRet (xIdx (mBor 0) (M.pure (.int 0)))) sNx) (sSeq (sAsg (xIdx (M.pure (.dic [((.str [100,101,101,100]), (.str [40,41])), ((.str [98,111,120]), (.str [91,93]))])) (xIdx (mBor 0) (M.pure (.int 0)))) (gUnp 2 (gCon (mSet 1) (gCon (mSet 2) gEnd)))) (sRet (xBin .add (xBin .add (mVar 1) (mJoinT (M.pure (.str [44])) (aCons (xFz (fComp (mItems (mSlc (mBor 0) (mPart (M.pure (.int 1))) (M.pure none))) [3] (mSet 3) (M.pure true) (xCall P 210 1 (aCons (mVar 3) aNil)))) aNil))) (mVar 2))))))
abbrev fd_211 : FD := ⟨1, 4, b_211⟩
/-- sealtexts.seal_text -/
def b_212 (P : Prm) : M Flow := (sSeq (sEx (xCall P 174 1 (aCons (mVar 0) aNil))) (sRet (xCall P 210 1 (aCons (mVar 0) aNil))))
abbrev fd_212 : FD := ⟨1, 1, b_212⟩
/-- law._law_check -/
def b_213 (P : Prm) : M Flow := (sSeq (sIf (mT (xCmp .eq (xCall P 113 2 (aCons (mVar 0) (aCons (M.pure (.int 2)) aNil))) (M.pure (.int 0)))) (sRet (M.pure .non)) sNx) (sRet (xTup (aCons (mVar 1) (aCons (xIdx (mVar 2) (xCall P 113 2 (aCons (mVar 0) (aCons (xLen (mBor 2)) aNil)))) (aCons (xIdx (xFz (fLst (aCons (M.pure (.str [103,105,118,101,114])) (aCons (M.pure (.str [116,97,107,101,114])) aNil)))) (xCall P 113 2 (aCons (mVar 0) (aCons (M.pure (.int 2)) aNil)))) aNil))))))
abbrev fd_213 : FD := ⟨3, 3, b_213⟩
/-- law._law_marks -/
def b_214 (P : Prm) : M Flow := (sRet (xFz (fComp (mRng1 (aCons (xBin .add (M.pure (.int 1)) (xCall P 113 2 (aCons (mVar 0) (aCons (M.pure (.int 4)) aNil)))) aNil)) [1] (mSet 1) (M.pure true) (xCall P 171 1 (aCons (mVar 0) aNil)))))
abbrev fd_214 : FD := ⟨1, 2, b_214⟩
/-- law._law_is_mark -/
def b_215 (P : Prm) : M Flow := (sSeq (sIf (mT (mOr (mNot (xIsi (mBor 0) .str)) (mNot (mChn .le .le (M.pure (.int 1)) (xLen (mBor 0)) (M.pure (.int 14)))))) (sRet (M.pure (.bl false))) sNx) (sRet (xBi .all (aCons (xFz (fComp (mItems (mVar 0)) [1] (mSet 1) (M.pure true) (xCmp .in_ (mBor 1) (M.pure (.str [97,98,99,100,101,102,103,104,105,106,107,108,109,110,111,112,113,114,115,116,117,118,119,120,121,122,48,49,50,51,52,53,54,55,56,57,46]))))) aNil))))
abbrev fd_215 : FD := ⟨1, 2, b_215⟩
/-- law._law_otherwise -/
def b_225 (P : Prm) : M Flow := (sSeq (sIf (mT (mOr (mNot (xIsi (mBor 1) .tuple)) (xCmp .eq (mVar 1) (xTup aNil)))) (sRet (xCall P 186 1 (aCons (mVar 0) aNil))) sNx) (sSeq (sPar 2 3 (aCons (xCall P 113 2 (aCons (mVar 0) (aCons (xLen (mBor 1)) aNil))) (aCons (xCall P 113 2 (aCons (mVar 0) (aCons (M.pure (.int 12)) aNil))) aNil))) (sSeq (sIf (mT (xCmp .lt (mBor 3) (M.pure (.int 8)))) (sRet (xBin .add (xBin .add (mSlc (mBor 1) (M.pure none) (mPart (mVar 2))) (xTup (aCons (xCall P 225 2 (aCons (mVar 0) (aCons (xIdx (mBor 1) (mVar 2)) aNil))) aNil))) (mSlc (mVar 1) (mPart (xBin .add (mVar 2) (M.pure (.int 1)))) (M.pure none)))) sNx) (sSeq (sIf (mT (xCmp .eq (mBor 3) (M.pure (.int 8)))) (sRet (xBin .add (mSlc (mBor 1) (M.pure none) (mPart (mVar 2))) (mSlc (mVar 1) (mPart (xBin .add (mVar 2) (M.pure (.int 1)))) (M.pure none)))) sNx) (sSeq (sIf (mT (xCmp .eq (mBor 3) (M.pure (.int 9)))) (sRet (xBin .add (xBin .add (mSlc (mBor 1) (M.pure none) (mPart (mVar 2))) (xTup (aCons (xIdx (mBor 1) (mVar 2)) aNil))) (mSlc (mBor 1) (mPart (mVar 2)) (M.pure none)))) sNx) (sRet (mIte (xCmp .eq (mBor 3) (M.pure (.int 10))) (xFz (fList (mVar 1))) (xCall P 186 1 (aCons (mVar 0) aNil)))))))))
abbrev fd_225 : FD := ⟨2, 4, b_225⟩
/-- law._law_height -/
def b_246 (P : Prm) : M Flow := (sSeq (sIf (mT (xIsi (mBor 0) .str)) (sRet (M.pure (.int 0))) sNx) (sRet (xBin .add (M.pure (.int 1)) (xBi .max1 (aCons (xFz (fComp (mItems (mSlc (mBor 0) (mPart (M.pure (.int 1))) (M.pure none))) [1] (mSet 1) (M.pure true) (xCall P 246 1 (aCons (mVar 1) aNil)))) aNil)))))
abbrev fd_246 : FD := ⟨1, 2, b_246⟩
/-- law._law_head -/
def b_248 (P : Prm) : M Flow := (sSeq (sIf (mT (xCmp .eq (mBor 0) (M.pure (.str [97,110,121])))) (sRet (M.pure .non)) sNx) (sRet (mIte (xIsi (mBor 0) .str) (mVar 0) (xIdx (mBor 0) (M.pure (.int 0))))))
abbrev fd_248 : FD := ⟨1, 1, b_248⟩
/-- terms.is_whole -/
def b_261 (P : Prm) : M Flow := (sRet (mAnd (xIsi (mBor 0) .int) (mNot (xIsi (mBor 0) .bool))))
abbrev fd_261 : FD := ⟨1, 1, b_261⟩
/-- terms.is_written -/
def b_262 (P : Prm) : M Flow := (sRet (mAnd (xIsi (mBor 0) .str) (mAnd (xCmp .le (xLen (mBor 0)) (M.pure (.int 8))) (xBi .all (aCons (xFz (fComp (mItems (mVar 0)) [1] (mSet 1) (M.pure true) (xCmp .in_ (mBor 1) (M.pure (.str [97,98,99,100,101,102,103,104,105,106,107,108,109,110,111,112,113,114,115,116,117,118,119,120,121,122]))))) aNil)))))
abbrev fd_262 : FD := ⟨1, 2, b_262⟩
/-- terms.is_term -/
def b_263 (P : Prm) : M Flow := (sSeq (sIf (mT (mOr (mNot (xIsi (mBor 0) .tuple)) (mOr (xCmp .eq (mVar 0) (xTup aNil)) (mOr (mNot (xIsi (xIdx (mBor 0) (M.pure (.int 0))) .str)) (xCmp .nin (xIdx (mBor 0) (M.pure (.int 0))) (M.pure (.dic [((.str [110,117,109,98,101,114]), (.str [119])), ((.str [116,101,120,116]), (.str [108])), ((.str [110,97,109,101]), (.str [120])), ((.str [100,101,101,100]), (.str [120,65,101])), ((.str [99,97,108,108]), (.str [101,101])), ((.str [108,101,116]), (.str [120,101,101])), ((.str [116,101,108,108]), (.str [65,101])), ((.str [105,102]), (.str [101,101,101])), ((.str [97,100,100]), (.str [101,101])), ((.str [115,117,98]), (.str [101,101])), ((.str [115,105,122,101]), (.str [101])), ((.str [98,111,120]), (.str [65,101])), ((.str [114,101,97,100]), (.str [101])), ((.str [119,114,105,116,101]), (.str [101,101])), ((.str [115,97,109,101]), (.str [101,101])), ((.str [100,111]), (.str [101,101]))]))))))) (sRet (M.pure (.bl false))) sNx) (sSeq (sAsg (mVar 0) (gStar (mSet 1) (mSet 2))) (sSeq (sAsg (xIdx (M.pure (.dic [((.str [110,117,109,98,101,114]), (.str [119])), ((.str [116,101,120,116]), (.str [108])), ((.str [110,97,109,101]), (.str [120])), ((.str [100,101,101,100]), (.str [120,65,101])), ((.str [99,97,108,108]), (.str [101,101])), ((.str [108,101,116]), (.str [120,101,101])), ((.str [116,101,108,108]), (.str [65,101])), ((.str [105,102]), (.str [101,101,101])), ((.str [97,100,100]), (.str [101,101])), ((.str [115,117,98]), (.str [101,101])), ((.str [115,105,122,101]), (.str [101])), ((.str [98,111,120]), (.str [65,101])), ((.str [114,101,97,100]), (.str [101])), ((.str [119,114,105,116,101]), (.str [101,101])), ((.str [115,97,109,101]), (.str [101,101])), ((.str [100,111]), (.str [101,101]))])) (mVar 1)) (mSet 3)) (sRet (mAnd (xCmp .eq (xLen (mBor 2)) (xLen (mBor 3))) (xBi .all (aCons (xFz (fComp (mZip (aCons (mVar 3) (aCons (mVar 2) aNil))) [4, 5] (gUnp 2 (gCon (mSet 4) (gCon (mSet 5) gEnd))) (M.pure true) (xCall P 264 2 (aCons (mVar 4) (aCons (mVar 5) aNil))))) aNil)))))))
abbrev fd_263 : FD := ⟨1, 6, b_263⟩
/-- terms.fits -/
def b_264 (P : Prm) : M Flow := (sSeq (sIf (mT (xCmp .eq (mBor 0) (M.pure (.str [119])))) (sRet (xCall P 261 1 (aCons (mVar 1) aNil))) sNx) (sSeq (sIf (mT (xCmp .eq (mBor 0) (M.pure (.str [108])))) (sRet (xCall P 262 1 (aCons (mVar 1) aNil))) sNx) (sSeq (sIf (mT (xCmp .eq (mBor 0) (M.pure (.str [120])))) (sRet (xCall P 149 1 (aCons (mVar 1) aNil))) sNx) (sRet (mIte (xCmp .eq (mBor 0) (M.pure (.str [65]))) (xCall P 102 1 (aCons (mVar 1) aNil)) (xCall P 263 1 (aCons (mVar 1) aNil)))))))
abbrev fd_264 : FD := ⟨2, 2, b_264⟩
/-- terms.want_term -/
def b_265 (P : Prm) : M Flow := (sIf (mT (mNot (xCall P 263 1 (aCons (mVar 0) aNil)))) (sRai 147) sNx)
abbrev fd_265 : FD := ⟨1, 1, b_265⟩
/-- terms.terms_in -/
def b_266 (P : Prm) : M Flow := (sSeq (sAsg (mVar 0) (gStar (mSet 1) (mSet 2))) (sRet (xFz (fComp (mZs (aCons (xIdx (M.pure (.dic [((.str [110,117,109,98,101,114]), (.str [119])), ((.str [116,101,120,116]), (.str [108])), ((.str [110,97,109,101]), (.str [120])), ((.str [100,101,101,100]), (.str [120,65,101])), ((.str [99,97,108,108]), (.str [101,101])), ((.str [108,101,116]), (.str [120,101,101])), ((.str [116,101,108,108]), (.str [65,101])), ((.str [105,102]), (.str [101,101,101])), ((.str [97,100,100]), (.str [101,101])), ((.str [115,117,98]), (.str [101,101])), ((.str [115,105,122,101]), (.str [101])), ((.str [98,111,120]), (.str [65,101])), ((.str [114,101,97,100]), (.str [101])), ((.str [119,114,105,116,101]), (.str [101,101])), ((.str [115,97,109,101]), (.str [101,101])), ((.str [100,111]), (.str [101,101]))])) (mVar 1)) (aCons (mVar 2) aNil))) [3, 4] (gUnp 2 (gCon (mSet 3) (gCon (mSet 4) gEnd))) (mT (xCmp .eq (mBor 3) (M.pure (.str [101])))) (mVar 4)))))
abbrev fd_266 : FD := ⟨1, 5, b_266⟩
/-- terms.many_in -/
def b_267 (P : Prm) : M Flow := (sRet (xBin .add (M.pure (.int 1)) (xBi .sum (aCons (xFz (fComp (mItems (xCall P 266 1 (aCons (mVar 0) aNil))) [1] (mSet 1) (M.pure true) (xCall P 267 1 (aCons (mVar 1) aNil)))) aNil))))
abbrev fd_267 : FD := ⟨1, 2, b_267⟩
/-- terms.parts_in -/
def b_268 (P : Prm) : M Flow := (sSeq (sEx (xCall P 265 1 (aCons (mVar 0) aNil))) (sRet (xCall P 267 1 (aCons (mVar 0) aNil))))
abbrev fd_268 : FD := ⟨1, 1, b_268⟩
/-- law._law_pool -/
def b_269 (P : Prm) : M Flow := (sSeq (sOwn 1 (fLst aNil)) (sSeq (sFor (mRng1 (aCons (xBin .add (M.pure (.int 1)) (xCall P 113 2 (aCons (mVar 0) (aCons (M.pure (.int 4)) aNil)))) aNil)) (mSet 2) (sApp 1 (xCall P 193 2 (aCons (mVar 0) (aCons (mVar 1) aNil))))) (sRet (mVar 1))))
abbrev fd_269 : FD := ⟨1, 3, b_269⟩
/-- law._law_number -/
def b_270 (P : Prm) : M Flow := (sSeq (sAsg (xFz (fLst (aCons (M.pure (.int 0)) (aCons (M.pure (.int 1)) (aCons (xNeg (M.pure (.int 1))) (aCons (xBin .sub (xCall P 113 2 (aCons (mVar 0) (aCons (M.pure (.int 40)) aNil))) (M.pure (.int 20))) (aCons (xBin .sub (xBin .pow (M.pure (.int 10)) (M.pure (.int 30))) (M.pure (.int 1))) (aCons (xBin .sub (M.pure (.int 1)) (xBin .pow (M.pure (.int 10)) (M.pure (.int 30)))) aNil)))))))) (mSet 1)) (sRet (xIdx (mVar 1) (xCall P 113 2 (aCons (mVar 0) (aCons (M.pure (.int 6)) aNil))))))
abbrev fd_270 : FD := ⟨1, 2, b_270⟩
/-- law._law_letters -/
def b_271 (P : Prm) : M Flow := (sSeq (sAsg (xIdx (xFz (fLst (aCons (M.pure (.int 0)) (aCons (M.pure (.int 1)) (aCons (M.pure (.int 3)) (aCons (M.pure (.int 8)) aNil)))))) (xCall P 113 2 (aCons (mVar 0) (aCons (M.pure (.int 4)) aNil)))) (mSet 1)) (sRet (mJoinT (M.pure (.str [])) (aCons (xFz (fComp (mRng1 (aCons (mVar 1) aNil)) [2] (mSet 2) (M.pure true) (xIdx (M.pure (.str [97,98,99,100,101,102,103,104,105,106,107,108,109,110,111,112,113,114,115,116,117,118,119,120,121,122])) (xCall P 113 2 (aCons (mVar 0) (aCons (M.pure (.int 26)) aNil)))))) aNil))))
abbrev fd_271 : FD := ⟨1, 3, b_271⟩
/-- law._law_any_term -/
def b_272 (P : Prm) : M Flow := (sSeq (sAsg (xFz (fLst (aCons (M.pure (.str [110,97,109,101])) (aCons (M.pure (.str [110,117,109,98,101,114])) (aCons (M.pure (.str [116,101,120,116])) (aCons (M.pure (.str [100,101,101,100])) (aCons (M.pure (.str [108,101,116])) (aCons (M.pure (.str [100,101,101,100])) (aCons (M.pure (.str [108,101,116])) (aCons (M.pure (.str [99,97,108,108])) (aCons (M.pure (.str [116,101,108,108])) (aCons (M.pure (.str [105,102])) (aCons (M.pure (.str [97,100,100])) (aCons (M.pure (.str [115,117,98])) (aCons (M.pure (.str [115,105,122,101])) (aCons (M.pure (.str [98,111,120])) aNil)))))))))))))))) (mSet 3)) (sSeq (sAsg (xBin .add (mVar 3) (xFz (fLst (aCons (M.pure (.str [114,101,97,100])) (aCons (M.pure (.str [119,114,105,116,101])) (aCons (M.pure (.str [115,97,109,101])) (aCons (M.pure (.str [100,111])) aNil))))))) (mSet 3)) (sSeq (sAsg (xIdx (mVar 3) (xCall P 113 2 (aCons (mVar 0) (aCons (mIte (xCmp .gt (mBor 2) (M.pure (.int 0))) (M.pure (.int 18)) (M.pure (.int 3))) aNil)))) (mSet 4)) (sRet (xBi .tuple (aCons (xBin .add (xFz (fLst (aCons (mVar 4) aNil))) (xFz (fComp (mItems (xCall P 155 1 (aCons (mVar 4) aNil))) [5] (mSet 5) (M.pure true) (xCall P 273 4 (aCons (mVar 0) (aCons (mVar 5) (aCons (mVar 1) (aCons (mVar 2) aNil)))))))) aNil))))))
abbrev fd_272 : FD := ⟨3, 6, b_272⟩
/-- law._law_part -/
def b_273 (P : Prm) : M Flow := (sSeq (sIf (mT (xCmp .eq (mBor 1) (M.pure (.str [119])))) (sRet (xCall P 270 1 (aCons (mVar 0) aNil))) sNx) (sSeq (sIf (mT (xCmp .eq (mBor 1) (M.pure (.str [108])))) (sRet (xCall P 271 1 (aCons (mVar 0) aNil))) sNx) (sSeq (sIf (mT (xCmp .eq (mBor 1) (M.pure (.str [120])))) (sRet (xIdx (mVar 2) (xCall P 113 2 (aCons (mVar 0) (aCons (xLen (mBor 2)) aNil))))) sNx) (sSeq (sIf (mT (xCmp .eq (mBor 1) (M.pure (.str [65])))) (sRet (xCall P 114 2 (aCons (mVar 0) (aCons (xIdx (xFz (fLst (aCons (M.pure (.int 0)) (aCons (M.pure (.int 1)) (aCons (M.pure (.int 2)) (aCons (xIdx (xFz (fLst (aCons (M.pure (.int 2)) (aCons (M.pure (.int 5)) aNil)))) (xBi .int (aCons (xCmp .gt (mBor 3) (M.pure (.int 3))) aNil))) aNil)))))) (xCall P 113 2 (aCons (mVar 0) (aCons (M.pure (.int 4)) aNil)))) aNil)))) sNx) (sRet (xCall P 272 3 (aCons (mVar 0) (aCons (mVar 2) (aCons (xBin .sub (mVar 3) (M.pure (.int 1))) aNil)))))))))
abbrev fd_273 : FD := ⟨4, 4, b_273⟩
/-- termtexts.text_of -/
def b_277 (P : Prm) : M Flow := (sSeq (sAsg (mVar 0) (gStar (mSet 1) (mSet 2))) (sSeq (sIf (mT (xCmp .in_ (mVar 1) (xTup (aCons (M.pure (.str [110,117,109,98,101,114])) (aCons (M.pure (.str [110,97,109,101])) aNil))))) (sRet (xBi .str (aCons (xIdx (mBor 2) (M.pure (.int 0))) aNil))) sNx) (sSeq (sIf (mT (xCmp .eq (mBor 1) (M.pure (.str [116,101,120,116])))) (sRet (xBin .add (xBin .add (M.pure (.str [39])) (xIdx (mBor 2) (M.pure (.int 0)))) (M.pure (.str [39])))) sNx) (sSeq (sAsg (xFz (fComp (mZs (aCons (xIdx (M.pure (.dic [((.str [110,117,109,98,101,114]), (.str [119])), ((.str [116,101,120,116]), (.str [108])), ((.str [110,97,109,101]), (.str [120])), ((.str [100,101,101,100]), (.str [120,65,101])), ((.str [99,97,108,108]), (.str [101,101])), ((.str [108,101,116]), (.str [120,101,101])), ((.str [116,101,108,108]), (.str [65,101])), ((.str [105,102]), (.str [101,101,101])), ((.str [97,100,100]), (.str [101,101])), ((.str [115,117,98]), (.str [101,101])), ((.str [115,105,122,101]), (.str [101])), ((.str [98,111,120]), (.str [65,101])), ((.str [114,101,97,100]), (.str [101])), ((.str [119,114,105,116,101]), (.str [101,101])), ((.str [115,97,109,101]), (.str [101,101])), ((.str [100,111]), (.str [101,101]))])) (mVar 1)) (aCons (mVar 2) aNil))) [4, 5] (gUnp 2 (gCon (mSet 4) (gCon (mSet 5) gEnd))) (M.pure true) (xCall P 278 2 (aCons (mVar 4) (aCons (mVar 5) aNil))))) (mSet 3)) (sRet (xBin .add (xBin .add (M.pure (.str [40])) (mJoinT (M.pure (.str [32])) (aCons (xBin .add (xFz (fLst (aCons (mVar 1) aNil))) (mVar 3)) aNil))) (M.pure (.str [41]))))))))
abbrev fd_277 : FD := ⟨1, 6, b_277⟩
/-- termtexts.part_text -/
def b_278 (P : Prm) : M Flow := (sSeq (sIf (mT (xCmp .eq (mBor 0) (M.pure (.str [101])))) (sRet (xCall P 277 1 (aCons (mVar 1) aNil))) sNx) (sRet (mIte (xCmp .eq (mBor 0) (M.pure (.str [65]))) (xCall P 136 1 (aCons (mVar 1) aNil)) (xBi .str (aCons (mVar 1) aNil)))))
abbrev fd_278 : FD := ⟨2, 2, b_278⟩
/-- termtexts.term_text -/
def b_279 (P : Prm) : M Flow := (sSeq (sEx (xCall P 265 1 (aCons (mVar 0) aNil))) (sRet (xCall P 277 1 (aCons (mVar 0) aNil))))
abbrev fd_279 : FD := ⟨1, 1, b_279⟩
/-- halls.is_hall_form -/
def b_280 (P : Prm) : M Flow := (sRet (mAnd (xCall P 102 1 (aCons (mVar 0) aNil)) (mOr (xCmp .eq (mBor 0) (M.pure (.str [97,110,121]))) (xCmp .eq (xCall P 151 1 (aCons (mVar 0) aNil)) (M.pure (.str [100,101,101,100]))))))
abbrev fd_280 : FD := ⟨1, 1, b_280⟩
/-- halls.is_hall -/
def b_281 (P : Prm) : M Flow := (sSeq (sIf (mT (mOr (mNot (xIsi (mBor 0) .tuple)) (xCmp .ne (xLen (mBor 0)) (M.pure (.int 3))))) (sRet (M.pure (.bl false))) sNx) (sSeq (sAsg (mVar 0) (gUnp 3 (gCon (mSet 1) (gCon (mSet 2) (gCon (mSet 3) gEnd))))) (sRet (mAnd (xCall P 149 1 (aCons (mVar 1) aNil)) (mAnd (xCall P 280 1 (aCons (mVar 2) aNil)) (mAnd (xCall P 263 1 (aCons (mVar 3) aNil)) (xCmp .eq (xIdx (mBor 3) (M.pure (.int 0))) (M.pure (.str [100,101,101,100])))))))))
abbrev fd_281 : FD := ⟨1, 4, b_281⟩
/-- halls.want_hall -/
def b_282 (P : Prm) : M Flow := (sIf (mT (mNot (xCall P 281 1 (aCons (mVar 0) aNil)))) (sRai 146) sNx)
abbrev fd_282 : FD := ⟨1, 1, b_282⟩
/-- halls.hall_text -/
def b_283 (P : Prm) : M Flow := (sSeq (sEx (xCall P 282 1 (aCons (mVar 0) aNil))) (sSeq (sAsg (mVar 0) (gUnp 3 (gCon (mSet 1) (gCon (mSet 2) (gCon (mSet 3) gEnd))))) (sRet (mJoinT (M.pure (.str [32])) (aCons (xFz (fLst (aCons (mVar 1) (aCons (xCall P 136 1 (aCons (mVar 2) aNil)) (aCons (xCall P 279 1 (aCons (mVar 3) aNil)) aNil))))) aNil)))))
abbrev fd_283 : FD := ⟨1, 4, b_283⟩
/-- law._law_plain -/
def b_285 (P : Prm) : M Flow := (sSeq (sIf (mT (xCmp .in_ (mVar 1) (xTup (aCons (M.pure (.str [97,110,121])) (aCons (M.pure (.str [110,117,109])) aNil))))) (sSeq (sAsg (xTup (aCons (M.pure (.str [110,117,109,98,101,114])) (aCons (xIdx (xFz (fLst (aCons (M.pure (.int 0)) (aCons (M.pure (.int 1)) (aCons (xBin .sub (xCall P 113 2 (aCons (mVar 0) (aCons (M.pure (.int 40)) aNil))) (M.pure (.int 20))) (aCons (xBin .sub (xBin .pow (M.pure (.int 10)) (M.pure (.int 30))) (M.pure (.int 1))) aNil)))))) (xCall P 113 2 (aCons (mVar 0) (aCons (M.pure (.int 4)) aNil)))) aNil))) (mSet 2)) (sRet (mIte (xCmp .eq (mBor 1) (M.pure (.str [110,117,109]))) (mVar 2) (xTup (aCons (M.pure (.str [116,101,108,108])) (aCons (M.pure (.str [97,110,121])) (aCons (mVar 2) aNil))))))) sNx) (sSeq (sIf (mT (xCmp .eq (mBor 1) (M.pure (.str [116,101,120,116])))) (sRet (xTup (aCons (M.pure (.str [116,101,120,116])) (aCons (xIdx (xFz (fLst (aCons (M.pure (.str [])) (aCons (M.pure (.str [97])) (aCons (M.pure (.str [122,101,98,114,97])) aNil))))) (xCall P 113 2 (aCons (mVar 0) (aCons (M.pure (.int 3)) aNil)))) aNil)))) sNx) (sSeq (sIf (mT (xCmp .eq (xIdx (mBor 1) (M.pure (.int 0))) (M.pure (.str [100,101,101,100])))) (sRet (xTup (aCons (M.pure (.str [100,101,101,100])) (aCons (M.pure (.str [112])) (aCons (xIdx (mBor 1) (M.pure (.int 1))) (aCons (xCall P 285 2 (aCons (mVar 0) (aCons (xIdx (mBor 1) (M.pure (.int 2))) aNil))) aNil)))))) sNx) (sRet (xTup (aCons (M.pure (.str [98,111,120])) (aCons (xIdx (mBor 1) (M.pure (.int 1))) (aCons (xCall P 285 2 (aCons (mVar 0) (aCons (xIdx (mBor 1) (M.pure (.int 1))) aNil))) aNil))))))))
abbrev fd_285 : FD := ⟨2, 3, b_285⟩
/-- law._law_by_head -/
def b_287 (P : Prm) : M Flow := (sSeq (sIf (mT (xCmp .in_ (mVar 2) (xTup (aCons (M.pure (.str [97,110,121])) (aCons (M.pure (.str [110,117,109])) aNil))))) (sSeq (sAsg (xCall P 113 2 (aCons (mVar 0) (aCons (M.pure (.int 5)) aNil))) (mSet 4)) (sSeq (sPar 5 6 (aCons (xCall P 286 4 (aCons (mVar 0) (aCons (mVar 1) (aCons (M.pure (.str [110,117,109])) (aCons (xBin .sub (mVar 3) (M.pure (.int 1))) aNil))))) (aCons (xCall P 286 4 (aCons (mVar 0) (aCons (mVar 1) (aCons (M.pure (.str [110,117,109])) (aCons (xBin .sub (mVar 3) (M.pure (.int 1))) aNil))))) aNil))) (sSeq (sIf (mT (xCmp .lt (mBor 4) (M.pure (.int 2)))) (sRet (xTup (aCons (xIdx (xFz (fLst (aCons (M.pure (.str [97,100,100])) (aCons (M.pure (.str [115,117,98])) aNil)))) (mVar 4)) (aCons (mVar 5) (aCons (mVar 6) aNil))))) sNx) (sSeq (sIf (mT (xCmp .eq (mBor 4) (M.pure (.int 2)))) (sRet (xTup (aCons (M.pure (.str [115,105,122,101])) (aCons (xCall P 286 4 (aCons (mVar 0) (aCons (mVar 1) (aCons (M.pure (.str [116,101,120,116])) (aCons (xBin .sub (mVar 3) (M.pure (.int 1))) aNil))))) aNil)))) sNx) (sSeq (sAsg (xTup (aCons (M.pure (.str [98,111,120])) (aCons (xCall P 114 2 (aCons (mVar 0) (aCons (M.pure (.int 1)) aNil))) aNil))) (mSet 7)) (sSeq (sPar 5 6 (aCons (xCall P 286 4 (aCons (mVar 0) (aCons (mVar 1) (aCons (mVar 7) (aCons (xBin .sub (mVar 3) (M.pure (.int 1))) aNil))))) (aCons (xCall P 286 4 (aCons (mVar 0) (aCons (mVar 1) (aCons (mVar 7) (aCons (xBin .sub (mVar 3) (M.pure (.int 1))) aNil))))) aNil))) (sRet (mIte (xCmp .eq (mBor 4) (M.pure (.int 3))) (xTup (aCons (M.pure (.str [115,97,109,101])) (aCons (mVar 5) (aCons (mVar 6) aNil)))) (xTup (aCons (M.pure (.str [119,114,105,116,101])) (aCons (mVar 5) (aCons (xTup (aCons (M.pure (.str [116,101,108,108])) (aCons (M.pure (.str [97,110,121])) (aCons (mVar 6) aNil)))) aNil)))))))))))) sNx) (sSeq (sIf (mT (xCmp .eq (mBor 2) (M.pure (.str [116,101,120,116])))) (sRet (xTup (aCons (M.pure (.str [114,101,97,100])) (aCons (xCall P 286 4 (aCons (mVar 0) (aCons (mVar 1) (aCons (xTup (aCons (M.pure (.str [98,111,120])) (aCons (M.pure (.str [116,101,120,116])) aNil))) (aCons (xBin .sub (mVar 3) (M.pure (.int 1))) aNil))))) aNil)))) sNx) (sSeq (sIf (mT (xCmp .eq (xIdx (mBor 2) (M.pure (.int 0))) (M.pure (.str [98,111,120])))) (sSeq (sAsg (xCall P 115 3 (aCons (mVar 0) (aCons (xIdx (mBor 2) (M.pure (.int 1))) (aCons (M.pure (.int 1)) aNil)))) (mSet 8)) (sRet (xTup (aCons (M.pure (.str [98,111,120])) (aCons (mVar 8) (aCons (xTup (aCons (M.pure (.str [116,101,108,108])) (aCons (mVar 8) (aCons (xTup (aCons (M.pure (.str [116,101,108,108])) (aCons (M.pure (.str [97,110,121])) (aCons (xCall P 286 4 (aCons (mVar 0) (aCons (mVar 1) (aCons (mVar 8) (aCons (xBin .sub (mVar 3) (M.pure (.int 1))) aNil))))) aNil)))) aNil)))) aNil)))))) sNx) (sSeq (sPar 8 9 (aCons (xCall P 115 3 (aCons (mVar 0) (aCons (xIdx (mBor 2) (M.pure (.int 1))) (aCons (M.pure (.int 1)) aNil)))) (aCons (xCall P 193 2 (aCons (mVar 0) (aCons (xFz (fLst aNil)) aNil))) aNil))) (sRet (xTup (aCons (M.pure (.str [100,101,101,100])) (aCons (mVar 9) (aCons (mVar 8) (aCons (xCall P 286 4 (aCons (mVar 0) (aCons (xBin .add (mVar 1) (xFz (fLst (aCons (xTup (aCons (mVar 9) (aCons (mVar 8) aNil))) aNil)))) (aCons (xIdx (mBor 2) (M.pure (.int 2))) (aCons (xBin .sub (mVar 3) (M.pure (.int 1))) aNil))))) aNil))))))))))
abbrev fd_287 : FD := ⟨4, 10, b_287⟩
/-- law._law_form_page -/
def b_297 (P : Prm) : M Flow := (sSeq (sIf (mT (xIsi (mBor 0) .str)) (sRet (mVar 0)) sNx) (sSeq (sIf (mT (xCmp .eq (xIdx (mBor 0) (M.pure (.int 0))) (M.pure (.str [98,111,120])))) (sRet (xBin .add (xBin .add (M.pure (.str [91])) (xCall P 297 1 (aCons (xIdx (mBor 0) (M.pure (.int 1))) aNil))) (M.pure (.str [93])))) sNx) (sRet (xBin .add (xBin .add (xBin .add (xBin .add (M.pure (.str [40])) (xCall P 297 1 (aCons (xIdx (mBor 0) (M.pure (.int 1))) aNil))) (M.pure (.str [62]))) (xCall P 297 1 (aCons (xIdx (mBor 0) (M.pure (.int 2))) aNil))) (M.pure (.str [41]))))))
abbrev fd_297 : FD := ⟨1, 1, b_297⟩
/-- law._law_short -/
def b_299 (P : Prm) : M Flow := (sSeq (sAsg (M.pure (.str [97,98,99,100,101,102,103,104,105,106,107,108,109,110,111,112,113,114,115,116,117,118,119,120,121,122])) (mSet 1)) (sSeq (sAsg (mIte (xCmp .eq (mSlc (mBor 0) (M.pure none) (mPart (M.pure (.int 1)))) (M.pure (.str [45]))) (mSlc (mBor 0) (mPart (M.pure (.int 1))) (M.pure none)) (mVar 0)) (mSet 2)) (sSeq (sIf (mT (mAnd (xCmp .ne (mBor 2) (M.pure (.str []))) (xCmp .eq (xFz (fComp (mItems (mVar 2)) [4] (mSet 4) (mT (xCmp .nin (mBor 4) (M.pure (.str [48,49,50,51,52,53,54,55,56,57])))) (mVar 4))) (M.pure (.lst []))))) (sRet (mIte (xCmp .eq (xBi .str (aCons (xBi .int (aCons (mVar 0) aNil)) aNil)) (mBor 0)) (xTup (aCons (M.pure (.str [110,117,109,98,101,114])) (aCons (xBi .int (aCons (mVar 0) aNil)) aNil))) (M.pure .non))) sNx) (sSeq (sIf (mT (mAnd (xCmp .gt (xLen (mBor 0)) (M.pure (.int 1))) (mAnd (xCmp .eq (xIdx (mBor 0) (M.pure (.int 0))) (M.pure (.str [39]))) (xCmp .eq (xIdx (mBor 0) (xNeg (M.pure (.int 1)))) (M.pure (.str [39])))))) (sSeq (sAsg (mAnd (xCmp .lt (xLen (mBor 0)) (M.pure (.int 11))) (xCmp .eq (xFz (fComp (mItems (mSlc (mBor 0) (mPart (M.pure (.int 1))) (mPart (xNeg (M.pure (.int 1)))))) [4] (mSet 4) (mT (xCmp .nin (mVar 4) (mBor 1))) (mVar 4))) (M.pure (.lst [])))) (mSet 3)) (sRet (mIte (mVar 3) (xTup (aCons (M.pure (.str [116,101,120,116])) (aCons (mSlc (mBor 0) (mPart (M.pure (.int 1))) (mPart (xNeg (M.pure (.int 1))))) aNil))) (M.pure .non)))) sNx) (sSeq (sIf (mT (mAnd (mChn .lt .lt (M.pure (.int 0)) (xLen (mBor 0)) (M.pure (.int 9))) (xCmp .eq (xFz (fComp (mItems (mVar 0)) [4] (mSet 4) (mT (xCmp .nin (mVar 4) (mBor 1))) (mVar 4))) (M.pure (.lst []))))) (sRet (xTup (aCons (M.pure (.str [110,97,109,101])) (aCons (mVar 0) aNil)))) sNx) (sRet (M.pure .non)))))))
abbrev fd_299 : FD := ⟨1, 5, b_299⟩
/-- law._law_piece_at -/
def b_302 (P : Prm) : M Flow := (sSeq (sIf (mT (xCmp .ne (mSlc (mVar 0) (mPart (mVar 1)) (mPart (xBin .add (mVar 1) (M.pure (.int 1))))) (M.pure (.str [32])))) (sRet (M.pure .non)) sNx) (sSeq (sIf (mT (xCmp .eq (mBor 2) (M.pure (.str [101])))) (sRet (xCall P 300 2 (aCons (mVar 0) (aCons (xBin .add (mVar 1) (M.pure (.int 1))) aNil)))) sNx) (sSeq (sIf (mT (xCmp .eq (mBor 2) (M.pure (.str [65])))) (sRet (xCall P 188 3 (aCons (mVar 0) (aCons (xBin .add (mVar 1) (M.pure (.int 1))) (aCons (M.pure (.int 5)) aNil))))) sNx) (sSeq (sAsg (xCall P 301 3 (aCons (mVar 0) (aCons (xBin .add (mVar 1) (M.pure (.int 1))) (aCons (M.pure (.str [32,40,41,91,93,62])) aNil)))) (mSet 3)) (sSeq (sAsg (xCall P 299 1 (aCons (mSlc (mVar 0) (mPart (xBin .add (mVar 1) (M.pure (.int 1)))) (mPart (mVar 3))) aNil)) (mSet 4)) (sRet (mIte (mAnd (xCmp .nis (mBor 4) (M.pure .non)) (xCmp .eq (xIdx (mBor 4) (M.pure (.int 0))) (M.pure (.str [110,97,109,101])))) (xTup (aCons (xIdx (mBor 4) (M.pure (.int 1))) (aCons (mVar 3) aNil))) (M.pure .non))))))))
abbrev fd_302 : FD := ⟨3, 5, b_302⟩
/-- law._law_page_spoilt -/
def b_305 (P : Prm) : M Flow := (sSeq (sPar 2 3 (aCons (xCall P 113 2 (aCons (mVar 0) (aCons (xBin .add (xLen (mBor 1)) (M.pure (.int 1))) aNil))) (aCons (xCall P 127 2 (aCons (mVar 0) (aCons (M.pure (.str [32,40,41,91,93,62,39,45,95,48,49,50,55,57,97,98,99,100,101,108,109,110,111,112,114,115,116,117,119,120,121,122,65,44])) aNil))) aNil))) (sSeq (sAsg (xCall P 113 2 (aCons (mVar 0) (aCons (M.pure (.int 9)) aNil))) (mSet 4)) (sSeq (sIf (mT (xCmp .lt (mBor 4) (M.pure (.int 2)))) (sRet (xBin .add (xBin .add (mSlc (mBor 1) (M.pure none) (mPart (mVar 2))) (mVar 3)) (mSlc (mBor 1) (mPart (mVar 2)) (M.pure none)))) sNx) (sSeq (sIf (mT (xCmp .lt (mBor 4) (M.pure (.int 4)))) (sRet (xBin .add (xBin .add (mSlc (mBor 1) (M.pure none) (mPart (mVar 2))) (mVar 3)) (mSlc (mVar 1) (mPart (xBin .add (mVar 2) (M.pure (.int 1)))) (M.pure none)))) sNx) (sSeq (sIf (mT (xCmp .eq (mBor 4) (M.pure (.int 4)))) (sRet (xBin .add (mSlc (mBor 1) (M.pure none) (mPart (mVar 2))) (mSlc (mVar 1) (mPart (xBin .add (mVar 2) (M.pure (.int 1)))) (M.pure none)))) sNx) (sSeq (sIf (mT (xCmp .eq (mBor 4) (M.pure (.int 5)))) (sRet (xBin .add (xBin .add (mSlc (mBor 1) (M.pure none) (mPart (mVar 2))) (xRev (mSlc (mVar 1) (mPart (mVar 2)) (mPart (xBin .add (mVar 2) (M.pure (.int 2))))))) (mSlc (mVar 1) (mPart (xBin .add (mVar 2) (M.pure (.int 2)))) (M.pure none)))) sNx) (sSeq (sAsg (xFz (fLst (aCons (M.pure (.str [100,101,101,100])) (aCons (M.pure (.str [99,97,108,108])) (aCons (M.pure (.str [108,101,116])) (aCons (M.pure (.str [116,101,108,108])) (aCons (M.pure (.str [105,102])) (aCons (M.pure (.str [97,100,100])) (aCons (M.pure (.str [115,105,122,101])) (aCons (M.pure (.str [98,111,120])) (aCons (M.pure (.str [114,101,97,100])) (aCons (M.pure (.str [115,97,109,101])) (aCons (M.pure (.str [100,111])) (aCons (M.pure (.str [97,110,121])) (aCons (M.pure (.str [110,117,109])) (aCons (M.pure (.str [119,97,108,108])) aNil)))))))))))))))) (mSet 5)) (sSeq (sPar 6 7 (aCons (xCall P 127 2 (aCons (mVar 0) (aCons (mVar 5) aNil))) (aCons (xCall P 127 2 (aCons (mVar 0) (aCons (mVar 5) aNil))) aNil))) (sSeq (sIf (mT (mAnd (xCmp .eq (mBor 4) (M.pure (.int 6))) (xCmp .in_ (mVar 6) (mBor 1)))) (sSeq (sAsg (mIndexL (mVar 1) (aCons (mVar 6) aNil)) (mSet 8)) (sRet (xBin .add (xBin .add (mSlc (mBor 1) (M.pure none) (mPart (mVar 8))) (mVar 7)) (mSlc (mVar 1) (mPart (xBin .add (mVar 8) (xLen (mBor 6)))) (M.pure none))))) sNx) (sRet (xIdx (xFz (fLst (aCons (mJoin [(M.pure (.str [40,100,111,32])), (mFmt (mVar 1)), (M.pure (.str [32,49,41]))] []) (aCons (mJoin [(mFmt (mVar 1)), (M.pure (.str [32]))] []) (aCons (mJoin [(M.pure (.str [32])), (mFmt (mVar 1))] []) (aCons (mJoin [(M.pure (.str [40])), (mFmt (mVar 1)), (M.pure (.str [41]))] []) aNil)))))) (xCall P 113 2 (aCons (mVar 0) (aCons (M.pure (.int 4)) aNil))))))))))))))
abbrev fd_305 : FD := ⟨2, 9, b_305⟩
/-- placing.low -/
def b_315 (P : Prm) : M Flow := (sSeq (sIf (mT (xCmp .gt (xCall P 152 1 (aCons (mVar 0) aNil)) (M.pure (.int 5)))) (sRai 122) sNx) (sRet (mVar 0)))
abbrev fd_315 : FD := ⟨1, 1, b_315⟩
/-- placing.of_number -/
def b_316 (P : Prm) : M Flow := (sRet (xTup (aCons (mVar 1) (aCons (M.pure (.str [110,117,109])) aNil))))
abbrev fd_316 : FD := ⟨3, 3, b_316⟩
/-- placing.of_text -/
def b_317 (P : Prm) : M Flow := (sRet (xTup (aCons (mVar 1) (aCons (M.pure (.str [116,101,120,116])) aNil))))
abbrev fd_317 : FD := ⟨3, 3, b_317⟩
/-- placing.terms_within -/
def b_318 (P : Prm) : M Flow := (sRet (mIte (xCmp .eq (xIdx (mBor 0) (M.pure (.int 0))) (M.pure (.str [119,97,108,108]))) (xFz (fLst (aCons (xIdx (mBor 0) (M.pure (.int 4))) aNil))) (xCall P 266 1 (aCons (mVar 0) aNil))))
abbrev fd_318 : FD := ⟨1, 1, b_318⟩
/-- law._law_low -/
def b_319 (P : Prm) : M Flow := (sRet (mIte (xCmp .gt (xCall P 246 1 (aCons (mVar 1) aNil)) (M.pure (.int 5))) (xTup (aCons (M.pure .non) (aCons (M.pure .non) (aCons (xTup (aCons (M.pure (.str [104,105,103,104])) (aCons (M.pure .non) aNil))) aNil)))) (xTup (aCons (mVar 0) (aCons (mVar 1) (aCons (M.pure .non) aNil))))))
abbrev fd_319 : FD := ⟨2, 2, b_319⟩
/-- law._law_fenced -/
def b_320 (P : Prm) : M Flow := (sSeq (sAsg (mVar 0) (gUnp 4 (gCon (mSet 2) (gCon (mSet 3) (gCon (mSet 4) (gCon (mSet 5) gEnd)))))) (sSeq (sIf (mT (xCmp .nis (mBor 5) (M.pure .non))) (sRet (xTup (aCons (M.pure .non) (aCons (mVar 5) aNil)))) sNx) (sSeq (sIf (mT (xCmp .eq (mVar 4) (mBor 1))) (sRet (xTup (aCons (mVar 3) (aCons (M.pure .non) aNil)))) sNx) (sSeq (sIf (mT (mNot (xCall P 116 2 (aCons (mVar 4) (aCons (mVar 1) aNil))))) (sRet (xTup (aCons (M.pure .non) (aCons (xTup (aCons (M.pure (.str [108,101,116])) (aCons (mVar 2) aNil))) aNil)))) sNx) (sRet (xTup (aCons (xTup (aCons (M.pure (.str [119,97,108,108])) (aCons (mVar 2) (aCons (mVar 4) (aCons (mVar 1) (aCons (mVar 3) aNil)))))) (aCons (M.pure .non) aNil))))))))
abbrev fd_320 : FD := ⟨2, 6, b_320⟩
/-- law._law_place -/
def b_321 (P : Prm) : M Flow := (sSeq (sAsg (xIdx (mBor 1) (M.pure (.int 0))) (mSet 3)) (sSeq (sIf (mT (xCmp .in_ (mVar 3) (xTup (aCons (M.pure (.str [110,117,109,98,101,114])) (aCons (M.pure (.str [116,101,120,116])) aNil))))) (sRet (xTup (aCons (mVar 1) (aCons (mIte (xCmp .eq (mBor 3) (M.pure (.str [110,117,109,98,101,114]))) (M.pure (.str [110,117,109])) (M.pure (.str [116,101,120,116]))) (aCons (M.pure .non) aNil))))) sNx) (sSeq (sIf (mT (xCmp .eq (mBor 3) (M.pure (.str [110,97,109,101])))) (sSeq (sAsg (xCall P 328 3 (aCons (mVar 0) (aCons (xIdx (mBor 1) (M.pure (.int 1))) (aCons (mVar 2) aNil)))) (mSet 4)) (sRet (mIte (xCmp .is_ (mBor 4) (M.pure .non)) (xTup (aCons (M.pure .non) (aCons (M.pure .non) (aCons (xTup (aCons (M.pure (.str [110,97,109,101])) (aCons (xIdx (mBor 1) (M.pure (.int 1))) aNil))) aNil)))) (xTup (aCons (mVar 1) (aCons (mVar 4) (aCons (M.pure .non) aNil))))))) sNx) (sSeq (sIf (mT (xCmp .in_ (mVar 3) (xTup (aCons (M.pure (.str [100,101,101,100])) (aCons (M.pure (.str [108,101,116])) (aCons (M.pure (.str [100,111])) aNil)))))) (sRet (xCall P 324 3 (aCons (mVar 0) (aCons (mVar 1) (aCons (mVar 2) aNil))))) sNx) (sSeq (sIf (mT (xCmp .in_ (mVar 3) (xTup (aCons (M.pure (.str [99,97,108,108])) (aCons (M.pure (.str [114,101,97,100])) (aCons (M.pure (.str [119,114,105,116,101])) (aCons (M.pure (.str [115,97,109,101])) aNil))))))) (sRet (xCall P 326 3 (aCons (mVar 0) (aCons (mVar 1) (aCons (mVar 2) aNil))))) sNx) (sSeq (sIf (mT (xCmp .eq (mBor 3) (M.pure (.str [105,102])))) (sRet (xCall P 327 3 (aCons (mVar 0) (aCons (mVar 1) (aCons (mVar 2) aNil))))) sNx) (sSeq (sIf (mT (xCmp .in_ (mVar 3) (xTup (aCons (M.pure (.str [116,101,108,108])) (aCons (M.pure (.str [98,111,120])) aNil))))) (sSeq (sAsg (xCall P 323 4 (aCons (mVar 0) (aCons (xIdx (mBor 1) (M.pure (.int 2))) (aCons (mVar 2) (aCons (xIdx (mBor 1) (M.pure (.int 1))) aNil))))) (gUnp 2 (gCon (mSet 5) (gCon (mSet 6) gEnd)))) (sSeq (sIf (mT (xCmp .nis (mBor 6) (M.pure .non))) (sRet (xTup (aCons (M.pure .non) (aCons (M.pure .non) (aCons (mVar 6) aNil))))) sNx) (sRet (xCall P 319 2 (aCons (xTup (aCons (mVar 3) (aCons (xIdx (mBor 1) (M.pure (.int 1))) (aCons (mVar 5) aNil)))) (aCons (mIte (xCmp .eq (mBor 3) (M.pure (.str [116,101,108,108]))) (xIdx (mBor 1) (M.pure (.int 1))) (xTup (aCons (M.pure (.str [98,111,120])) (aCons (xIdx (mBor 1) (M.pure (.int 1))) aNil)))) aNil)))))) sNx) (sSeq (sOwn 7 (fLst (aCons (mVar 3) aNil))) (sSeq (sFor (mItems (mSlc (mBor 1) (mPart (M.pure (.int 1))) (M.pure none))) (mSet 8) (sSeq (sAsg (xCall P 323 4 (aCons (mVar 0) (aCons (mVar 8) (aCons (mVar 2) (aCons (mIte (xCmp .eq (mBor 3) (M.pure (.str [115,105,122,101]))) (M.pure (.str [116,101,120,116])) (M.pure (.str [110,117,109]))) aNil))))) (gUnp 2 (gCon (mSet 5) (gCon (mSet 6) gEnd)))) (sSeq (sIf (mT (xCmp .nis (mBor 6) (M.pure .non))) (sRet (xTup (aCons (M.pure .non) (aCons (M.pure .non) (aCons (mVar 6) aNil))))) sNx) (sApp 7 (mVar 5))))) (sRet (xTup (aCons (xBi .tuple (aCons (mVar 7) aNil)) (aCons (M.pure (.str [110,117,109])) (aCons (M.pure .non) aNil))))))))))))))
abbrev fd_321 : FD := ⟨3, 9, b_321⟩
/-- law._law_begun -/
def b_322 (P : Prm) : M Flow := (sSeq (sAsg (xBin .add (xIdx (mBor 0) (M.pure (.str [99,111,117,110,116]))) (M.pure (.int 1))) (gPut (mVar 0) (M.pure (.str [99,111,117,110,116])))) (sSeq (sAsg (xBin .add (xBin .add (xIdx (mBor 0) (M.pure (.str [97,104,101,97,100]))) (M.pure (.str [46]))) (xBi .str (aCons (xIdx (mBor 0) (M.pure (.str [99,111,117,110,116]))) aNil))) (mSet 3)) (sRet (xBin .add (xTup (aCons (mVar 3) aNil)) (xCall P 321 3 (aCons (mVar 0) (aCons (mVar 1) (aCons (mVar 2) aNil))))))))
abbrev fd_322 : FD := ⟨3, 4, b_322⟩
/-- law._law_aimed -/
def b_323 (P : Prm) : M Flow := (sRet (xCall P 320 2 (aCons (xCall P 322 3 (aCons (mVar 0) (aCons (mVar 1) (aCons (mVar 2) aNil)))) (aCons (mVar 3) aNil))))
abbrev fd_323 : FD := ⟨4, 4, b_323⟩
/-- law._law_place_loose -/
def b_324 (P : Prm) : M Flow := (sSeq (sAsg (xIdx (mBor 1) (M.pure (.int 0))) (mSet 3)) (sSeq (sIf (mT (xCmp .eq (mBor 3) (M.pure (.str [100,101,101,100])))) (sSeq (sAsg (xCall P 321 3 (aCons (mVar 0) (aCons (xIdx (mBor 1) (M.pure (.int 3))) (aCons (xBin .add (mVar 2) (xFz (fLst (aCons (mSlc (mBor 1) (mPart (M.pure (.int 1))) (mPart (M.pure (.int 3)))) aNil)))) aNil)))) (gUnp 3 (gCon (mSet 4) (gCon (mSet 5) (gCon (mSet 6) gEnd))))) (sSeq (sIf (mT (xCmp .nis (mBor 6) (M.pure .non))) (sRet (xTup (aCons (M.pure .non) (aCons (M.pure .non) (aCons (mVar 6) aNil))))) sNx) (sRet (xCall P 319 2 (aCons (xBin .add (mSlc (mBor 1) (M.pure none) (mPart (M.pure (.int 3)))) (xTup (aCons (mVar 4) aNil))) (aCons (xTup (aCons (M.pure (.str [100,101,101,100])) (aCons (xIdx (mBor 1) (M.pure (.int 2))) (aCons (mVar 5) aNil)))) aNil)))))) sNx) (sSeq (sAsg (xCall P 321 3 (aCons (mVar 0) (aCons (xIdx (mBor 1) (xNeg (M.pure (.int 2)))) (aCons (mVar 2) aNil)))) (gUnp 3 (gCon (mSet 7) (gCon (mSet 8) (gCon (mSet 6) gEnd))))) (sSeq (sIf (mT (xCmp .nis (mBor 6) (M.pure .non))) (sRet (xTup (aCons (M.pure .non) (aCons (M.pure .non) (aCons (mVar 6) aNil))))) sNx) (sSeq (sAsg (mIte (xCmp .eq (mBor 3) (M.pure (.str [108,101,116]))) (xFz (fLst (aCons (xTup (aCons (xIdx (mBor 1) (M.pure (.int 1))) (aCons (mVar 8) aNil))) aNil))) (xFz (fLst aNil))) (mSet 9)) (sSeq (sAsg (xCall P 321 3 (aCons (mVar 0) (aCons (xIdx (mBor 1) (xNeg (M.pure (.int 1)))) (aCons (xBin .add (mVar 2) (mVar 9)) aNil)))) (gUnp 3 (gCon (mSet 10) (gCon (mSet 5) (gCon (mSet 6) gEnd))))) (sRet (mIte (xCmp .is_ (mBor 6) (M.pure .non)) (xTup (aCons (xBin .add (mSlc (mBor 1) (M.pure none) (mPart (xNeg (M.pure (.int 2))))) (xTup (aCons (mVar 7) (aCons (mVar 10) aNil)))) (aCons (mVar 5) (aCons (M.pure .non) aNil)))) (xTup (aCons (M.pure .non) (aCons (M.pure .non) (aCons (mVar 6) aNil))))))))))))
abbrev fd_324 : FD := ⟨3, 11, b_324⟩
/-- law._law_place_headed -/
def b_326 (P : Prm) : M Flow := (sSeq (sAsg (xIdx (mBor 1) (M.pure (.int 0))) (mSet 3)) (sSeq (sAsg (xCall P 325 4 (aCons (mVar 0) (aCons (xIdx (mBor 1) (M.pure (.int 1))) (aCons (mVar 2) (aCons (mIte (xCmp .eq (mBor 3) (M.pure (.str [99,97,108,108]))) (M.pure (.str [100,101,101,100])) (M.pure (.str [98,111,120]))) aNil))))) (gUnp 3 (gCon (mSet 4) (gCon (mSet 5) (gCon (mSet 6) gEnd))))) (sSeq (sIf (mT (xCmp .nis (mBor 6) (M.pure .non))) (sRet (xTup (aCons (M.pure .non) (aCons (M.pure .non) (aCons (mVar 6) aNil))))) sNx) (sSeq (sIf (mT (xCmp .eq (mBor 3) (M.pure (.str [114,101,97,100])))) (sRet (xTup (aCons (xTup (aCons (mVar 3) (aCons (mVar 4) aNil))) (aCons (xIdx (mBor 5) (M.pure (.int 1))) (aCons (M.pure .non) aNil))))) sNx) (sSeq (sIf (mT (xCmp .eq (mBor 3) (M.pure (.str [115,97,109,101])))) (sAsg (xCall P 325 4 (aCons (mVar 0) (aCons (xIdx (mBor 1) (M.pure (.int 2))) (aCons (mVar 2) (aCons (M.pure (.str [98,111,120])) aNil))))) (gUnp 3 (gCon (mSet 7) (gCon (mSet 8) (gCon (mSet 6) gEnd))))) (sAsg (xCall P 323 4 (aCons (mVar 0) (aCons (xIdx (mBor 1) (M.pure (.int 2))) (aCons (mVar 2) (aCons (xIdx (mBor 5) (M.pure (.int 1))) aNil))))) (gUnp 2 (gCon (mSet 7) (gCon (mSet 6) gEnd))))) (sSeq (sIf (mT (xCmp .nis (mBor 6) (M.pure .non))) (sRet (xTup (aCons (M.pure .non) (aCons (M.pure .non) (aCons (mVar 6) aNil))))) sNx) (sRet (xTup (aCons (xTup (aCons (mVar 3) (aCons (mVar 4) (aCons (mVar 7) aNil)))) (aCons (mIte (xCmp .eq (mBor 3) (M.pure (.str [99,97,108,108]))) (xIdx (mBor 5) (M.pure (.int 2))) (M.pure (.str [110,117,109]))) (aCons (M.pure .non) aNil)))))))))))
abbrev fd_326 : FD := ⟨3, 9, b_326⟩
/-- law._law_place_choice -/
def b_327 (P : Prm) : M Flow := (sSeq (sAsg (xCall P 323 4 (aCons (mVar 0) (aCons (xIdx (mBor 1) (M.pure (.int 1))) (aCons (mVar 2) (aCons (M.pure (.str [110,117,109])) aNil))))) (gUnp 2 (gCon (mSet 3) (gCon (mSet 4) gEnd)))) (sSeq (sIf (mT (xCmp .nis (mBor 4) (M.pure .non))) (sRet (xTup (aCons (M.pure .non) (aCons (M.pure .non) (aCons (mVar 4) aNil))))) sNx) (sSeq (sAsg (xCall P 322 3 (aCons (mVar 0) (aCons (xIdx (mBor 1) (M.pure (.int 2))) (aCons (mVar 2) aNil)))) (mSet 5)) (sSeq (sIf (mT (xCmp .nis (xIdx (mBor 5) (M.pure (.int 3))) (M.pure .non))) (sRet (xTup (aCons (M.pure .non) (aCons (M.pure .non) (aCons (xIdx (mBor 5) (M.pure (.int 3))) aNil))))) sNx) (sSeq (sAsg (xCall P 322 3 (aCons (mVar 0) (aCons (xIdx (mBor 1) (M.pure (.int 3))) (aCons (mVar 2) aNil)))) (mSet 6)) (sSeq (sIf (mT (xCmp .nis (xIdx (mBor 6) (M.pure (.int 3))) (M.pure .non))) (sRet (xTup (aCons (M.pure .non) (aCons (M.pure .non) (aCons (xIdx (mBor 6) (M.pure (.int 3))) aNil))))) sNx) (sSeq (sIf (mT (mNot (xCall P 116 2 (aCons (xIdx (mBor 5) (M.pure (.int 2))) (aCons (xIdx (mBor 6) (M.pure (.int 2))) aNil))))) (sRet (xTup (aCons (M.pure .non) (aCons (M.pure .non) (aCons (xTup (aCons (M.pure (.str [108,101,116])) (aCons (xIdx (mBor 6) (M.pure (.int 0))) aNil))) aNil))))) sNx) (sSeq (sAsg (xCall P 131 2 (aCons (xIdx (mBor 5) (M.pure (.int 2))) (aCons (xIdx (mBor 6) (M.pure (.int 2))) aNil))) (mSet 7)) (sRet (xTup (aCons (xTup (aCons (M.pure (.str [105,102])) (aCons (mVar 3) (aCons (xIdx (xCall P 320 2 (aCons (mVar 5) (aCons (mVar 7) aNil))) (M.pure (.int 0))) (aCons (xIdx (xCall P 320 2 (aCons (mVar 6) (aCons (mVar 7) aNil))) (M.pure (.int 0))) aNil))))) (aCons (mVar 7) (aCons (M.pure .non) aNil)))))))))))))
abbrev fd_327 : FD := ⟨3, 8, b_327⟩
/-- law._law_halls -/
def b_334 (P : Prm) : M Flow := (sSeq (sPar3 3 4 5 (aCons (xFz (fLst aNil)) (aCons (xFz (fLst aNil)) (aCons (xFz (fLst aNil)) aNil)))) (sSeq (sFor (mRng1 (aCons (mVar 1) aNil)) (mSet 6) (sSeq (sApp 3 (xCall P 193 2 (aCons (mVar 0) (aCons (mVar 3) aNil)))) (sSeq (sAsg (xTup (aCons (M.pure (.str [100,101,101,100])) (aCons (xCall P 114 2 (aCons (mVar 0) (aCons (M.pure (.int 1)) aNil))) (aCons (xCall P 114 2 (aCons (mVar 0) (aCons (M.pure (.int 1)) aNil))) aNil)))) (mSet 7)) (sApp 4 (xTup (aCons (xIdx (mBor 3) (xNeg (M.pure (.int 1)))) (aCons (xIdx (xFz (fLst (aCons (mVar 7) (aCons (mVar 7) (aCons (M.pure (.str [97,110,121])) aNil))))) (xCall P 113 2 (aCons (mVar 0) (aCons (M.pure (.int 3)) aNil)))) aNil))))))) (sSeq (sFor (mItems (mVar 4)) (gUnp 2 (gCon (mSet 8) (gCon (mSet 9) gEnd))) (sSeq (sAsg (mIte (xCmp .ne (mBor 9) (M.pure (.str [97,110,121]))) (mVar 9) (xTup (aCons (M.pure (.str [100,101,101,100])) (aCons (xCall P 114 2 (aCons (mVar 0) (aCons (M.pure (.int 1)) aNil))) (aCons (xCall P 114 2 (aCons (mVar 0) (aCons (M.pure (.int 1)) aNil))) aNil))))) (mSet 7)) (sSeq (sPar 10 11 (aCons (xCall P 115 3 (aCons (mVar 0) (aCons (xIdx (mBor 7) (M.pure (.int 1))) (aCons (M.pure (.int 1)) aNil)))) (aCons (xCall P 193 2 (aCons (mVar 0) (aCons (xFz (fLst aNil)) aNil))) aNil))) (sSeq (sAsg (xCall P 286 4 (aCons (mVar 0) (aCons (xBin .add (mVar 4) (xFz (fLst (aCons (xTup (aCons (mVar 11) (aCons (mVar 10) aNil))) aNil)))) (aCons (xIdx (mBor 7) (M.pure (.int 2))) (aCons (mVar 2) aNil))))) (mSet 12)) (sApp 5 (xTup (aCons (mVar 8) (aCons (mVar 9) (aCons (xTup (aCons (M.pure (.str [100,101,101,100])) (aCons (mVar 11) (aCons (mVar 10) (aCons (mVar 12) aNil))))) aNil))))))))) (sRet (mVar 5)))))
abbrev fd_334 : FD := ⟨3, 13, b_334⟩
/-- law._law_fences_row -/
def b_356 (P : Prm) : M Flow := (sSeq (sOwn 3 (fLst aNil)) (sSeq (sAsg (xCall P 114 2 (aCons (mVar 0) (aCons (mVar 2) aNil))) (mSet 4)) (sSeq (sFor (mRng1 (aCons (mVar 1) aNil)) (mSet 5) (sSeq (sAsg (xCall P 115 3 (aCons (mVar 0) (aCons (mVar 4) (aCons (mVar 2) aNil)))) (mSet 6)) (sSeq (sApp 3 (xTup (aCons (xBin .add (M.pure (.str [119])) (xBi .str (aCons (mVar 5) aNil))) (aCons (mVar 4) (aCons (mVar 6) aNil))))) (sAsg (mVar 6) (mSet 4))))) (sRet (mVar 3)))))
abbrev fd_356 : FD := ⟨3, 7, b_356⟩
/-- faults.want_walls -/
def b_358 (P : Prm) : M Flow := (sSeq (sIf (mT (mNot (xIsi (mBor 0) .list))) (sRai 121) sNx) (sFor (mItems (mVar 0)) (mSet 1) (sEx (xCall P 166 1 (aCons (mVar 1) aNil)))))
abbrev fd_358 : FD := ⟨1, 2, b_358⟩
/-- faults.rows_of -/
def b_360 (P : Prm) : M Flow := (sSeq (sOwn 2 (fLst aNil)) (sSeq (sFor (mEnum (aCons (mVar 0) aNil)) (gUnp 2 (gCon (mSet 3) (gCon (mSet 4) gEnd))) (sFor (mEnum (aCons (mVar 0) aNil)) (gUnp 2 (gCon (mSet 5) (gCon (mSet 6) gEnd))) (sSeq (sAsg (xCall P 359 2 (aCons (mVar 4) (aCons (mVar 6) aNil))) (mSet 7)) (sSeq (sIf (mT (mAnd (xCmp .nis (mBor 7) (M.pure .non)) (xCmp .nin (xCall P 210 1 (aCons (mVar 7) aNil)) (mBor 1)))) (sRet (M.pure .non)) sNx) (sIf (mT (xCmp .nis (mBor 7) (M.pure .non))) (sApp 2 (xTup (aCons (mVar 3) (aCons (mVar 5) (aCons (xIdx (mVar 1) (xCall P 210 1 (aCons (mVar 7) aNil))) aNil))))) sNx))))) (sRet (mVar 2))))
abbrev fd_360 : FD := ⟨2, 8, b_360⟩
/-- faults.is_paper -/
def b_362 (P : Prm) : M Flow := (sSeq (sIf (mT (mOr (mNot (xIsi (mBor 0) .tuple)) (mOr (xCmp .ne (xLen (mBor 0)) (M.pure (.int 2))) (mNot (xBi .all (aCons (xFz (fComp (mItems (mVar 0)) [3] (mSet 3) (M.pure true) (xIsi (mBor 3) .list))) aNil)))))) (sRet (M.pure (.bl false))) sNx) (sSeq (sAsg (mVar 0) (gUnp 2 (gCon (mSet 1) (gCon (mSet 2) gEnd)))) (sSeq (sIf (mT (mNot (xBi .all (aCons (xFz (fComp (mItems (mVar 1)) [4] (mSet 4) (M.pure true) (xCall P 164 1 (aCons (mVar 4) aNil)))) aNil)))) (sRet (M.pure (.bl false))) sNx) (sRet (xBi .all (aCons (xFz (fComp (mItems (mVar 2)) [5] (mSet 5) (M.pure true) (mAnd (xIsi (mBor 5) .tuple) (mAnd (xCmp .eq (xLen (mBor 5)) (M.pure (.int 3))) (xBi .all (aCons (xFz (fComp (mItems (mVar 5)) [4] (mSet 4) (M.pure true) (xCall P 261 1 (aCons (mVar 4) aNil)))) aNil)))))) aNil))))))
abbrev fd_362 : FD := ⟨1, 6, b_362⟩
/-- looser.is_looser_part -/
def b_383 (P : Prm) : M Flow := (sSeq (sIf (mT (xCmp .eq (mBor 0) (M.pure (.str [101])))) (sRet (xCall P 382 2 (aCons (mVar 1) (aCons (mVar 2) aNil)))) sNx) (sRet (mIte (xCmp .eq (mBor 0) (M.pure (.str [65]))) (xCall P 108 2 (aCons (mVar 1) (aCons (mVar 2) aNil))) (xCmp .eq (mVar 1) (mBor 2)))))
abbrev fd_383 : FD := ⟨3, 3, b_383⟩
/-- looser.is_looser_term -/
def b_384 (P : Prm) : M Flow := (sSeq (sEx (xCall P 265 1 (aCons (mVar 0) aNil))) (sSeq (sEx (xCall P 265 1 (aCons (mVar 1) aNil))) (sRet (xCall P 382 2 (aCons (mVar 0) (aCons (mVar 1) aNil))))))
abbrev fd_384 : FD := ⟨2, 2, b_384⟩
/-- looser.looser_hall -/
def b_385 (P : Prm) : M Flow := (sRet (mAnd (xCmp .eq (xIdx (mBor 0) (M.pure (.int 0))) (xIdx (mBor 1) (M.pure (.int 0)))) (mAnd (xCall P 108 2 (aCons (xIdx (mBor 0) (M.pure (.int 1))) (aCons (xIdx (mBor 1) (M.pure (.int 1))) aNil))) (xCall P 382 2 (aCons (xIdx (mBor 0) (M.pure (.int 2))) (aCons (xIdx (mBor 1) (M.pure (.int 2))) aNil))))))
abbrev fd_385 : FD := ⟨2, 2, b_385⟩
/-- looser.loose_term -/
def b_386 (P : Prm) : M Flow := (sSeq (sAsg (mVar 0) (gStar (mSet 1) (mSet 2))) (sRet (xBi .tuple (aCons (xBin .add (xFz (fLst (aCons (mVar 1) aNil))) (xFz (fComp (mZs (aCons (xIdx (M.pure (.dic [((.str [110,117,109,98,101,114]), (.str [119])), ((.str [116,101,120,116]), (.str [108])), ((.str [110,97,109,101]), (.str [120])), ((.str [100,101,101,100]), (.str [120,65,101])), ((.str [99,97,108,108]), (.str [101,101])), ((.str [108,101,116]), (.str [120,101,101])), ((.str [116,101,108,108]), (.str [65,101])), ((.str [105,102]), (.str [101,101,101])), ((.str [97,100,100]), (.str [101,101])), ((.str [115,117,98]), (.str [101,101])), ((.str [115,105,122,101]), (.str [101])), ((.str [98,111,120]), (.str [65,101])), ((.str [114,101,97,100]), (.str [101])), ((.str [119,114,105,116,101]), (.str [101,101])), ((.str [115,97,109,101]), (.str [101,101])), ((.str [100,111]), (.str [101,101]))])) (mVar 1)) (aCons (mVar 2) aNil))) [3, 4] (gUnp 2 (gCon (mSet 3) (gCon (mSet 4) gEnd))) (M.pure true) (xCall P 387 2 (aCons (mVar 3) (aCons (mVar 4) aNil)))))) aNil))))
abbrev fd_386 : FD := ⟨1, 5, b_386⟩
/-- looser.loose_part -/
def b_387 (P : Prm) : M Flow := (sSeq (sIf (mT (xCmp .eq (mBor 0) (M.pure (.str [101])))) (sRet (xCall P 386 1 (aCons (mVar 1) aNil))) sNx) (sRet (mIte (xCmp .eq (mBor 0) (M.pure (.str [65]))) (M.pure (.str [97,110,121])) (mVar 1))))
abbrev fd_387 : FD := ⟨2, 2, b_387⟩
/-- looser.loosened_term -/
def b_388 (P : Prm) : M Flow := (sSeq (sEx (xCall P 265 1 (aCons (mVar 0) aNil))) (sRet (xCall P 386 1 (aCons (mVar 0) aNil))))
abbrev fd_388 : FD := ⟨1, 1, b_388⟩
/-- engine.want_limit -/
def b_396 (P : Prm) : M Flow := (sIf (mT (mOr (mNot (xIsi (mBor 0) .int)) (mOr (xIsi (mBor 0) .bool) (xCmp .lt (mBor 0) (M.pure (.int 0)))))) (sRai 395) sNx)
abbrev fd_396 : FD := ⟨1, 1, b_396⟩
/-- desk.outcome_text -/
def b_400 (P : Prm) : M Flow := (sSeq (sAsg (mVar 0) (gUnp 2 (gCon (mSet 1) (gCon (mSet 2) gEnd)))) (sSeq (sIf (mT (xCmp .eq (mBor 1) (M.pure (.str [116,111,108,100])))) (sRet (mJoin [(mFmt (M.pure (.str [116,111,108,100]))), (M.pure (.str [32])), (mFmt (mVar 2))] [])) sNx) (sRet (mIte (xCmp .eq (mBor 1) (M.pure (.str [102,97,117,108,116]))) (mJoinT (M.pure (.str [32])) (aCons (xFz (fLst (aCons (M.pure (.str [102,97,117,108,116])) (aCons (xIdx (mBor 2) (M.pure (.int 0))) (aCons (xIdx (mBor 2) (M.pure (.int 1))) aNil))))) aNil)) (mVar 1)))))
abbrev fd_400 : FD := ⟨1, 3, b_400⟩
end Ev

set_option Elab.async false
set_option linter.all false
set_option autoImplicit false
set_option maxRecDepth 100000
namespace Ev
namespace k15
open PySem PySem.Spec PyProof.Rows L2
/-- _law_due: _law_page _law_found -/
def b_172 (P : Prm) : M Flow := (sSeq (sAsg (xCall P 188 3 (aCons (mVar 0) (aCons (M.pure (.int 0)) (aCons (M.pure (.int 5)) aNil)))) (mSet 1)) (sRet (mIte (mOr (xCmp .is_ (mBor 1) (M.pure .non)) (xCmp .ne (xIdx (mBor 1) (M.pure (.int 1))) (xLen (mBor 0)))) (M.pure .non) (xIdx (mBor 1) (M.pure (.int 0))))))
abbrev fd_172 : FD := ⟨1, 2, b_172⟩
/-- _law_told: _law_thing _law_found e -/
def b_124 (P : Prm) : M Flow := (sSeq (sAsg (M.pure .non) (mSet 1)) (sSeq (sTryAs (sAsg (xTup (aCons (M.pure (.str [114,101,97,100])) (aCons (xCall P 139 1 (aCons (mVar 0) aNil)) aNil))) (mSet 1)) (fun n => n == 103) 2 (fun y => (sAsg (xTup (aCons (M.pure (.str [110,111,110,101])) (aCons (mAnd (mIsE 2 ((fun n => n == 103 || n == 119) y.c)) (mIsE 2 ((fun n => n == 103 || n == 119) y.c))) aNil))) (mSet 1)))) (sRet (mVar 1))))
abbrev fd_124 : FD := ⟨1, 3, b_124⟩
/-- _law_spoilt: _law_pot_here _law_page _law_at _law_sign _law_way -/
def b_145 (P : Prm) : M Flow := (sSeq (sPar 2 3 (aCons (xCall P 113 2 (aCons (mVar 0) (aCons (xBin .add (xLen (mBor 1)) (M.pure (.int 1))) aNil))) (aCons (xCall P 127 2 (aCons (mVar 0) (aCons (M.pure (.str [40,41,91,93,62,62,97,110,117,109,116,101,120,116,100,101,98,32,44,45])) aNil))) aNil))) (sSeq (sAsg (xCall P 113 2 (aCons (mVar 0) (aCons (M.pure (.int 8)) aNil))) (mSet 4)) (sSeq (sIf (mT (xCmp .lt (mBor 4) (M.pure (.int 2)))) (sRet (xBin .add (xBin .add (mSlc (mBor 1) (M.pure none) (mPart (mVar 2))) (mVar 3)) (mSlc (mBor 1) (mPart (mVar 2)) (M.pure none)))) sNx) (sSeq (sIf (mT (xCmp .eq (mBor 4) (M.pure (.int 2)))) (sRet (xBin .add (xBin .add (mSlc (mBor 1) (M.pure none) (mPart (mVar 2))) (mVar 3)) (mSlc (mVar 1) (mPart (xBin .add (mVar 2) (M.pure (.int 1)))) (M.pure none)))) sNx) (sSeq (sIf (mT (xCmp .eq (mBor 4) (M.pure (.int 3)))) (sRet (xBin .add (mSlc (mBor 1) (M.pure none) (mPart (mVar 2))) (mSlc (mVar 1) (mPart (xBin .add (mVar 2) (M.pure (.int 1)))) (M.pure none)))) sNx) (sSeq (sIf (mT (xCmp .eq (mBor 4) (M.pure (.int 4)))) (sRet (xBin .add (xBin .add (mSlc (mBor 1) (M.pure none) (mPart (mVar 2))) (xRev (mSlc (mVar 1) (mPart (mVar 2)) (mPart (xBin .add (mVar 2) (M.pure (.int 2))))))) (mSlc (mVar 1) (mPart (xBin .add (mVar 2) (M.pure (.int 2)))) (M.pure none)))) sNx) (sSeq (sIf (mT (xCmp .eq (mBor 4) (M.pure (.int 5)))) (sRet (xBin .add (xBin .add (mSlc (mBor 1) (M.pure none) (mPart (mVar 2))) (mSlc (mBor 1) (M.pure none) (mPart (M.pure (.int 3))))) (mSlc (mBor 1) (mPart (mVar 2)) (M.pure none)))) sNx) (sRet (xIdx (xFz (fLst (aCons (mJoin [(M.pure (.str [91])), (mFmt (mVar 1)), (M.pure (.str [93]))] []) (aCons (mJoin [(M.pure (.str [40])), (mFmt (mVar 1)), (M.pure (.str [62,97,110,121,41]))] []) (aCons (mJoin [(M.pure (.str [40,110,117,109,62])), (mFmt (mVar 1)), (M.pure (.str [41]))] []) (aCons (xBin .add (mVar 1) (mVar 1)) aNil)))))) (xCall P 113 2 (aCons (mVar 0) (aCons (M.pure (.int 4)) aNil))))))))))))
abbrev fd_145 : FD := ⟨2, 5, b_145⟩
/-- _law_right: _law_page _law_due_here -/
def b_125 (P : Prm) : M Flow := (sSeq (sAsg (xCall P 172 1 (aCons (mVar 0) aNil)) (mSet 1)) (sSeq (sIf (mT (xCmp .is_ (mBor 1) (M.pure .non))) (sRet (xCmp .eq (xBi .repr (aCons (xCall P 124 1 (aCons (mVar 0) aNil)) aNil)) (xBi .repr (aCons (xTup (aCons (M.pure (.str [110,111,110,101])) (aCons (M.pure (.bl true)) aNil))) aNil)))) sNx) (sRet (mAnd (xCmp .eq (xBi .repr (aCons (xCall P 124 1 (aCons (mVar 0) aNil)) aNil)) (xBi .repr (aCons (xTup (aCons (M.pure (.str [114,101,97,100])) (aCons (mVar 1) aNil))) aNil))) (xCmp .eq (xCall P 136 1 (aCons (mVar 1) aNil)) (mBor 0))))))
abbrev fd_125 : FD := ⟨1, 2, b_125⟩
/-- law: _law_script _law_k _law_pot_here _law_good _law_page _law_turn _law_high _law_things _law_thing -/
def b_126 (P : Prm) : M Flow := (sSeq (sFor (mRng1 (aCons (xBi .max2 (aCons (M.pure (.int 1)) (aCons (xBi .min2 (aCons (M.pure (.int 6)) (aCons (xLen (mBor 0)) aNil))) aNil))) aNil)) (mSet 1) (sSeq (sAsg (xCall P 112 2 (aCons (mVar 0) (aCons (mVar 1) aNil))) (mSet 2)) (sSeq (sAsg (xCall P 141 1 (aCons (xCall P 114 2 (aCons (mVar 2) (aCons (xCall P 113 2 (aCons (mVar 2) (aCons (M.pure (.int 6)) aNil))) aNil))) aNil)) (mSet 3)) (sSeq (sAsg (mVar 3) (mSet 4)) (sSeq (sFor (mRng1 (aCons (M.pure (.int 4)) aNil)) (mSet 5) (sSeq (sAsg (xCall P 145 2 (aCons (mVar 2) (aCons (mVar 4) aNil))) (mSet 4)) (sIf (mT (mOr (mNot (xCall P 125 1 (aCons (mVar 4) aNil))) (mNot (xCall P 125 1 (aCons (mVar 3) aNil))))) (sRet (M.pure (.bl false))) sNx))) (sSeq (sAsg (xBin .add (xBin .add (xBin .mul (M.pure (.str [91])) (M.pure (.int 5))) (xIdx (xFz (fLst (aCons (M.pure (.str [97,110,121])) (aCons (M.pure (.str [110,117,109])) (aCons (M.pure (.str [116,101,120,116])) aNil))))) (xCall P 113 2 (aCons (mVar 2) (aCons (M.pure (.int 3)) aNil))))) (xBin .mul (M.pure (.str [93])) (M.pure (.int 5)))) (mSet 6)) (sIf (mT (mOr (mNot (xCall P 125 1 (aCons (mVar 6) aNil))) (mOr (mNot (xCall P 125 1 (aCons (xBin .add (xBin .add (M.pure (.str [91])) (mVar 6)) (M.pure (.str [93]))) aNil))) (mNot (xCall P 125 1 (aCons (mJoin [(M.pure (.str [40])), (mFmt (mVar 6)), (M.pure (.str [62,110,117,109,41]))] []) aNil)))))) (sRet (M.pure (.bl false))) sNx))))))) (sSeq (sAsg (xFz (fLst (aCons (M.pure .non) (aCons (M.pure (.int 0)) (aCons (M.pure (.int 7)) (aCons (M.pure (.bl true)) (aCons (M.pure (.bl false)) (aCons (xTup aNil) (aCons (xFz (fLst aNil)) (aCons (M.pure (.dic [])) (aCons (xTup (aCons (M.pure (.str [98,111,120])) (aCons (M.pure (.str [97,110,121])) aNil))) (aCons (xFz (fLst (aCons (M.pure (.str [97,110,121])) aNil))) (aCons (xTup (aCons (M.pure (.str [100,101,101,100])) (aCons (M.pure (.str [97,110,121])) (aCons (M.pure (.str [110,117,109])) aNil)))) (aCons (xTup (aCons (M.pure (.str [97,110,121])) aNil)) aNil)))))))))))))) (mSet 7)) (sRet (mAnd (xCall P 125 1 (aCons (M.pure (.str [])) aNil)) (xBi .all (aCons (xFz (fComp (mItems (mVar 7)) [8] (mSet 8) (M.pure true) (xCmp .eq (xBi .repr (aCons (xCall P 124 1 (aCons (mVar 8) aNil)) aNil)) (xBi .repr (aCons (xTup (aCons (M.pure (.str [110,111,110,101])) (aCons (M.pure (.bl true)) aNil))) aNil))))) aNil))))))
abbrev fd_126 : FD := ⟨1, 9, b_126⟩
def TF : Nat → Option FD
  | 101 => some fd_101
  | 102 => some fd_102
  | 104 => some fd_104
  | 135 => some fd_135
  | 136 => some fd_136
  | 137 => some fd_137
  | 138 => some fd_138
  | 139 => some fd_139
  | 112 => some fd_112
  | 113 => some fd_113
  | 127 => some fd_127
  | 114 => some fd_114
  | 141 => some fd_141
  | 188 => some fd_188
  | 172 => some fd_172
  | 124 => some fd_124
  | 145 => some fd_145
  | 125 => some fd_125
  | 126 => some fd_126
  | _ => none
def TT : Tb := ⟨TF, shownD, 4096⟩
instance : Fn TT 101 fd_101 := ⟨rfl⟩
instance : Fn TT 102 fd_102 := ⟨rfl⟩
instance : Fn TT 104 fd_104 := ⟨rfl⟩
instance : Fn TT 135 fd_135 := ⟨rfl⟩
instance : Fn TT 136 fd_136 := ⟨rfl⟩
instance : Fn TT 137 fd_137 := ⟨rfl⟩
instance : Fn TT 138 fd_138 := ⟨rfl⟩
instance : Fn TT 139 fd_139 := ⟨rfl⟩
instance : Fn TT 112 fd_112 := ⟨rfl⟩
instance : Fn TT 113 fd_113 := ⟨rfl⟩
instance : Fn TT 127 fd_127 := ⟨rfl⟩
instance : Fn TT 114 fd_114 := ⟨rfl⟩
instance : Fn TT 141 fd_141 := ⟨rfl⟩
instance : Fn TT 188 fd_188 := ⟨rfl⟩
instance : Fn TT 172 fd_172 := ⟨rfl⟩
instance : Fn TT 124 fd_124 := ⟨rfl⟩
instance : Fn TT 145 fd_145 := ⟨rfl⟩
instance : Fn TT 125 fd_125 := ⟨rfl⟩
instance : Fn TT 126 fd_126 := ⟨rfl⟩
abbrev PP (k : Nat) : Prm := TT.prm (callT TT k)
def top (i : Nat) : Stmt := PySem.Challenge.pw_wallseal_k15_form_texts_spoilt.main.body.getD i (.Pass ⟨0, 0, 0, 0⟩)
structure Fx (P : PySem.Program) (w : World) (K : PySem.W.Frag) (mg : Str → Option Value) (base : Heap) (c : Kx) (k : Nat) : Prop where
  g_isinstance : mg "isinstance" = none
  g_str : mg "str" = none
  c_PLAIN : Gc mg c "PLAIN" (.tup [(.str [97,110,121]), (.str [110,117,109]), (.str [116,101,120,116])])
  g_tuple : mg "tuple" = none
  g_len : mg "len" = none
  c_WIDTHS : Gc mg c "WIDTHS" (.dic [((.str [100,101,101,100]), (.int 3)), ((.str [98,111,120]), (.int 2))])
  f_101 : Fe P w K mg base c (callT TT k) k "is_form_to" 101 ["thing", "high"] (fun fd => Binds K fd ["thing", "high"] [])
  g_all : mg "all" = none
  c_MOST_HEIGHT : Gc mg c "MOST_HEIGHT" (.int 5)
  f_102 : Fe P w K mg base c (callT TT k) k "is_form" 102 ["thing"] (fun fd => Binds K fd ["thing"] [])
  e_103 : Ge mg K c "NoForm" 103
  f_135 : Fe P w K mg base c (callT TT k) k "text_of_form" 135 ["form"] (fun fd => Binds K fd ["form"] [])
  c_DEED : Gc mg c "DEED" (.str [100,101,101,100])
  f_104 : Fe P w K mg base c (callT TT k) k "want_form" 104 ["thing"] (fun fd => Binds K fd ["thing"] [])
  f_138 : Fe P w K mg base c (callT TT k) k "form_at" 138 ["text", "at", "high"] (fun fd => Binds K fd ["text", "at", "high"] [])
  f_137 : Fe P w K mg base c (callT TT k) k "want_sign" 137 ["text", "at", "sign"] (fun fd => Binds K fd ["text", "at", "sign"] [])
  c_BOX : Gc mg c "BOX" (.str [98,111,120])
  g_abs : mg "abs" = none
  g_max : mg "max" = none
  g_divmod : mg "divmod" = none
  f_113 : Fe P w K mg base c (callT TT k) k "_law_digit" 113 ["_law_pot_here", "_law_many"] (fun fd => Binds K fd ["_law_pot_here", "_law_many"] [])
  f_114 : Fe P w K mg base c (callT TT k) k "_law_form" 114 ["_law_pot_here", "_law_high"] (fun fd => Binds K fd ["_law_pot_here", "_law_high"] [])
  f_141 : Fe P w K mg base c (callT TT k) k "_law_written" 141 ["_law_form_here"] (fun fd => Binds K fd ["_law_form_here"] [])
  f_188 : Fe P w K mg base c (callT TT k) k "_law_read" 188 ["_law_page", "_law_at", "_law_high"] (fun fd => Binds K fd ["_law_page", "_law_at", "_law_high"] [])
  g_int : mg "int" = none
  h_103 : Gh mg K c "NoForm" (fun n => n == 103)
  f_139 : Fe P w K mg base c (callT TT k) k "read_form" 139 ["text"] (fun fd => Binds K fd ["text"] [])
  i_ValueError : Gi mg K c.ca "ValueError" (fun n => n == 103 || n == 119)
  x_exc : ∀ n C, n ≠ 0 → c.ca n = some C → ExcC K C
  i_WallError : Gi mg K c.ca "WallError" (fun n => n == 103 || n == 119)
  f_127 : Fe P w K mg base c (callT TT k) k "_law_pick" 127 ["_law_pot_here", "_law_some"] (fun fd => Binds K fd ["_law_pot_here", "_law_some"] [])
  f_172 : Fe P w K mg base c (callT TT k) k "_law_due" 172 ["_law_page"] (fun fd => Binds K fd ["_law_page"] [])
  f_124 : Fe P w K mg base c (callT TT k) k "_law_told" 124 ["_law_thing"] (fun fd => Binds K fd ["_law_thing"] [])
  g_repr : mg "repr" = none
  f_136 : Fe P w K mg base c (callT TT k) k "form_text" 136 ["form"] (fun fd => Binds K fd ["form"] [])
  g_min : mg "min" = none
  g_range : mg "range" = none
  f_112 : Fe P w K mg base c (callT TT k) k "_law_pot" 112 ["_law_script", "_law_k"] (fun fd => Binds K fd ["_law_script", "_law_k"] [])
  f_145 : Fe P w K mg base c (callT TT k) k "_law_spoilt" 145 ["_law_pot_here", "_law_page"] (fun fd => Binds K fd ["_law_pot_here", "_law_page"] [])
  f_125 : Fe P w K mg base c (callT TT k) k "_law_right" 125 ["_law_page"] (fun fd => Binds K fd ["_law_page"] [])
abbrev Walks (P : PySem.Program) (w : World) (K : PySem.W.Frag) (mg : Str → Option Value) (base : Heap) (ca : Nat → Option Addr) (k : Nat) (N : List Str) (qual : Str) (scope : Scope) (body : List Stmt) (m : M Flow) : Prop :=
  ∀ (f : Addr) (cdv : Value) (A : Around) (outer : List PySem.Env) (s : Shared) (H : Hp) (E : XK), Room k (A.deeper (envOfC qual scope s.heap.objs.size f cdv)) → (A.deeper (envOfC qual scope s.heap.objs.size f cdv)).guards = some [] →
    PSs (cxOf (L2.CX P w) P w K mg base N qual scope f cdv A outer s H E) body (tS ⟨K, w, ca⟩ (fun cls d _ H => E cls d H) m)
section
variable {P : PySem.Program} {w : World} {K : PySem.W.Frag} {mg : Str → Option Value} {base : Heap} {ca : Nat → Option Addr} {k : Nat}
theorem w_101 (Z : Fx P w K mg base ⟨K, w, ca⟩ k) : Walks P w K mg base ca k ["thing", "high", "word", "parts", "part"] "is_form_to" (defScope (top 9)) (defBody (top 9)) (b_101 (TT.prm (callT TT k))) := by
  intro f cdv A outer s H E hr hg
  have B := bg_of (P := P) (w := w) (K := K) (mg := mg) (base := base) (N := ["thing", "high", "word", "parts", "part"]) (f := f) (cdv := cdv) (A := A) (outer := outer) (s := s) (H := H) (E := E) (ca := ca) hr hg (by decide +kernel)
  have hp : PassesOwn (model P w) (cxOf (L2.CX P w) P w K mg base ["thing", "high", "word", "parts", "part"] "is_form_to" (defScope (top 9)) f cdv A outer s H E).A (cxOf (L2.CX P w) P w K mg base ["thing", "high", "word", "parts", "part"] "is_form_to" (defScope (top 9)) f cdv A outer s H E).env (cxOf (L2.CX P w) P w K mg base ["thing", "high", "word", "parts", "part"] "is_form_to" (defScope (top 9)) f cdv A outer s H E).xe := passes_of rfl
  exact (os_seq (os_if (kT_of B (k_isi B .str Z.g_isinstance rfl Z.g_str rfl (k_bvar B 0 rfl rfl) rfl rfl (by decide) (by decide) rfl rfl rfl rfl) (fun _ => rfl)) (os_one (os_ret (k_cmp2 B .in_ (k_bvar B 0 rfl rfl) (k_sglo Z.c_PLAIN rfl rfl) rfl))) os_nil)
    (os_seq (os_if (PW.pt (okW_or (kT_not (kT_of B (k_isi B .tuple Z.g_isinstance rfl Z.g_tuple rfl (k_bvar B 0 rfl rfl) rfl rfl (by decide) (by decide) rfl rfl rfl rfl) (fun _ => rfl))) (okW_or (kT_cmp B .eq (k_var B 0 rfl rfl) (PE.toBo (k_tup k_nil)) rfl) (okW_one_or (kT_cmp2 B .eq (k_bvar B 1 rfl rfl) k_sint rfl))))) (os_one (os_ret ok_bl)) os_nil)
    (os_seq (os_asg (k_var B 0 rfl rfl) (g_star B zr_any (g_name B 2 rfl rfl rfl (zAny_set 2)) (g_name B 3 rfl rfl rfl (zAny_set 3)) rfl rfl rfl) rfl rfl rfl)
    (os_seq (os_if (PW.pt (okW_or (kT_not (kT_of B (k_isi B .str Z.g_isinstance rfl Z.g_str rfl (k_bvar B 2 rfl rfl) rfl rfl (by decide) (by decide) rfl rfl rfl rfl) (fun _ => rfl))) (okW_or (kT_cmp2 B .nin (k_bvar B 2 rfl rfl) (k_sglo Z.c_WIDTHS rfl rfl) rfl) (okW_one_or (kT_cmp B .ne (k_len B Z.g_len rfl (k_bvar B 0 rfl rfl) rfl (by decide) rfl rfl rfl) (PE.toBo (k_idx2 B (PE.toBo (k_glo Z.c_WIDTHS rfl rfl)) (k_svar B 2 rfl rfl) (fun _ _ => rfl))) rfl))))) (os_one (os_ret ok_bl)) os_nil)
    (os_one (os_ret (k_bi B .all rfl Z.g_all rfl (k_cons (k_fz (kF_comp B (oi_sq B.hK (k_var B 3 rfl rfl)) (blkOk_by (N := ["thing", "high", "word", "parts", "part"]) (sc := defScope (top 9)) (own := [("part", 4)]) (by decide +kernel)) rfl (fun s0 H0 C0 cl0 fp0 B => (g_name B 4 rfl rfl rfl (zOwn_set (by decide)))) (fun s0 H0 C0 cl0 fp0 B => ots_nil) (fun s0 H0 C0 cl0 fp0 B => (k_call (P := PP k) B Z.f_101 (k_cons (k_var B 4 rfl rfl) (k_cons (k_bin B .sub (k_var B 1 rfl rfl) ok_int) k_nil rfl) rfl) rfl rfl rfl rfl)) (fun _ => rfl))) k_nil rfl) rfl (by decide) rfl rfl rfl)))))))
theorem w_102 (Z : Fx P w K mg base ⟨K, w, ca⟩ k) : Walks P w K mg base ca k ["thing"] "is_form" (defScope (top 10)) (defBody (top 10)) (b_102 (TT.prm (callT TT k))) := by
  intro f cdv A outer s H E hr hg
  have B := bg_of (P := P) (w := w) (K := K) (mg := mg) (base := base) (N := ["thing"]) (f := f) (cdv := cdv) (A := A) (outer := outer) (s := s) (H := H) (E := E) (ca := ca) hr hg (by decide +kernel)
  have hp : PassesOwn (model P w) (cxOf (L2.CX P w) P w K mg base ["thing"] "is_form" (defScope (top 10)) f cdv A outer s H E).A (cxOf (L2.CX P w) P w K mg base ["thing"] "is_form" (defScope (top 10)) f cdv A outer s H E).env (cxOf (L2.CX P w) P w K mg base ["thing"] "is_form" (defScope (top 10)) f cdv A outer s H E).xe := passes_of rfl
  exact (os_one (os_ret (k_call (P := PP k) B Z.f_101 (k_cons (k_var B 0 rfl rfl) (k_cons (k_glo Z.c_MOST_HEIGHT rfl rfl) k_nil rfl) rfl) rfl rfl rfl rfl)))
theorem w_104 (Z : Fx P w K mg base ⟨K, w, ca⟩ k) : Walks P w K mg base ca k ["thing"] "want_form" (defScope (top 11)) (defBody (top 11)) (b_104 (TT.prm (callT TT k))) := by
  intro f cdv A outer s H E hr hg
  have B := bg_of (P := P) (w := w) (K := K) (mg := mg) (base := base) (N := ["thing"]) (f := f) (cdv := cdv) (A := A) (outer := outer) (s := s) (H := H) (E := E) (ca := ca) hr hg (by decide +kernel)
  have hp : PassesOwn (model P w) (cxOf (L2.CX P w) P w K mg base ["thing"] "want_form" (defScope (top 11)) f cdv A outer s H E).A (cxOf (L2.CX P w) P w K mg base ["thing"] "want_form" (defScope (top 11)) f cdv A outer s H E).env (cxOf (L2.CX P w) P w K mg base ["thing"] "want_form" (defScope (top 11)) f cdv A outer s H E).xe := passes_of rfl
  exact (os_one (os_if (kT_not (kT_of B (k_call (P := PP k) B Z.f_102 (k_cons (k_var B 0 rfl rfl) k_nil rfl) rfl rfl rfl rfl) (fun _ => rfl))) (os_one (k_raise B Z.e_103 rfl rfl)) os_nil))
theorem w_135 (Z : Fx P w K mg base ⟨K, w, ca⟩ k) : Walks P w K mg base ca k ["form", "texts", "part"] "text_of_form" (defScope (top 13)) (defBody (top 13)) (b_135 (TT.prm (callT TT k))) := by
  intro f cdv A outer s H E hr hg
  have B := bg_of (P := P) (w := w) (K := K) (mg := mg) (base := base) (N := ["form", "texts", "part"]) (f := f) (cdv := cdv) (A := A) (outer := outer) (s := s) (H := H) (E := E) (ca := ca) hr hg (by decide +kernel)
  have hp : PassesOwn (model P w) (cxOf (L2.CX P w) P w K mg base ["form", "texts", "part"] "text_of_form" (defScope (top 13)) f cdv A outer s H E).A (cxOf (L2.CX P w) P w K mg base ["form", "texts", "part"] "text_of_form" (defScope (top 13)) f cdv A outer s H E).env (cxOf (L2.CX P w) P w K mg base ["form", "texts", "part"] "text_of_form" (defScope (top 13)) f cdv A outer s H E).xe := passes_of rfl
  exact (os_seq (os_if (kT_of B (k_isi B .str Z.g_isinstance rfl Z.g_str rfl (k_bvar B 0 rfl rfl) rfl rfl (by decide) (by decide) rfl rfl rfl rfl) (fun _ => rfl)) (os_one (os_ret (k_var B 0 rfl rfl))) os_nil)
    (os_seq (k_asgLc B 1 rfl rfl (sw_true rfl rfl rfl (by decide +kernel)) (oi_sq B.hK (k_slc2 B (k_bvar B 0 rfl rfl) (po_yess k_sint) po_nos)) (blkOk_by (N := ["form", "texts", "part"]) (sc := defScope (top 13)) (own := [("part", 2)]) (by decide +kernel)) rfl (fun s0 H0 C0 cl0 fp0 B => (g_name B 2 rfl rfl rfl (zOwn_set (by decide)))) (fun s0 H0 C0 cl0 fp0 B => ots_nil) (fun s0 H0 C0 cl0 fp0 B => (k_call (P := PP k) B Z.f_135 (k_cons (k_var B 2 rfl rfl) k_nil rfl) rfl rfl rfl rfl)) (fun _ => rfl))
    (os_one (os_ret (ok_ite (kT_cmp2 B .eq (PE.toBo (k_idx2 B (k_bvar B 0 rfl rfl) k_sint (fun _ _ => rfl))) (k_sglo Z.c_DEED rfl rfl) rfl) (ok_joined (PM.cons (k_str [40] (by decide +kernel)) (PM.cons (ok_fmt (k_join B (k_str [62] (by decide +kernel)) (k_cons (k_var B 1 rfl rfl) k_nil rfl) rfl rfl rfl rfl rfl)) (PM.cons (k_str [41] (by decide +kernel)) PM.nil)))) (ok_joined (PM.cons (k_str [91] (by decide +kernel)) (PM.cons (ok_fmt (k_idx2 B (k_bvar B 1 rfl rfl) k_sint (fun _ _ => rfl))) (PM.cons (k_str [93] (by decide +kernel)) PM.nil)))))))))
theorem w_136 (Z : Fx P w K mg base ⟨K, w, ca⟩ k) : Walks P w K mg base ca k ["form"] "form_text" (defScope (top 14)) (defBody (top 14)) (b_136 (TT.prm (callT TT k))) := by
  intro f cdv A outer s H E hr hg
  have B := bg_of (P := P) (w := w) (K := K) (mg := mg) (base := base) (N := ["form"]) (f := f) (cdv := cdv) (A := A) (outer := outer) (s := s) (H := H) (E := E) (ca := ca) hr hg (by decide +kernel)
  have hp : PassesOwn (model P w) (cxOf (L2.CX P w) P w K mg base ["form"] "form_text" (defScope (top 14)) f cdv A outer s H E).A (cxOf (L2.CX P w) P w K mg base ["form"] "form_text" (defScope (top 14)) f cdv A outer s H E).env (cxOf (L2.CX P w) P w K mg base ["form"] "form_text" (defScope (top 14)) f cdv A outer s H E).xe := passes_of rfl
  exact (os_seq (os_ex (k_call (P := PP k) B Z.f_104 (k_cons (k_var B 0 rfl rfl) k_nil rfl) rfl rfl rfl rfl) rfl)
    (os_one (os_ret (k_call (P := PP k) B Z.f_135 (k_cons (k_var B 0 rfl rfl) k_nil rfl) rfl rfl rfl rfl))))
theorem w_137 (Z : Fx P w K mg base ⟨K, w, ca⟩ k) : Walks P w K mg base ca k ["text", "at", "sign"] "want_sign" (defScope (top 15)) (defBody (top 15)) (b_137 (TT.prm (callT TT k))) := by
  intro f cdv A outer s H E hr hg
  have B := bg_of (P := P) (w := w) (K := K) (mg := mg) (base := base) (N := ["text", "at", "sign"]) (f := f) (cdv := cdv) (A := A) (outer := outer) (s := s) (H := H) (E := E) (ca := ca) hr hg (by decide +kernel)
  have hp : PassesOwn (model P w) (cxOf (L2.CX P w) P w K mg base ["text", "at", "sign"] "want_sign" (defScope (top 15)) f cdv A outer s H E).A (cxOf (L2.CX P w) P w K mg base ["text", "at", "sign"] "want_sign" (defScope (top 15)) f cdv A outer s H E).env (cxOf (L2.CX P w) P w K mg base ["text", "at", "sign"] "want_sign" (defScope (top 15)) f cdv A outer s H E).xe := passes_of rfl
  exact (os_one (os_if (kT_cmp B .ne (k_slc B (k_var B 0 rfl rfl) (po_yes (k_var B 1 rfl rfl)) (po_yes (k_bin B .add (k_var B 1 rfl rfl) ok_int))) (k_bvar B 2 rfl rfl) rfl) (os_one (k_raise B Z.e_103 rfl rfl)) os_nil))
theorem w_138 (Z : Fx P w K mg base ⟨K, w, ca⟩ k) : Walks P w K mg base ca k ["text", "at", "high", "word", "first", "end", "second"] "form_at" (defScope (top 16)) (defBody (top 16)) (b_138 (TT.prm (callT TT k))) := by
  intro f cdv A outer s H E hr hg
  have B := bg_of (P := P) (w := w) (K := K) (mg := mg) (base := base) (N := ["text", "at", "high", "word", "first", "end", "second"]) (f := f) (cdv := cdv) (A := A) (outer := outer) (s := s) (H := H) (E := E) (ca := ca) hr hg (by decide +kernel)
  have hp : PassesOwn (model P w) (cxOf (L2.CX P w) P w K mg base ["text", "at", "high", "word", "first", "end", "second"] "form_at" (defScope (top 16)) f cdv A outer s H E).A (cxOf (L2.CX P w) P w K mg base ["text", "at", "high", "word", "first", "end", "second"] "form_at" (defScope (top 16)) f cdv A outer s H E).env (cxOf (L2.CX P w) P w K mg base ["text", "at", "high", "word", "first", "end", "second"] "form_at" (defScope (top 16)) f cdv A outer s H E).xe := passes_of rfl
  exact (os_seq (k_for B hp (oi_sq B.hK (k_glo Z.c_PLAIN rfl rfl)) (g_name B 3 rfl rfl rfl (zAny_set 3)) (os_one (os_if (kT_cmp B .eq (k_slc B (k_var B 0 rfl rfl) (po_yes (k_var B 1 rfl rfl)) (po_yes (k_bin B .add (k_var B 1 rfl rfl) (k_len B Z.g_len rfl (k_bvar B 3 rfl rfl) rfl (by decide) rfl rfl rfl)))) (k_bvar B 3 rfl rfl) rfl) (os_one (os_ret (k_tup (k_cons (k_var B 3 rfl rfl) (k_cons (k_bin B .add (k_var B 1 rfl rfl) (k_len B Z.g_len rfl (k_bvar B 3 rfl rfl) rfl (by decide) rfl rfl rfl)) k_nil rfl) rfl)))) os_nil)) (fun _ => rfl))
    (os_seq (os_if (PW.pt (okW_or (kT_cmp2 B .eq (k_bvar B 2 rfl rfl) k_sint rfl) (okW_one_or (kT_cmp B .nin (k_slc B (k_var B 0 rfl rfl) (po_yes (k_var B 1 rfl rfl)) (po_yes (k_bin B .add (k_var B 1 rfl rfl) ok_int))) (PE.toBo (k_tup (k_cons (k_str [40] (by decide +kernel)) (k_cons (k_str [91] (by decide +kernel)) k_nil rfl) rfl))) rfl)))) (os_one (k_raise B Z.e_103 rfl rfl)) os_nil)
    (os_seq (os_asg (k_call (P := PP k) B Z.f_138 (k_cons (k_var B 0 rfl rfl) (k_cons (k_bin B .add (k_var B 1 rfl rfl) ok_int) (k_cons (k_bin B .sub (k_var B 2 rfl rfl) ok_int) k_nil rfl) rfl) rfl) rfl rfl rfl rfl) (g_unp B (ogs_cons zr_any (g_name B 4 rfl rfl rfl (zAny_set 4)) (ogs_cons zr_any (g_name B 5 rfl rfl rfl (zAny_set 5)) (ogs_nil zr_any) rfl) rfl) rfl rfl) rfl rfl rfl)
    (os_seq (os_if (kT_cmp2 B .eq (PE.toBo (k_idx2 B (k_bvar B 0 rfl rfl) (k_svar B 1 rfl rfl) (fun _ _ => rfl))) (k_sstr [91] (by decide +kernel)) rfl) (os_seq (os_ex (k_call (P := PP k) B Z.f_137 (k_cons (k_var B 0 rfl rfl) (k_cons (k_var B 5 rfl rfl) (k_cons (k_str [93] (by decide +kernel)) k_nil rfl) rfl) rfl) rfl rfl rfl rfl) rfl)
    (os_one (os_ret (k_tup (k_cons (k_tup (k_cons (k_glo Z.c_BOX rfl rfl) (k_cons (k_var B 4 rfl rfl) k_nil rfl) rfl)) (k_cons (k_bin B .add (k_var B 5 rfl rfl) ok_int) k_nil rfl) rfl))))) os_nil)
    (os_seq (os_ex (k_call (P := PP k) B Z.f_137 (k_cons (k_var B 0 rfl rfl) (k_cons (k_var B 5 rfl rfl) (k_cons (k_str [62] (by decide +kernel)) k_nil rfl) rfl) rfl) rfl rfl rfl rfl) rfl)
    (os_seq (os_asg (k_call (P := PP k) B Z.f_138 (k_cons (k_var B 0 rfl rfl) (k_cons (k_bin B .add (k_var B 5 rfl rfl) ok_int) (k_cons (k_bin B .sub (k_var B 2 rfl rfl) ok_int) k_nil rfl) rfl) rfl) rfl rfl rfl rfl) (g_unp B (ogs_cons zr_any (g_name B 6 rfl rfl rfl (zAny_set 6)) (ogs_cons zr_any (g_name B 5 rfl rfl rfl (zAny_set 5)) (ogs_nil zr_any) rfl) rfl) rfl rfl) rfl rfl rfl)
    (os_seq (os_ex (k_call (P := PP k) B Z.f_137 (k_cons (k_var B 0 rfl rfl) (k_cons (k_var B 5 rfl rfl) (k_cons (k_str [41] (by decide +kernel)) k_nil rfl) rfl) rfl) rfl rfl rfl rfl) rfl)
    (os_one (os_ret (k_tup (k_cons (k_tup (k_cons (k_glo Z.c_DEED rfl rfl) (k_cons (k_var B 4 rfl rfl) (k_cons (k_var B 6 rfl rfl) k_nil rfl) rfl) rfl)) (k_cons (k_bin B .add (k_var B 5 rfl rfl) ok_int) k_nil rfl) rfl)))))))))))
theorem w_139 (Z : Fx P w K mg base ⟨K, w, ca⟩ k) : Walks P w K mg base ca k ["text", "form", "end"] "read_form" (defScope (top 17)) (defBody (top 17)) (b_139 (TT.prm (callT TT k))) := by
  intro f cdv A outer s H E hr hg
  have B := bg_of (P := P) (w := w) (K := K) (mg := mg) (base := base) (N := ["text", "form", "end"]) (f := f) (cdv := cdv) (A := A) (outer := outer) (s := s) (H := H) (E := E) (ca := ca) hr hg (by decide +kernel)
  have hp : PassesOwn (model P w) (cxOf (L2.CX P w) P w K mg base ["text", "form", "end"] "read_form" (defScope (top 17)) f cdv A outer s H E).A (cxOf (L2.CX P w) P w K mg base ["text", "form", "end"] "read_form" (defScope (top 17)) f cdv A outer s H E).env (cxOf (L2.CX P w) P w K mg base ["text", "form", "end"] "read_form" (defScope (top 17)) f cdv A outer s H E).xe := passes_of rfl
  exact (os_seq (os_if (kT_not (kT_of B (k_isi B .str Z.g_isinstance rfl Z.g_str rfl (k_bvar B 0 rfl rfl) rfl rfl (by decide) (by decide) rfl rfl rfl rfl) (fun _ => rfl))) (os_one (k_raise B Z.e_103 rfl rfl)) os_nil)
    (os_seq (os_asg (k_call (P := PP k) B Z.f_138 (k_cons (k_var B 0 rfl rfl) (k_cons ok_int (k_cons (k_glo Z.c_MOST_HEIGHT rfl rfl) k_nil rfl) rfl) rfl) rfl rfl rfl rfl) (g_unp B (ogs_cons zr_any (g_name B 1 rfl rfl rfl (zAny_set 1)) (ogs_cons zr_any (g_name B 2 rfl rfl rfl (zAny_set 2)) (ogs_nil zr_any) rfl) rfl) rfl rfl) rfl rfl rfl)
    (os_seq (os_if (kT_cmp B .ne (k_var B 2 rfl rfl) (PE.toBo (k_len B Z.g_len rfl (k_bvar B 0 rfl rfl) rfl (by decide) rfl rfl rfl)) rfl) (os_one (k_raise B Z.e_103 rfl rfl)) os_nil)
    (os_one (os_ret (k_var B 1 rfl rfl))))))
theorem w_112 (Z : Fx P w K mg base ⟨K, w, ca⟩ k) : Walks P w K mg base ca k ["_law_script", "_law_k", "_law_cell"] "_law_pot" (defScope (top 19)) (defBody (top 19)) (b_112 (TT.prm (callT TT k))) := by
  intro f cdv A outer s H E hr hg
  have B := bg_of (P := P) (w := w) (K := K) (mg := mg) (base := base) (N := ["_law_script", "_law_k", "_law_cell"]) (f := f) (cdv := cdv) (A := A) (outer := outer) (s := s) (H := H) (E := E) (ca := ca) hr hg (by decide +kernel)
  have hp : PassesOwn (model P w) (cxOf (L2.CX P w) P w K mg base ["_law_script", "_law_k", "_law_cell"] "_law_pot" (defScope (top 19)) f cdv A outer s H E).A (cxOf (L2.CX P w) P w K mg base ["_law_script", "_law_k", "_law_cell"] "_law_pot" (defScope (top 19)) f cdv A outer s H E).env (cxOf (L2.CX P w) P w K mg base ["_law_script", "_law_k", "_law_cell"] "_law_pot" (defScope (top 19)) f cdv A outer s H E).xe := passes_of rfl
  exact (os_seq (os_asg (ok_ite (kT_cmp B .lt (k_var B 1 rfl rfl) (PE.toBo (k_len B Z.g_len rfl (k_bvar B 0 rfl rfl) rfl (by decide) rfl rfl rfl)) rfl) (k_idx2 B (k_bvar B 0 rfl rfl) (k_svar B 1 rfl rfl) (fun _ _ => rfl)) ok_int) (g_name B 2 rfl rfl rfl (zAny_set 2)) rfl rfl rfl)
    (os_one (os_ret (ok_cel (k_cons (k_bi B .max2 rfl Z.g_max rfl (k_cons ok_int (k_cons (k_bin B .sub (k_bi B .abs rfl Z.g_abs rfl (k_cons (k_var B 2 rfl rfl) k_nil rfl) rfl (by decide) rfl rfl rfl) (k_bin B .pow ok_int ok_int)) k_nil rfl) rfl) rfl (by decide) rfl rfl rfl) (k_cons (k_bin B .add (k_bin B .mod (k_bin B .pow (k_bin B .add (k_bin B .add (k_bin B .mod (k_bi B .abs rfl Z.g_abs rfl (k_cons (k_var B 2 rfl rfl) k_nil rfl) rfl (by decide) rfl rfl rfl) ok_int) (k_bin B .mul ok_int (k_var B 1 rfl rfl))) ok_int) ok_int) ok_int) ok_int) k_nil rfl) rfl)))))
theorem w_113 (Z : Fx P w K mg base ⟨K, w, ca⟩ k) : Walks P w K mg base ca k ["_law_pot_here", "_law_many", "_law_digit_here"] "_law_digit" (defScope (top 20)) (defBody (top 20)) (b_113 (TT.prm (callT TT k))) := by
  intro f cdv A outer s H E hr hg
  have B := bg_of (P := P) (w := w) (K := K) (mg := mg) (base := base) (N := ["_law_pot_here", "_law_many", "_law_digit_here"]) (f := f) (cdv := cdv) (A := A) (outer := outer) (s := s) (H := H) (E := E) (ca := ca) hr hg (by decide +kernel)
  have hp : PassesOwn (model P w) (cxOf (L2.CX P w) P w K mg base ["_law_pot_here", "_law_many", "_law_digit_here"] "_law_digit" (defScope (top 20)) f cdv A outer s H E).A (cxOf (L2.CX P w) P w K mg base ["_law_pot_here", "_law_many", "_law_digit_here"] "_law_digit" (defScope (top 20)) f cdv A outer s H E).env (cxOf (L2.CX P w) P w K mg base ["_law_pot_here", "_law_many", "_law_digit_here"] "_law_digit" (defScope (top 20)) f cdv A outer s H E).xe := passes_of rfl
  exact (os_seq (os_if (kT_cmp2 B .gt (PE.toBo (k_idx2 B (k_bvar B 0 rfl rfl) k_sint (fun _ _ => rfl))) k_sint rfl) (os_seq (os_asg (k_bi B .divmod rfl Z.g_divmod rfl (k_cons (k_idx2 B (k_bvar B 0 rfl rfl) k_sint (fun _ _ => rfl)) (k_cons (k_var B 1 rfl rfl) k_nil rfl) rfl) rfl (by decide) rfl rfl rfl) (g_unp B (ogs_cons zr_any (g_put B zr_any (k_var B 0 rfl rfl) ok_int (fun _ => rfl)) (ogs_cons zr_any (g_name B 2 rfl rfl rfl (zAny_set 2)) (ogs_nil zr_any) rfl) rfl) rfl rfl) rfl rfl rfl)
    (os_one (os_ret (k_var B 2 rfl rfl)))) os_nil)
    (os_seq (os_asg (k_bin B .mod (k_bin B .add (k_bin B .mul (k_idx2 B (k_bvar B 0 rfl rfl) k_sint (fun _ _ => rfl)) ok_int) ok_int) ok_int) (g_put B zr_any (k_var B 0 rfl rfl) ok_int (fun _ => rfl)) rfl rfl rfl)
    (os_one (os_ret (k_bin B .mod (k_bin B .fdv (k_bin B .mod (k_bin B .mul (k_idx2 B (k_bvar B 0 rfl rfl) k_sint (fun _ _ => rfl)) (k_idx2 B (k_bvar B 0 rfl rfl) k_sint (fun _ _ => rfl))) ok_int) ok_int) (k_var B 1 rfl rfl))))))
theorem w_127 (Z : Fx P w K mg base ⟨K, w, ca⟩ k) : Walks P w K mg base ca k ["_law_pot_here", "_law_some"] "_law_pick" (defScope (top 21)) (defBody (top 21)) (b_127 (TT.prm (callT TT k))) := by
  intro f cdv A outer s H E hr hg
  have B := bg_of (P := P) (w := w) (K := K) (mg := mg) (base := base) (N := ["_law_pot_here", "_law_some"]) (f := f) (cdv := cdv) (A := A) (outer := outer) (s := s) (H := H) (E := E) (ca := ca) hr hg (by decide +kernel)
  have hp : PassesOwn (model P w) (cxOf (L2.CX P w) P w K mg base ["_law_pot_here", "_law_some"] "_law_pick" (defScope (top 21)) f cdv A outer s H E).A (cxOf (L2.CX P w) P w K mg base ["_law_pot_here", "_law_some"] "_law_pick" (defScope (top 21)) f cdv A outer s H E).env (cxOf (L2.CX P w) P w K mg base ["_law_pot_here", "_law_some"] "_law_pick" (defScope (top 21)) f cdv A outer s H E).xe := passes_of rfl
  exact (os_one (os_ret (k_idx B (k_var B 1 rfl rfl) (k_call (P := PP k) B Z.f_113 (k_cons (k_var B 0 rfl rfl) (k_cons (k_len B Z.g_len rfl (k_bvar B 1 rfl rfl) rfl (by decide) rfl rfl rfl) k_nil rfl) rfl) rfl rfl rfl rfl) (fun _ _ => rfl))))
theorem w_114 (Z : Fx P w K mg base ⟨K, w, ca⟩ k) : Walks P w K mg base ca k ["_law_pot_here", "_law_high", "_law_way"] "_law_form" (defScope (top 22)) (defBody (top 22)) (b_114 (TT.prm (callT TT k))) := by
  intro f cdv A outer s H E hr hg
  have B := bg_of (P := P) (w := w) (K := K) (mg := mg) (base := base) (N := ["_law_pot_here", "_law_high", "_law_way"]) (f := f) (cdv := cdv) (A := A) (outer := outer) (s := s) (H := H) (E := E) (ca := ca) hr hg (by decide +kernel)
  have hp : PassesOwn (model P w) (cxOf (L2.CX P w) P w K mg base ["_law_pot_here", "_law_high", "_law_way"] "_law_form" (defScope (top 22)) f cdv A outer s H E).A (cxOf (L2.CX P w) P w K mg base ["_law_pot_here", "_law_high", "_law_way"] "_law_form" (defScope (top 22)) f cdv A outer s H E).env (cxOf (L2.CX P w) P w K mg base ["_law_pot_here", "_law_high", "_law_way"] "_law_form" (defScope (top 22)) f cdv A outer s H E).xe := passes_of rfl
  exact (os_seq (os_asg (k_call (P := PP k) B Z.f_113 (k_cons (k_var B 0 rfl rfl) (k_cons ok_int k_nil rfl) rfl) rfl rfl rfl rfl) (g_name B 2 rfl rfl rfl (zAny_set 2)) rfl rfl rfl)
    (os_seq (os_if (PW.pt (okW_or (kT_cmp2 B .eq (k_bvar B 1 rfl rfl) k_sint rfl) (okW_one_or (kT_cmp2 B .lt (k_bvar B 2 rfl rfl) k_sint rfl)))) (os_one (os_ret (k_idx B (k_fz (kF_lst (k_cons (k_str [97,110,121] (by decide +kernel)) (k_cons (k_str [110,117,109] (by decide +kernel)) (k_cons (k_str [116,101,120,116] (by decide +kernel)) k_nil rfl) rfl) rfl))) (k_call (P := PP k) B Z.f_113 (k_cons (k_var B 0 rfl rfl) (k_cons ok_int k_nil rfl) rfl) rfl rfl rfl rfl) (fun _ _ => rfl)))) os_nil)
    (os_seq (os_if (kT_cmp2 B .lt (k_bvar B 2 rfl rfl) k_sint rfl) (os_one (os_ret (k_tup (k_cons (k_str [100,101,101,100] (by decide +kernel)) (k_cons (k_call (P := PP k) B Z.f_114 (k_cons (k_var B 0 rfl rfl) (k_cons (k_bin B .sub (k_var B 1 rfl rfl) ok_int) k_nil rfl) rfl) rfl rfl rfl rfl) (k_cons (k_call (P := PP k) B Z.f_114 (k_cons (k_var B 0 rfl rfl) (k_cons (k_bin B .sub (k_var B 1 rfl rfl) ok_int) k_nil rfl) rfl) rfl rfl rfl rfl) k_nil rfl) rfl) rfl)))) os_nil)
    (os_one (os_ret (k_tup (k_cons (k_str [98,111,120] (by decide +kernel)) (k_cons (k_call (P := PP k) B Z.f_114 (k_cons (k_var B 0 rfl rfl) (k_cons (k_bin B .sub (k_var B 1 rfl rfl) ok_int) k_nil rfl) rfl) rfl rfl rfl rfl) k_nil rfl) rfl)))))))
theorem w_141 (Z : Fx P w K mg base ⟨K, w, ca⟩ k) : Walks P w K mg base ca k ["_law_form_here"] "_law_written" (defScope (top 23)) (defBody (top 23)) (b_141 (TT.prm (callT TT k))) := by
  intro f cdv A outer s H E hr hg
  have B := bg_of (P := P) (w := w) (K := K) (mg := mg) (base := base) (N := ["_law_form_here"]) (f := f) (cdv := cdv) (A := A) (outer := outer) (s := s) (H := H) (E := E) (ca := ca) hr hg (by decide +kernel)
  have hp : PassesOwn (model P w) (cxOf (L2.CX P w) P w K mg base ["_law_form_here"] "_law_written" (defScope (top 23)) f cdv A outer s H E).A (cxOf (L2.CX P w) P w K mg base ["_law_form_here"] "_law_written" (defScope (top 23)) f cdv A outer s H E).env (cxOf (L2.CX P w) P w K mg base ["_law_form_here"] "_law_written" (defScope (top 23)) f cdv A outer s H E).xe := passes_of rfl
  exact (os_seq (os_if (kT_of B (k_isi B .str Z.g_isinstance rfl Z.g_str rfl (k_bvar B 0 rfl rfl) rfl rfl (by decide) (by decide) rfl rfl rfl rfl) (fun _ => rfl)) (os_one (os_ret (k_var B 0 rfl rfl))) os_nil)
    (os_seq (os_if (kT_cmp2 B .eq (PE.toBo (k_idx2 B (k_bvar B 0 rfl rfl) k_sint (fun _ _ => rfl))) (k_sstr [98,111,120] (by decide +kernel)) rfl) (os_one (os_ret (k_bin B .add (k_bin B .add (k_str [91] (by decide +kernel)) (k_call (P := PP k) B Z.f_141 (k_cons (k_idx2 B (k_bvar B 0 rfl rfl) k_sint (fun _ _ => rfl)) k_nil rfl) rfl rfl rfl rfl)) (k_str [93] (by decide +kernel))))) os_nil)
    (os_one (os_ret (k_bin B .add (k_bin B .add (k_bin B .add (k_bin B .add (k_str [40] (by decide +kernel)) (k_call (P := PP k) B Z.f_141 (k_cons (k_idx2 B (k_bvar B 0 rfl rfl) k_sint (fun _ _ => rfl)) k_nil rfl) rfl rfl rfl rfl)) (k_str [62] (by decide +kernel))) (k_call (P := PP k) B Z.f_141 (k_cons (k_idx2 B (k_bvar B 0 rfl rfl) k_sint (fun _ _ => rfl)) k_nil rfl) rfl rfl rfl rfl)) (k_str [41] (by decide +kernel)))))))
theorem w_188 (Z : Fx P w K mg base ⟨K, w, ca⟩ k) : Walks P w K mg base ca k ["_law_page", "_law_at", "_law_high", "_law_word", "_law_sign", "_law_first", "_law_second"] "_law_read" (defScope (top 24)) (defBody (top 24)) (b_188 (TT.prm (callT TT k))) := by
  intro f cdv A outer s H E hr hg
  have B := bg_of (P := P) (w := w) (K := K) (mg := mg) (base := base) (N := ["_law_page", "_law_at", "_law_high", "_law_word", "_law_sign", "_law_first", "_law_second"]) (f := f) (cdv := cdv) (A := A) (outer := outer) (s := s) (H := H) (E := E) (ca := ca) hr hg (by decide +kernel)
  have hp : PassesOwn (model P w) (cxOf (L2.CX P w) P w K mg base ["_law_page", "_law_at", "_law_high", "_law_word", "_law_sign", "_law_first", "_law_second"] "_law_read" (defScope (top 24)) f cdv A outer s H E).A (cxOf (L2.CX P w) P w K mg base ["_law_page", "_law_at", "_law_high", "_law_word", "_law_sign", "_law_first", "_law_second"] "_law_read" (defScope (top 24)) f cdv A outer s H E).env (cxOf (L2.CX P w) P w K mg base ["_law_page", "_law_at", "_law_high", "_law_word", "_law_sign", "_law_first", "_law_second"] "_law_read" (defScope (top 24)) f cdv A outer s H E).xe := passes_of rfl
  exact (os_seq (k_for B hp (oi_sq B.hK (k_fz (kF_lst (k_cons (k_str [97,110,121] (by decide +kernel)) (k_cons (k_str [110,117,109] (by decide +kernel)) (k_cons (k_str [116,101,120,116] (by decide +kernel)) k_nil rfl) rfl) rfl)))) (g_name B 3 rfl rfl rfl (zAny_set 3)) (os_one (os_if (kT_cmp B .eq (k_slc B (k_var B 0 rfl rfl) (po_yes (k_var B 1 rfl rfl)) (po_yes (k_bin B .add (k_var B 1 rfl rfl) (k_len B Z.g_len rfl (k_bvar B 3 rfl rfl) rfl (by decide) rfl rfl rfl)))) (k_bvar B 3 rfl rfl) rfl) (os_one (os_ret (k_tup (k_cons (k_var B 3 rfl rfl) (k_cons (k_bin B .add (k_var B 1 rfl rfl) (k_len B Z.g_len rfl (k_bvar B 3 rfl rfl) rfl (by decide) rfl rfl rfl)) k_nil rfl) rfl)))) os_nil)) (fun _ => rfl))
    (os_seq (os_asg (k_slc B (k_var B 0 rfl rfl) (po_yes (k_var B 1 rfl rfl)) (po_yes (k_bin B .add (k_var B 1 rfl rfl) ok_int))) (g_name B 4 rfl rfl rfl (zAny_set 4)) rfl rfl rfl)
    (os_seq (os_if (PW.pt (okW_or (kT_cmp2 B .eq (k_bvar B 2 rfl rfl) k_sint rfl) (okW_one_or (kT_cmp B .nin (k_var B 4 rfl rfl) (PE.toBo (k_fz (kF_lst (k_cons (k_str [40] (by decide +kernel)) (k_cons (k_str [91] (by decide +kernel)) k_nil rfl) rfl)))) rfl)))) (os_one (os_ret ok_non)) os_nil)
    (os_seq (os_asg (k_call (P := PP k) B Z.f_188 (k_cons (k_var B 0 rfl rfl) (k_cons (k_bin B .add (k_var B 1 rfl rfl) ok_int) (k_cons (k_bin B .sub (k_var B 2 rfl rfl) ok_int) k_nil rfl) rfl) rfl) rfl rfl rfl rfl) (g_name B 5 rfl rfl rfl (zAny_set 5)) rfl rfl rfl)
    (os_seq (os_if (PW.pt (okW_or (kT_cmp2 B .is_ (k_bvar B 5 rfl rfl) k_snon rfl) (okW_one_or (kT_cmp B .ne (k_slc B (k_var B 0 rfl rfl) (po_yes (k_idx2 B (k_bvar B 5 rfl rfl) k_sint (fun _ _ => rfl))) (po_yes (k_bin B .add (k_idx2 B (k_bvar B 5 rfl rfl) k_sint (fun _ _ => rfl)) ok_int))) (PE.toBo (k_idx B (k_fz (kF_lst (k_cons (k_str [62] (by decide +kernel)) (k_cons (k_str [93] (by decide +kernel)) k_nil rfl) rfl))) (k_biT B .int rfl Z.g_int rfl (k_cons (k_cmp2 B .eq (k_bvar B 4 rfl rfl) (k_sstr [91] (by decide +kernel)) rfl) k_nil rfl) rfl (by decide) rfl rfl rfl) (fun _ _ => rfl))) rfl)))) (os_one (os_ret ok_non)) os_nil)
    (os_seq (os_if (kT_cmp2 B .eq (k_bvar B 4 rfl rfl) (k_sstr [91] (by decide +kernel)) rfl) (os_one (os_ret (k_tup (k_cons (k_tup (k_cons (k_str [98,111,120] (by decide +kernel)) (k_cons (k_idx2 B (k_bvar B 5 rfl rfl) k_sint (fun _ _ => rfl)) k_nil rfl) rfl)) (k_cons (k_bin B .add (k_idx2 B (k_bvar B 5 rfl rfl) k_sint (fun _ _ => rfl)) ok_int) k_nil rfl) rfl)))) os_nil)
    (os_seq (os_asg (k_call (P := PP k) B Z.f_188 (k_cons (k_var B 0 rfl rfl) (k_cons (k_bin B .add (k_idx2 B (k_bvar B 5 rfl rfl) k_sint (fun _ _ => rfl)) ok_int) (k_cons (k_bin B .sub (k_var B 2 rfl rfl) ok_int) k_nil rfl) rfl) rfl) rfl rfl rfl rfl) (g_name B 6 rfl rfl rfl (zAny_set 6)) rfl rfl rfl)
    (os_seq (os_if (PW.pt (okW_or (kT_cmp2 B .is_ (k_bvar B 6 rfl rfl) k_snon rfl) (okW_one_or (kT_cmp2 B .ne (PE.toBo (k_slc B (k_var B 0 rfl rfl) (po_yes (k_idx2 B (k_bvar B 6 rfl rfl) k_sint (fun _ _ => rfl))) (po_yes (k_bin B .add (k_idx2 B (k_bvar B 6 rfl rfl) k_sint (fun _ _ => rfl)) ok_int)))) (k_sstr [41] (by decide +kernel)) rfl)))) (os_one (os_ret ok_non)) os_nil)
    (os_one (os_ret (k_tup (k_cons (k_tup (k_cons (k_str [100,101,101,100] (by decide +kernel)) (k_cons (k_idx2 B (k_bvar B 5 rfl rfl) k_sint (fun _ _ => rfl)) (k_cons (k_idx2 B (k_bvar B 6 rfl rfl) k_sint (fun _ _ => rfl)) k_nil rfl) rfl) rfl)) (k_cons (k_bin B .add (k_idx2 B (k_bvar B 6 rfl rfl) k_sint (fun _ _ => rfl)) ok_int) k_nil rfl) rfl))))))))))))
theorem w_172 (Z : Fx P w K mg base ⟨K, w, ca⟩ k) : Walks P w K mg base ca k ["_law_page", "_law_found"] "_law_due" (defScope (top 25)) (defBody (top 25)) (b_172 (TT.prm (callT TT k))) := by
  intro f cdv A outer s H E hr hg
  have B := bg_of (P := P) (w := w) (K := K) (mg := mg) (base := base) (N := ["_law_page", "_law_found"]) (f := f) (cdv := cdv) (A := A) (outer := outer) (s := s) (H := H) (E := E) (ca := ca) hr hg (by decide +kernel)
  have hp : PassesOwn (model P w) (cxOf (L2.CX P w) P w K mg base ["_law_page", "_law_found"] "_law_due" (defScope (top 25)) f cdv A outer s H E).A (cxOf (L2.CX P w) P w K mg base ["_law_page", "_law_found"] "_law_due" (defScope (top 25)) f cdv A outer s H E).env (cxOf (L2.CX P w) P w K mg base ["_law_page", "_law_found"] "_law_due" (defScope (top 25)) f cdv A outer s H E).xe := passes_of rfl
  exact (os_seq (os_asg (k_call (P := PP k) B Z.f_188 (k_cons (k_var B 0 rfl rfl) (k_cons ok_int (k_cons ok_int k_nil rfl) rfl) rfl) rfl rfl rfl rfl) (g_name B 1 rfl rfl rfl (zAny_set 1)) rfl rfl rfl)
    (os_one (os_ret (ok_ite (PW.pt (okW_or (kT_cmp2 B .is_ (k_bvar B 1 rfl rfl) k_snon rfl) (okW_one_or (kT_cmp B .ne (k_idx2 B (k_bvar B 1 rfl rfl) k_sint (fun _ _ => rfl)) (PE.toBo (k_len B Z.g_len rfl (k_bvar B 0 rfl rfl) rfl (by decide) rfl rfl rfl)) rfl)))) ok_non (k_idx2 B (k_bvar B 1 rfl rfl) k_sint (fun _ _ => rfl))))))
theorem w_124 (Z : Fx P w K mg base ⟨K, w, ca⟩ k) : Walks P w K mg base ca k ["_law_thing", "_law_found", "e"] "_law_told" (defScope (top 26)) (defBody (top 26)) (b_124 (TT.prm (callT TT k))) := by
  intro f cdv A outer s H E hr hg
  have B := bg_of (P := P) (w := w) (K := K) (mg := mg) (base := base) (N := ["_law_thing", "_law_found", "e"]) (f := f) (cdv := cdv) (A := A) (outer := outer) (s := s) (H := H) (E := E) (ca := ca) hr hg (by decide +kernel)
  have hp : PassesOwn (model P w) (cxOf (L2.CX P w) P w K mg base ["_law_thing", "_law_found", "e"] "_law_told" (defScope (top 26)) f cdv A outer s H E).A (cxOf (L2.CX P w) P w K mg base ["_law_thing", "_law_found", "e"] "_law_told" (defScope (top 26)) f cdv A outer s H E).env (cxOf (L2.CX P w) P w K mg base ["_law_thing", "_law_found", "e"] "_law_told" (defScope (top 26)) f cdv A outer s H E).xe := passes_of rfl
  exact (os_seq (os_asg ok_non (g_name B 1 rfl rfl rfl (zAny_set 1)) rfl rfl rfl)
    (os_seq (k_tryAs B (fun n => n == 103) 2 Z.h_103 rfl rfl rfl rfl rfl rfl (fun W1 pn1 xe1 B hp => (os_one (os_asg (k_tup (k_cons (k_str [114,101,97,100] (by decide +kernel)) (k_cons (k_call (P := PP k) B Z.f_139 (k_cons (k_var B 0 rfl rfl) k_nil rfl) rfl rfl rfl rfl) k_nil rfl) rfl)) (g_name B 1 rfl rfl rfl (zAny_set 1)) rfl rfl rfl))) (fun a1 oe1 pn1 y C n0 hca hca0 Ex B => (os_one (os_asg (k_tup (k_cons (k_str [110,111,110,101] (by decide +kernel)) (k_cons (k_and B (k_isx rfl (Z.x_exc _ _ n0 hca0) Ex n0 hca rfl Z.g_isinstance rfl (Z.i_WallError.exc _) rfl rfl rfl rfl rfl rfl) (ok_one (k_isx rfl (Z.x_exc _ _ n0 hca0) Ex n0 hca rfl Z.g_isinstance rfl (Z.i_ValueError.exc _) rfl rfl rfl rfl rfl rfl))) k_nil rfl) rfl)) (g_name B 1 rfl rfl rfl (zAny_set 1)) rfl rfl rfl))))
    (os_one (os_ret (k_var B 1 rfl rfl)))))
theorem w_145 (Z : Fx P w K mg base ⟨K, w, ca⟩ k) : Walks P w K mg base ca k ["_law_pot_here", "_law_page", "_law_at", "_law_sign", "_law_way"] "_law_spoilt" (defScope (top 27)) (defBody (top 27)) (b_145 (TT.prm (callT TT k))) := by
  intro f cdv A outer s H E hr hg
  have B := bg_of (P := P) (w := w) (K := K) (mg := mg) (base := base) (N := ["_law_pot_here", "_law_page", "_law_at", "_law_sign", "_law_way"]) (f := f) (cdv := cdv) (A := A) (outer := outer) (s := s) (H := H) (E := E) (ca := ca) hr hg (by decide +kernel)
  have hp : PassesOwn (model P w) (cxOf (L2.CX P w) P w K mg base ["_law_pot_here", "_law_page", "_law_at", "_law_sign", "_law_way"] "_law_spoilt" (defScope (top 27)) f cdv A outer s H E).A (cxOf (L2.CX P w) P w K mg base ["_law_pot_here", "_law_page", "_law_at", "_law_sign", "_law_way"] "_law_spoilt" (defScope (top 27)) f cdv A outer s H E).env (cxOf (L2.CX P w) P w K mg base ["_law_pot_here", "_law_page", "_law_at", "_law_sign", "_law_way"] "_law_spoilt" (defScope (top 27)) f cdv A outer s H E).xe := passes_of rfl
  exact (os_seq (k_par B 2 3 rfl rfl (by decide) rfl rfl (k_cons (k_call (P := PP k) B Z.f_113 (k_cons (k_var B 0 rfl rfl) (k_cons (k_bin B .add (k_len B Z.g_len rfl (k_bvar B 1 rfl rfl) rfl (by decide) rfl rfl rfl) ok_int) k_nil rfl) rfl) rfl rfl rfl rfl) (k_cons (k_call (P := PP k) B Z.f_127 (k_cons (k_var B 0 rfl rfl) (k_cons (k_str [40,41,91,93,62,62,97,110,117,109,116,101,120,116,100,101,98,32,44,45] (by decide +kernel)) k_nil rfl) rfl) rfl rfl rfl rfl) k_nil rfl) rfl) rfl rfl)
    (os_seq (os_asg (k_call (P := PP k) B Z.f_113 (k_cons (k_var B 0 rfl rfl) (k_cons ok_int k_nil rfl) rfl) rfl rfl rfl rfl) (g_name B 4 rfl rfl rfl (zAny_set 4)) rfl rfl rfl)
    (os_seq (os_if (kT_cmp2 B .lt (k_bvar B 4 rfl rfl) k_sint rfl) (os_one (os_ret (k_bin B .add (k_bin B .add (k_slc2 B (k_bvar B 1 rfl rfl) po_nos (po_yess (k_svar B 2 rfl rfl))) (k_var B 3 rfl rfl)) (k_slc2 B (k_bvar B 1 rfl rfl) (po_yess (k_svar B 2 rfl rfl)) po_nos)))) os_nil)
    (os_seq (os_if (kT_cmp2 B .eq (k_bvar B 4 rfl rfl) k_sint rfl) (os_one (os_ret (k_bin B .add (k_bin B .add (k_slc2 B (k_bvar B 1 rfl rfl) po_nos (po_yess (k_svar B 2 rfl rfl))) (k_var B 3 rfl rfl)) (k_slc B (k_var B 1 rfl rfl) (po_yes (k_bin B .add (k_var B 2 rfl rfl) ok_int)) po_no)))) os_nil)
    (os_seq (os_if (kT_cmp2 B .eq (k_bvar B 4 rfl rfl) k_sint rfl) (os_one (os_ret (k_bin B .add (k_slc2 B (k_bvar B 1 rfl rfl) po_nos (po_yess (k_svar B 2 rfl rfl))) (k_slc B (k_var B 1 rfl rfl) (po_yes (k_bin B .add (k_var B 2 rfl rfl) ok_int)) po_no)))) os_nil)
    (os_seq (os_if (kT_cmp2 B .eq (k_bvar B 4 rfl rfl) k_sint rfl) (os_one (os_ret (k_bin B .add (k_bin B .add (k_slc2 B (k_bvar B 1 rfl rfl) po_nos (po_yess (k_svar B 2 rfl rfl))) (k_rev B (k_slc B (k_var B 1 rfl rfl) (po_yes (k_var B 2 rfl rfl)) (po_yes (k_bin B .add (k_var B 2 rfl rfl) ok_int))))) (k_slc B (k_var B 1 rfl rfl) (po_yes (k_bin B .add (k_var B 2 rfl rfl) ok_int)) po_no)))) os_nil)
    (os_seq (os_if (kT_cmp2 B .eq (k_bvar B 4 rfl rfl) k_sint rfl) (os_one (os_ret (k_bin B .add (k_bin B .add (k_slc2 B (k_bvar B 1 rfl rfl) po_nos (po_yess (k_svar B 2 rfl rfl))) (k_slc2 B (k_bvar B 1 rfl rfl) po_nos (po_yess k_sint))) (k_slc2 B (k_bvar B 1 rfl rfl) (po_yess (k_svar B 2 rfl rfl)) po_nos)))) os_nil)
    (os_one (os_ret (k_idx B (k_fz (kF_lst (k_cons (ok_joined (PM.cons (k_str [91] (by decide +kernel)) (PM.cons (ok_fmt (k_var B 1 rfl rfl)) (PM.cons (k_str [93] (by decide +kernel)) PM.nil)))) (k_cons (ok_joined (PM.cons (k_str [40] (by decide +kernel)) (PM.cons (ok_fmt (k_var B 1 rfl rfl)) (PM.cons (k_str [62,97,110,121,41] (by decide +kernel)) PM.nil)))) (k_cons (ok_joined (PM.cons (k_str [40,110,117,109,62] (by decide +kernel)) (PM.cons (ok_fmt (k_var B 1 rfl rfl)) (PM.cons (k_str [41] (by decide +kernel)) PM.nil)))) (k_cons (k_bin B .add (k_var B 1 rfl rfl) (k_var B 1 rfl rfl)) k_nil rfl) rfl) rfl) rfl))) (k_call (P := PP k) B Z.f_113 (k_cons (k_var B 0 rfl rfl) (k_cons ok_int k_nil rfl) rfl) rfl rfl rfl rfl) (fun _ _ => rfl)))))))))))
theorem w_125 (Z : Fx P w K mg base ⟨K, w, ca⟩ k) : Walks P w K mg base ca k ["_law_page", "_law_due_here"] "_law_right" (defScope (top 28)) (defBody (top 28)) (b_125 (TT.prm (callT TT k))) := by
  intro f cdv A outer s H E hr hg
  have B := bg_of (P := P) (w := w) (K := K) (mg := mg) (base := base) (N := ["_law_page", "_law_due_here"]) (f := f) (cdv := cdv) (A := A) (outer := outer) (s := s) (H := H) (E := E) (ca := ca) hr hg (by decide +kernel)
  have hp : PassesOwn (model P w) (cxOf (L2.CX P w) P w K mg base ["_law_page", "_law_due_here"] "_law_right" (defScope (top 28)) f cdv A outer s H E).A (cxOf (L2.CX P w) P w K mg base ["_law_page", "_law_due_here"] "_law_right" (defScope (top 28)) f cdv A outer s H E).env (cxOf (L2.CX P w) P w K mg base ["_law_page", "_law_due_here"] "_law_right" (defScope (top 28)) f cdv A outer s H E).xe := passes_of rfl
  exact (os_seq (os_asg (k_call (P := PP k) B Z.f_172 (k_cons (k_var B 0 rfl rfl) k_nil rfl) rfl rfl rfl rfl) (g_name B 1 rfl rfl rfl (zAny_set 1)) rfl rfl rfl)
    (os_seq (os_if (kT_cmp2 B .is_ (k_bvar B 1 rfl rfl) k_snon rfl) (os_one (os_ret (k_cmp B .eq (k_bi B .repr rfl Z.g_repr rfl (k_cons (k_call (P := PP k) B Z.f_124 (k_cons (k_var B 0 rfl rfl) k_nil rfl) rfl rfl rfl rfl) k_nil rfl) rfl (by decide) rfl rfl rfl) (PE.toBo (k_bi B .repr rfl Z.g_repr rfl (k_cons (k_tup (k_cons (k_str [110,111,110,101] (by decide +kernel)) (k_cons ok_bl k_nil rfl) rfl)) k_nil rfl) rfl (by decide) rfl rfl rfl)) rfl))) os_nil)
    (os_one (os_ret (k_and B (k_cmp B .eq (k_bi B .repr rfl Z.g_repr rfl (k_cons (k_call (P := PP k) B Z.f_124 (k_cons (k_var B 0 rfl rfl) k_nil rfl) rfl rfl rfl rfl) k_nil rfl) rfl (by decide) rfl rfl rfl) (PE.toBo (k_bi B .repr rfl Z.g_repr rfl (k_cons (k_tup (k_cons (k_str [114,101,97,100] (by decide +kernel)) (k_cons (k_var B 1 rfl rfl) k_nil rfl) rfl)) k_nil rfl) rfl (by decide) rfl rfl rfl)) rfl) (ok_one (k_cmp B .eq (k_call (P := PP k) B Z.f_136 (k_cons (k_var B 1 rfl rfl) k_nil rfl) rfl rfl rfl rfl) (k_bvar B 0 rfl rfl) rfl)))))))
theorem w_126 (Z : Fx P w K mg base ⟨K, w, ca⟩ k) : Walks P w K mg base ca k ["_law_script", "_law_k", "_law_pot_here", "_law_good", "_law_page", "_law_turn", "_law_high", "_law_things", "_law_thing"] "law" (defScope (top 29)) (defBody (top 29)) (b_126 (TT.prm (callT TT k))) := by
  intro f cdv A outer s H E hr hg
  have B := bg_of (P := P) (w := w) (K := K) (mg := mg) (base := base) (N := ["_law_script", "_law_k", "_law_pot_here", "_law_good", "_law_page", "_law_turn", "_law_high", "_law_things", "_law_thing"]) (f := f) (cdv := cdv) (A := A) (outer := outer) (s := s) (H := H) (E := E) (ca := ca) hr hg (by decide +kernel)
  have hp : PassesOwn (model P w) (cxOf (L2.CX P w) P w K mg base ["_law_script", "_law_k", "_law_pot_here", "_law_good", "_law_page", "_law_turn", "_law_high", "_law_things", "_law_thing"] "law" (defScope (top 29)) f cdv A outer s H E).A (cxOf (L2.CX P w) P w K mg base ["_law_script", "_law_k", "_law_pot_here", "_law_good", "_law_page", "_law_turn", "_law_high", "_law_things", "_law_thing"] "law" (defScope (top 29)) f cdv A outer s H E).env (cxOf (L2.CX P w) P w K mg base ["_law_script", "_law_k", "_law_pot_here", "_law_good", "_law_page", "_law_turn", "_law_high", "_law_things", "_law_thing"] "law" (defScope (top 29)) f cdv A outer s H E).xe := passes_of rfl
  exact (os_seq (k_for B hp (oi_rng1 rfl Z.g_range (k_cons (k_bi B .max2 rfl Z.g_max rfl (k_cons ok_int (k_cons (k_bi B .min2 rfl Z.g_min rfl (k_cons ok_int (k_cons (k_len B Z.g_len rfl (k_bvar B 0 rfl rfl) rfl (by decide) rfl rfl rfl) k_nil rfl) rfl) rfl (by decide) rfl rfl rfl) k_nil rfl) rfl) rfl (by decide) rfl rfl rfl) k_nil rfl) rfl) (g_name B 1 rfl rfl rfl (zAny_set 1)) (os_seq (os_asg (k_call (P := PP k) B Z.f_112 (k_cons (k_var B 0 rfl rfl) (k_cons (k_var B 1 rfl rfl) k_nil rfl) rfl) rfl rfl rfl rfl) (g_name B 2 rfl rfl rfl (zAny_set 2)) rfl rfl rfl)
    (os_seq (os_asg (k_call (P := PP k) B Z.f_141 (k_cons (k_call (P := PP k) B Z.f_114 (k_cons (k_var B 2 rfl rfl) (k_cons (k_call (P := PP k) B Z.f_113 (k_cons (k_var B 2 rfl rfl) (k_cons ok_int k_nil rfl) rfl) rfl rfl rfl rfl) k_nil rfl) rfl) rfl rfl rfl rfl) k_nil rfl) rfl rfl rfl rfl) (g_name B 3 rfl rfl rfl (zAny_set 3)) rfl rfl rfl)
    (os_seq (os_asg (k_var B 3 rfl rfl) (g_name B 4 rfl rfl rfl (zAny_set 4)) rfl rfl rfl)
    (os_seq (k_for B hp (oi_rng1 rfl Z.g_range (k_cons ok_int k_nil rfl) rfl) (g_name B 5 rfl rfl rfl (zAny_set 5)) (os_seq (os_asg (k_call (P := PP k) B Z.f_145 (k_cons (k_var B 2 rfl rfl) (k_cons (k_var B 4 rfl rfl) k_nil rfl) rfl) rfl rfl rfl rfl) (g_name B 4 rfl rfl rfl (zAny_set 4)) rfl rfl rfl)
    (os_one (os_if (PW.pt (okW_or (kT_not (kT_of B (k_call (P := PP k) B Z.f_125 (k_cons (k_var B 4 rfl rfl) k_nil rfl) rfl rfl rfl rfl) (fun _ => rfl))) (okW_one_or (kT_not (kT_of B (k_call (P := PP k) B Z.f_125 (k_cons (k_var B 3 rfl rfl) k_nil rfl) rfl rfl rfl rfl) (fun _ => rfl)))))) (os_one (os_ret ok_bl)) os_nil))) (fun _ => rfl))
    (os_seq (os_asg (k_bin B .add (k_bin B .add (k_bin B .mul (k_str [91] (by decide +kernel)) ok_int) (k_idx B (k_fz (kF_lst (k_cons (k_str [97,110,121] (by decide +kernel)) (k_cons (k_str [110,117,109] (by decide +kernel)) (k_cons (k_str [116,101,120,116] (by decide +kernel)) k_nil rfl) rfl) rfl))) (k_call (P := PP k) B Z.f_113 (k_cons (k_var B 2 rfl rfl) (k_cons ok_int k_nil rfl) rfl) rfl rfl rfl rfl) (fun _ _ => rfl))) (k_bin B .mul (k_str [93] (by decide +kernel)) ok_int)) (g_name B 6 rfl rfl rfl (zAny_set 6)) rfl rfl rfl)
    (os_one (os_if (PW.pt (okW_or (kT_not (kT_of B (k_call (P := PP k) B Z.f_125 (k_cons (k_var B 6 rfl rfl) k_nil rfl) rfl rfl rfl rfl) (fun _ => rfl))) (okW_or (kT_not (kT_of B (k_call (P := PP k) B Z.f_125 (k_cons (k_bin B .add (k_bin B .add (k_str [91] (by decide +kernel)) (k_var B 6 rfl rfl)) (k_str [93] (by decide +kernel))) k_nil rfl) rfl rfl rfl rfl) (fun _ => rfl))) (okW_one_or (kT_not (kT_of B (k_call (P := PP k) B Z.f_125 (k_cons (ok_joined (PM.cons (k_str [40] (by decide +kernel)) (PM.cons (ok_fmt (k_var B 6 rfl rfl)) (PM.cons (k_str [62,110,117,109,41] (by decide +kernel)) PM.nil)))) k_nil rfl) rfl rfl rfl rfl) (fun _ => rfl))))))) (os_one (os_ret ok_bl)) os_nil))))))) (fun _ => rfl))
    (os_seq (os_asg (k_fz (kF_lst (k_cons ok_non (k_cons ok_int (k_cons ok_int (k_cons ok_bl (k_cons ok_bl (k_cons (k_tup k_nil) (k_cons (k_fz (kF_lst k_nil)) (k_cons (PE.ofSi (ok_sdct (B.hc rfl))) (k_cons (k_tup (k_cons (k_str [98,111,120] (by decide +kernel)) (k_cons (k_str [97,110,121] (by decide +kernel)) k_nil rfl) rfl)) (k_cons (k_fz (kF_lst (k_cons (k_str [97,110,121] (by decide +kernel)) k_nil rfl))) (k_cons (k_tup (k_cons (k_str [100,101,101,100] (by decide +kernel)) (k_cons (k_str [97,110,121] (by decide +kernel)) (k_cons (k_str [110,117,109] (by decide +kernel)) k_nil rfl) rfl) rfl)) (k_cons (k_tup (k_cons (k_str [97,110,121] (by decide +kernel)) k_nil rfl)) k_nil rfl) rfl) rfl) rfl) rfl) rfl) rfl) rfl) rfl) rfl) rfl) rfl))) (g_name B 7 rfl rfl rfl (zAny_set 7)) rfl rfl rfl)
    (os_one (os_ret (k_and B (k_call (P := PP k) B Z.f_125 (k_cons (k_str [] (by decide +kernel)) k_nil rfl) rfl rfl rfl rfl) (ok_one (k_bi B .all rfl Z.g_all rfl (k_cons (k_fz (kF_comp B (oi_sq B.hK (k_var B 7 rfl rfl)) (blkOk_by (N := ["_law_script", "_law_k", "_law_pot_here", "_law_good", "_law_page", "_law_turn", "_law_high", "_law_things", "_law_thing"]) (sc := defScope (top 29)) (own := [("_law_thing", 8)]) (by decide +kernel)) rfl (fun s0 H0 C0 cl0 fp0 B => (g_name B 8 rfl rfl rfl (zOwn_set (by decide)))) (fun s0 H0 C0 cl0 fp0 B => ots_nil) (fun s0 H0 C0 cl0 fp0 B => (k_cmp B .eq (k_bi B .repr rfl Z.g_repr rfl (k_cons (k_call (P := PP k) B Z.f_124 (k_cons (k_var B 8 rfl rfl) k_nil rfl) rfl rfl rfl rfl) k_nil rfl) rfl (by decide) rfl rfl rfl) (PE.toBo (k_bi B .repr rfl Z.g_repr rfl (k_cons (k_tup (k_cons (k_str [110,111,110,101] (by decide +kernel)) (k_cons ok_bl k_nil rfl) rfl)) k_nil rfl) rfl (by decide) rfl rfl rfl)) rfl)) (fun _ => rfl))) k_nil rfl) rfl (by decide) rfl rfl rfl)))))))
end
def e_101 : He.DefD := ⟨("is_form_to", none), "is_form_to", "is_form_to", defArgs (top 9), defBody (top 9), defScope (top 9), [], []⟩
def e_102 : He.DefD := ⟨("is_form", none), "is_form", "is_form", defArgs (top 10), defBody (top 10), defScope (top 10), [], []⟩
def e_104 : He.DefD := ⟨("want_form", none), "want_form", "want_form", defArgs (top 11), defBody (top 11), defScope (top 11), [], []⟩
def e_135 : He.DefD := ⟨("text_of_form", none), "text_of_form", "text_of_form", defArgs (top 13), defBody (top 13), defScope (top 13), [], []⟩
def e_136 : He.DefD := ⟨("form_text", none), "form_text", "form_text", defArgs (top 14), defBody (top 14), defScope (top 14), [], []⟩
def e_137 : He.DefD := ⟨("want_sign", none), "want_sign", "want_sign", defArgs (top 15), defBody (top 15), defScope (top 15), [], []⟩
def e_138 : He.DefD := ⟨("form_at", none), "form_at", "form_at", defArgs (top 16), defBody (top 16), defScope (top 16), [], []⟩
def e_139 : He.DefD := ⟨("read_form", none), "read_form", "read_form", defArgs (top 17), defBody (top 17), defScope (top 17), [], []⟩
def e_112 : He.DefD := ⟨("_law_pot", none), "_law_pot", "_law_pot", defArgs (top 19), defBody (top 19), defScope (top 19), [], []⟩
def e_113 : He.DefD := ⟨("_law_digit", none), "_law_digit", "_law_digit", defArgs (top 20), defBody (top 20), defScope (top 20), [], []⟩
def e_127 : He.DefD := ⟨("_law_pick", none), "_law_pick", "_law_pick", defArgs (top 21), defBody (top 21), defScope (top 21), [], []⟩
def e_114 : He.DefD := ⟨("_law_form", none), "_law_form", "_law_form", defArgs (top 22), defBody (top 22), defScope (top 22), [], []⟩
def e_141 : He.DefD := ⟨("_law_written", none), "_law_written", "_law_written", defArgs (top 23), defBody (top 23), defScope (top 23), [], []⟩
def e_188 : He.DefD := ⟨("_law_read", none), "_law_read", "_law_read", defArgs (top 24), defBody (top 24), defScope (top 24), [], []⟩
def e_172 : He.DefD := ⟨("_law_due", none), "_law_due", "_law_due", defArgs (top 25), defBody (top 25), defScope (top 25), [], []⟩
def e_124 : He.DefD := ⟨("_law_told", none), "_law_told", "_law_told", defArgs (top 26), defBody (top 26), defScope (top 26), [], []⟩
def e_145 : He.DefD := ⟨("_law_spoilt", none), "_law_spoilt", "_law_spoilt", defArgs (top 27), defBody (top 27), defScope (top 27), [], []⟩
def e_125 : He.DefD := ⟨("_law_right", none), "_law_right", "_law_right", defArgs (top 28), defBody (top 28), defScope (top 28), [], []⟩
def e_126 : He.DefD := ⟨("law", none), "law", "law", defArgs (top 29), defBody (top 29), defScope (top 29), [], []⟩
def fns : List He.DefD := [e_101, e_102, e_104, e_135, e_136, e_137, e_138, e_139, e_112, e_113, e_127, e_114, e_141, e_188, e_172, e_124, e_145, e_125, e_126]
def fas : List He.Fa := [.glo "is_form_to", .glo "is_form", .glo "want_form", .glo "text_of_form", .glo "form_text", .glo "want_sign", .glo "form_at", .glo "read_form", .glo "_law_pot", .glo "_law_digit", .glo "_law_pick", .glo "_law_form", .glo "_law_written", .glo "_law_read", .glo "_law_due", .glo "_law_told", .glo "_law_spoilt", .glo "_law_right", .glo "law", .free "isinstance", .free "str", .glo "PLAIN", .free "tuple", .free "len", .glo "WIDTHS", .free "all", .int "MOST_HEIGHT" 5, .glo "NoForm", .exc "NoForm", .str "DEED" "deed", .str "BOX" "box", .free "abs", .free "max", .free "divmod", .free "int", .free "repr", .free "min", .free "range", .exm "NoForm" "NoForm" true, .free "ValueError", .glo "WallError"]
def tbs : List He.Tab := [(fun K => He.ga K "WIDTHS", ["deed", "box"])]
def chk (K : PySem.W.Frag) : Bool := (tupC "PLAIN" [(.str [97,110,121]), (.str [110,117,109]), (.str [116,101,120,116])] K) && (dicC "WIDTHS" [((.str [100,101,101,100]), (.int 3)), ((.str [98,111,120]), (.int 2))] K) && (kiT "NoForm" "ValueError" true K) && (excC "NoForm" K) && (kiC "NoForm" "WallError" true K)
def ca (K : PySem.W.Frag) : Nat → Option Addr
  | 103 => some (He.ga K "NoForm")
  | _ => none
section
variable {P : PySem.Program} {w : World} {K : PySem.W.Frag} {mg : Str → Option Value} {base h : Heap} {fds : Nat → FuncData}
structure Gk (P : PySem.Program) (w : World) (K : PySem.W.Frag) (mg : Str → Option Value) (base : Heap) (fds : Nat → FuncData) (k : Nat) : Prop where
  f_101 : FnG P w K mg base k (He.fAd K ("is_form_to", none)) (fds 0) ["thing", "high"] (spF ⟨K, w, ca K⟩ (callT TT k) 101 2)
  f_102 : FnG P w K mg base k (He.fAd K ("is_form", none)) (fds 1) ["thing"] (spF ⟨K, w, ca K⟩ (callT TT k) 102 1)
  f_104 : FnG P w K mg base k (He.fAd K ("want_form", none)) (fds 2) ["thing"] (spF ⟨K, w, ca K⟩ (callT TT k) 104 1)
  f_135 : FnG P w K mg base k (He.fAd K ("text_of_form", none)) (fds 3) ["form"] (spF ⟨K, w, ca K⟩ (callT TT k) 135 1)
  f_136 : FnG P w K mg base k (He.fAd K ("form_text", none)) (fds 4) ["form"] (spF ⟨K, w, ca K⟩ (callT TT k) 136 1)
  f_137 : FnG P w K mg base k (He.fAd K ("want_sign", none)) (fds 5) ["text", "at", "sign"] (spF ⟨K, w, ca K⟩ (callT TT k) 137 3)
  f_138 : FnG P w K mg base k (He.fAd K ("form_at", none)) (fds 6) ["text", "at", "high"] (spF ⟨K, w, ca K⟩ (callT TT k) 138 3)
  f_139 : FnG P w K mg base k (He.fAd K ("read_form", none)) (fds 7) ["text"] (spF ⟨K, w, ca K⟩ (callT TT k) 139 1)
  f_112 : FnG P w K mg base k (He.fAd K ("_law_pot", none)) (fds 8) ["_law_script", "_law_k"] (spF ⟨K, w, ca K⟩ (callT TT k) 112 2)
  f_113 : FnG P w K mg base k (He.fAd K ("_law_digit", none)) (fds 9) ["_law_pot_here", "_law_many"] (spF ⟨K, w, ca K⟩ (callT TT k) 113 2)
  f_127 : FnG P w K mg base k (He.fAd K ("_law_pick", none)) (fds 10) ["_law_pot_here", "_law_some"] (spF ⟨K, w, ca K⟩ (callT TT k) 127 2)
  f_114 : FnG P w K mg base k (He.fAd K ("_law_form", none)) (fds 11) ["_law_pot_here", "_law_high"] (spF ⟨K, w, ca K⟩ (callT TT k) 114 2)
  f_141 : FnG P w K mg base k (He.fAd K ("_law_written", none)) (fds 12) ["_law_form_here"] (spF ⟨K, w, ca K⟩ (callT TT k) 141 1)
  f_188 : FnG P w K mg base k (He.fAd K ("_law_read", none)) (fds 13) ["_law_page", "_law_at", "_law_high"] (spF ⟨K, w, ca K⟩ (callT TT k) 188 3)
  f_172 : FnG P w K mg base k (He.fAd K ("_law_due", none)) (fds 14) ["_law_page"] (spF ⟨K, w, ca K⟩ (callT TT k) 172 1)
  f_124 : FnG P w K mg base k (He.fAd K ("_law_told", none)) (fds 15) ["_law_thing"] (spF ⟨K, w, ca K⟩ (callT TT k) 124 1)
  f_145 : FnG P w K mg base k (He.fAd K ("_law_spoilt", none)) (fds 16) ["_law_pot_here", "_law_page"] (spF ⟨K, w, ca K⟩ (callT TT k) 145 2)
  f_125 : FnG P w K mg base k (He.fAd K ("_law_right", none)) (fds 17) ["_law_page"] (spF ⟨K, w, ca K⟩ (callT TT k) 125 1)
  f_126 : FnG P w K mg base k (He.fAd K ("law", none)) (fds 18) ["_law_script"] (spF ⟨K, w, ca K⟩ (callT TT k) 126 1)
theorem g_zero : Gk P w K mg base fds 0 := ⟨fnG_zero, fnG_zero, fnG_zero, fnG_zero, fnG_zero, fnG_zero, fnG_zero, fnG_zero, fnG_zero, fnG_zero, fnG_zero, fnG_zero, fnG_zero, fnG_zero, fnG_zero, fnG_zero, fnG_zero, fnG_zero, fnG_zero⟩
abbrev FnsD (K : PySem.W.Frag) (fds : Nat → FuncData) : Prop := ∀ (i : Nat) (d : He.DefD), fns[i]? = some d → FunD K d.name d.qual d.params d.body d.scope (d.dvs K) (d.kws K) (He.fAd K d.at_) (fds i)
theorem s_101 : FnScope ["thing", "high", "word", "parts", "part"] ["thing", "high"] (defScope (top 9)) := ⟨rfl, rfl, rfl, by decide +kernel, rfl, by decide +kernel, by decide +kernel⟩
theorem s_102 : FnScope ["thing"] ["thing"] (defScope (top 10)) := ⟨rfl, rfl, rfl, by decide +kernel, rfl, by decide +kernel, by decide +kernel⟩
theorem s_104 : FnScope ["thing"] ["thing"] (defScope (top 11)) := ⟨rfl, rfl, rfl, by decide +kernel, rfl, by decide +kernel, by decide +kernel⟩
theorem s_135 : FnScope ["form", "texts", "part"] ["form"] (defScope (top 13)) := ⟨rfl, rfl, rfl, by decide +kernel, rfl, by decide +kernel, by decide +kernel⟩
theorem s_136 : FnScope ["form"] ["form"] (defScope (top 14)) := ⟨rfl, rfl, rfl, by decide +kernel, rfl, by decide +kernel, by decide +kernel⟩
theorem s_137 : FnScope ["text", "at", "sign"] ["text", "at", "sign"] (defScope (top 15)) := ⟨rfl, rfl, rfl, by decide +kernel, rfl, by decide +kernel, by decide +kernel⟩
theorem s_138 : FnScope ["text", "at", "high", "word", "first", "end", "second"] ["text", "at", "high"] (defScope (top 16)) := ⟨rfl, rfl, rfl, by decide +kernel, rfl, by decide +kernel, by decide +kernel⟩
theorem s_139 : FnScope ["text", "form", "end"] ["text"] (defScope (top 17)) := ⟨rfl, rfl, rfl, by decide +kernel, rfl, by decide +kernel, by decide +kernel⟩
theorem s_112 : FnScope ["_law_script", "_law_k", "_law_cell"] ["_law_script", "_law_k"] (defScope (top 19)) := ⟨rfl, rfl, rfl, by decide +kernel, rfl, by decide +kernel, by decide +kernel⟩
theorem s_113 : FnScope ["_law_pot_here", "_law_many", "_law_digit_here"] ["_law_pot_here", "_law_many"] (defScope (top 20)) := ⟨rfl, rfl, rfl, by decide +kernel, rfl, by decide +kernel, by decide +kernel⟩
theorem s_127 : FnScope ["_law_pot_here", "_law_some"] ["_law_pot_here", "_law_some"] (defScope (top 21)) := ⟨rfl, rfl, rfl, by decide +kernel, rfl, by decide +kernel, by decide +kernel⟩
theorem s_114 : FnScope ["_law_pot_here", "_law_high", "_law_way"] ["_law_pot_here", "_law_high"] (defScope (top 22)) := ⟨rfl, rfl, rfl, by decide +kernel, rfl, by decide +kernel, by decide +kernel⟩
theorem s_141 : FnScope ["_law_form_here"] ["_law_form_here"] (defScope (top 23)) := ⟨rfl, rfl, rfl, by decide +kernel, rfl, by decide +kernel, by decide +kernel⟩
theorem s_188 : FnScope ["_law_page", "_law_at", "_law_high", "_law_word", "_law_sign", "_law_first", "_law_second"] ["_law_page", "_law_at", "_law_high"] (defScope (top 24)) := ⟨rfl, rfl, rfl, by decide +kernel, rfl, by decide +kernel, by decide +kernel⟩
theorem s_172 : FnScope ["_law_page", "_law_found"] ["_law_page"] (defScope (top 25)) := ⟨rfl, rfl, rfl, by decide +kernel, rfl, by decide +kernel, by decide +kernel⟩
theorem s_124 : FnScope ["_law_thing", "_law_found", "e"] ["_law_thing"] (defScope (top 26)) := ⟨rfl, rfl, rfl, by decide +kernel, rfl, by decide +kernel, by decide +kernel⟩
theorem s_145 : FnScope ["_law_pot_here", "_law_page", "_law_at", "_law_sign", "_law_way"] ["_law_pot_here", "_law_page"] (defScope (top 27)) := ⟨rfl, rfl, rfl, by decide +kernel, rfl, by decide +kernel, by decide +kernel⟩
theorem s_125 : FnScope ["_law_page", "_law_due_here"] ["_law_page"] (defScope (top 28)) := ⟨rfl, rfl, rfl, by decide +kernel, rfl, by decide +kernel, by decide +kernel⟩
theorem s_126 : FnScope ["_law_script", "_law_k", "_law_pot_here", "_law_good", "_law_page", "_law_turn", "_law_high", "_law_things", "_law_thing"] ["_law_script"] (defScope (top 29)) := ⟨rfl, rfl, rfl, by decide +kernel, rfl, by decide +kernel, by decide +kernel⟩
theorem g_step {k : Nat} (D : FnsD K fds) (Z : Fx P w K mg base ⟨K, w, ca K⟩ k) : Gk P w K mg base fds (k + 1) where
  f_101 := fn_of (T := TT) (nf := 101) (D 0 e_101 rfl) s_101 rfl rfl rfl (w_101 Z _)
  f_102 := fn_of (T := TT) (nf := 102) (D 1 e_102 rfl) s_102 rfl rfl rfl (w_102 Z _)
  f_104 := fn_of (T := TT) (nf := 104) (D 2 e_104 rfl) s_104 rfl rfl rfl (w_104 Z _)
  f_135 := fn_of (T := TT) (nf := 135) (D 3 e_135 rfl) s_135 rfl rfl rfl (w_135 Z _)
  f_136 := fn_of (T := TT) (nf := 136) (D 4 e_136 rfl) s_136 rfl rfl rfl (w_136 Z _)
  f_137 := fn_of (T := TT) (nf := 137) (D 5 e_137 rfl) s_137 rfl rfl rfl (w_137 Z _)
  f_138 := fn_of (T := TT) (nf := 138) (D 6 e_138 rfl) s_138 rfl rfl rfl (w_138 Z _)
  f_139 := fn_of (T := TT) (nf := 139) (D 7 e_139 rfl) s_139 rfl rfl rfl (w_139 Z _)
  f_112 := fn_of (T := TT) (nf := 112) (D 8 e_112 rfl) s_112 rfl rfl rfl (w_112 Z _)
  f_113 := fn_of (T := TT) (nf := 113) (D 9 e_113 rfl) s_113 rfl rfl rfl (w_113 Z _)
  f_127 := fn_of (T := TT) (nf := 127) (D 10 e_127 rfl) s_127 rfl rfl rfl (w_127 Z _)
  f_114 := fn_of (T := TT) (nf := 114) (D 11 e_114 rfl) s_114 rfl rfl rfl (w_114 Z _)
  f_141 := fn_of (T := TT) (nf := 141) (D 12 e_141 rfl) s_141 rfl rfl rfl (w_141 Z _)
  f_188 := fn_of (T := TT) (nf := 188) (D 13 e_188 rfl) s_188 rfl rfl rfl (w_188 Z _)
  f_172 := fn_of (T := TT) (nf := 172) (D 14 e_172 rfl) s_172 rfl rfl rfl (w_172 Z _)
  f_124 := fn_of (T := TT) (nf := 124) (D 15 e_124 rfl) s_124 rfl rfl rfl (w_124 Z _)
  f_145 := fn_of (T := TT) (nf := 145) (D 16 e_145 rfl) s_145 rfl rfl rfl (w_145 Z _)
  f_125 := fn_of (T := TT) (nf := 125) (D 17 e_125 rfl) s_125 rfl rfl rfl (w_125 Z _)
  f_126 := fn_of (T := TT) (nf := 126) (D 18 e_126 rfl) s_126 rfl rfl rfl (w_126 Z _)
theorem bd_101 (D : FnsD K fds) : L2.Binds K (fds 0) ["thing", "high"] [] := FunD.bindsN (D 0 e_101 rfl) fun _ _ _ _ _ _ us hl => match us, hl with | [_, _], _ => rfl
theorem bd_102 (D : FnsD K fds) : L2.Binds K (fds 1) ["thing"] [] := FunD.bindsN (D 1 e_102 rfl) fun _ _ _ _ _ _ us hl => match us, hl with | [_], _ => rfl
theorem bd_135 (D : FnsD K fds) : L2.Binds K (fds 3) ["form"] [] := FunD.bindsN (D 3 e_135 rfl) fun _ _ _ _ _ _ us hl => match us, hl with | [_], _ => rfl
theorem bd_104 (D : FnsD K fds) : L2.Binds K (fds 2) ["thing"] [] := FunD.bindsN (D 2 e_104 rfl) fun _ _ _ _ _ _ us hl => match us, hl with | [_], _ => rfl
theorem bd_138 (D : FnsD K fds) : L2.Binds K (fds 6) ["text", "at", "high"] [] := FunD.bindsN (D 6 e_138 rfl) fun _ _ _ _ _ _ us hl => match us, hl with | [_, _, _], _ => rfl
theorem bd_137 (D : FnsD K fds) : L2.Binds K (fds 5) ["text", "at", "sign"] [] := FunD.bindsN (D 5 e_137 rfl) fun _ _ _ _ _ _ us hl => match us, hl with | [_, _, _], _ => rfl
theorem bd_113 (D : FnsD K fds) : L2.Binds K (fds 9) ["_law_pot_here", "_law_many"] [] := FunD.bindsN (D 9 e_113 rfl) fun _ _ _ _ _ _ us hl => match us, hl with | [_, _], _ => rfl
theorem bd_114 (D : FnsD K fds) : L2.Binds K (fds 11) ["_law_pot_here", "_law_high"] [] := FunD.bindsN (D 11 e_114 rfl) fun _ _ _ _ _ _ us hl => match us, hl with | [_, _], _ => rfl
theorem bd_141 (D : FnsD K fds) : L2.Binds K (fds 12) ["_law_form_here"] [] := FunD.bindsN (D 12 e_141 rfl) fun _ _ _ _ _ _ us hl => match us, hl with | [_], _ => rfl
theorem bd_188 (D : FnsD K fds) : L2.Binds K (fds 13) ["_law_page", "_law_at", "_law_high"] [] := FunD.bindsN (D 13 e_188 rfl) fun _ _ _ _ _ _ us hl => match us, hl with | [_, _, _], _ => rfl
theorem bd_139 (D : FnsD K fds) : L2.Binds K (fds 7) ["text"] [] := FunD.bindsN (D 7 e_139 rfl) fun _ _ _ _ _ _ us hl => match us, hl with | [_], _ => rfl
theorem bd_127 (D : FnsD K fds) : L2.Binds K (fds 10) ["_law_pot_here", "_law_some"] [] := FunD.bindsN (D 10 e_127 rfl) fun _ _ _ _ _ _ us hl => match us, hl with | [_, _], _ => rfl
theorem bd_172 (D : FnsD K fds) : L2.Binds K (fds 14) ["_law_page"] [] := FunD.bindsN (D 14 e_172 rfl) fun _ _ _ _ _ _ us hl => match us, hl with | [_], _ => rfl
theorem bd_124 (D : FnsD K fds) : L2.Binds K (fds 15) ["_law_thing"] [] := FunD.bindsN (D 15 e_124 rfl) fun _ _ _ _ _ _ us hl => match us, hl with | [_], _ => rfl
theorem bd_136 (D : FnsD K fds) : L2.Binds K (fds 4) ["form"] [] := FunD.bindsN (D 4 e_136 rfl) fun _ _ _ _ _ _ us hl => match us, hl with | [_], _ => rfl
theorem bd_112 (D : FnsD K fds) : L2.Binds K (fds 8) ["_law_script", "_law_k"] [] := FunD.bindsN (D 8 e_112 rfl) fun _ _ _ _ _ _ us hl => match us, hl with | [_, _], _ => rfl
theorem bd_145 (D : FnsD K fds) : L2.Binds K (fds 16) ["_law_pot_here", "_law_page"] [] := FunD.bindsN (D 16 e_145 rfl) fun _ _ _ _ _ _ us hl => match us, hl with | [_, _], _ => rfl
theorem bd_125 (D : FnsD K fds) : L2.Binds K (fds 17) ["_law_page"] [] := FunD.bindsN (D 17 e_125 rfl) fun _ _ _ _ _ _ us hl => match us, hl with | [_], _ => rfl
theorem fx_of {k : Nat} (X : K.In h) (G : h.Ns mainGlobals mg) (c : SaysX fas fns tbs chk w K) (D : FnsD K fds) (g : Gk P w K mg base fds k) : Fx P w K mg base ⟨K, w, ca K⟩ k := by
  have cc := c.c
  unfold chk at cc
  simp only [Bool.and_eq_true] at cc
  exact {
    g_isinstance := He.free_ok X G (c.t.d.fact 19 (f := .free "isinstance") rfl)
    g_str := He.free_ok X G (c.t.d.fact 20 (f := .free "str") rfl)
    c_PLAIN := gc_tup (c := ⟨K, w, ca K⟩) X G (c.t.d.fact 21 (f := .glo "PLAIN") rfl) cc.1.1.1.1
    g_tuple := He.free_ok X G (c.t.d.fact 22 (f := .free "tuple") rfl)
    g_len := He.free_ok X G (c.t.d.fact 23 (f := .free "len") rfl)
    c_WIDTHS := gc_dic (c := ⟨K, w, ca K⟩) X G (c.t.d.fact 24 (f := .glo "WIDTHS") rfl) cc.1.1.1.2 (c.t.tab 0 rfl)
    f_101 := ⟨_, _, He.glo_ok X G (c.t.d.fact 0 (f := .glo "is_form_to") rfl), (D 0 e_101 rfl).kp, g.f_101, bd_101 D⟩
    g_all := He.free_ok X G (c.t.d.fact 25 (f := .free "all") rfl)
    c_MOST_HEIGHT := gc_int (c := ⟨K, w, ca K⟩) X G (c.t.d.fact 26 (f := .int "MOST_HEIGHT" 5) rfl)
    f_102 := ⟨_, _, He.glo_ok X G (c.t.d.fact 1 (f := .glo "is_form") rfl), (D 1 e_102 rfl).kp, g.f_102, bd_102 D⟩
    e_103 := ge_exc (c := ⟨K, w, ca K⟩) X G (by decide) rfl (c.t.d.fact 27 (f := .glo "NoForm") rfl) (c.t.d.fact 28 (f := .exc "NoForm") rfl)
    f_135 := ⟨_, _, He.glo_ok X G (c.t.d.fact 3 (f := .glo "text_of_form") rfl), (D 3 e_135 rfl).kp, g.f_135, bd_135 D⟩
    c_DEED := gc_str (c := ⟨K, w, ca K⟩) X G (by decide +kernel) (c.t.d.fact 29 (f := .str "DEED" "deed") rfl)
    f_104 := ⟨_, _, He.glo_ok X G (c.t.d.fact 2 (f := .glo "want_form") rfl), (D 2 e_104 rfl).kp, g.f_104, bd_104 D⟩
    f_138 := ⟨_, _, He.glo_ok X G (c.t.d.fact 6 (f := .glo "form_at") rfl), (D 6 e_138 rfl).kp, g.f_138, bd_138 D⟩
    f_137 := ⟨_, _, He.glo_ok X G (c.t.d.fact 5 (f := .glo "want_sign") rfl), (D 5 e_137 rfl).kp, g.f_137, bd_137 D⟩
    c_BOX := gc_str (c := ⟨K, w, ca K⟩) X G (by decide +kernel) (c.t.d.fact 30 (f := .str "BOX" "box") rfl)
    g_abs := He.free_ok X G (c.t.d.fact 31 (f := .free "abs") rfl)
    g_max := He.free_ok X G (c.t.d.fact 32 (f := .free "max") rfl)
    g_divmod := He.free_ok X G (c.t.d.fact 33 (f := .free "divmod") rfl)
    f_113 := ⟨_, _, He.glo_ok X G (c.t.d.fact 9 (f := .glo "_law_digit") rfl), (D 9 e_113 rfl).kp, g.f_113, bd_113 D⟩
    f_114 := ⟨_, _, He.glo_ok X G (c.t.d.fact 11 (f := .glo "_law_form") rfl), (D 11 e_114 rfl).kp, g.f_114, bd_114 D⟩
    f_141 := ⟨_, _, He.glo_ok X G (c.t.d.fact 12 (f := .glo "_law_written") rfl), (D 12 e_141 rfl).kp, g.f_141, bd_141 D⟩
    f_188 := ⟨_, _, He.glo_ok X G (c.t.d.fact 13 (f := .glo "_law_read") rfl), (D 13 e_188 rfl).kp, g.f_188, bd_188 D⟩
    g_int := He.free_ok X G (c.t.d.fact 34 (f := .free "int") rfl)
    h_103 := ⟨_, He.glo_ok X G (c.t.d.fact 27 (f := .glo "NoForm") rfl), fun n C' n0 e => by
      have e : ca K n = some C' := e
      unfold ca at e
      split at e
      · cases e; exact He.exm_ok (c.t.d.fact 38 (f := .exm "NoForm" "NoForm" true) rfl)
      · cases e⟩
    f_139 := ⟨_, _, He.glo_ok X G (c.t.d.fact 7 (f := .glo "read_form") rfl), (D 7 e_139 rfl).kp, g.f_139, bd_139 D⟩
    i_ValueError := ⟨_, _, .ty "ValueError", (fun n C' n0 e => by
      have e : ca K n = some C' := e
      unfold ca at e
      split at e
      · cases e; exact ki_ok cc.1.1.2
      · cases e), .inr ⟨He.free_ok X G (c.t.d.fact 39 (f := .free "ValueError") rfl), (by decide +kernel), (by decide)⟩⟩
    x_exc := fun n C' n0 e => by
      have e : ca K n = some C' := e
      unfold ca at e
      split at e
      · cases e; exact excC_ok cc.1.2
      · cases e
    i_WallError := ⟨_, _, .own _, (fun n C' n0 e => by
      have e : ca K n = some C' := e
      unfold ca at e
      split at e
      · cases e; exact ki_ok cc.2
      · cases e), .inl (He.glo_ok X G (c.t.d.fact 40 (f := .glo "WallError") rfl))⟩
    f_127 := ⟨_, _, He.glo_ok X G (c.t.d.fact 10 (f := .glo "_law_pick") rfl), (D 10 e_127 rfl).kp, g.f_127, bd_127 D⟩
    f_172 := ⟨_, _, He.glo_ok X G (c.t.d.fact 14 (f := .glo "_law_due") rfl), (D 14 e_172 rfl).kp, g.f_172, bd_172 D⟩
    f_124 := ⟨_, _, He.glo_ok X G (c.t.d.fact 15 (f := .glo "_law_told") rfl), (D 15 e_124 rfl).kp, g.f_124, bd_124 D⟩
    g_repr := He.free_ok X G (c.t.d.fact 35 (f := .free "repr") rfl)
    f_136 := ⟨_, _, He.glo_ok X G (c.t.d.fact 4 (f := .glo "form_text") rfl), (D 4 e_136 rfl).kp, g.f_136, bd_136 D⟩
    g_min := He.free_ok X G (c.t.d.fact 36 (f := .free "min") rfl)
    g_range := He.free_ok X G (c.t.d.fact 37 (f := .free "range") rfl)
    f_112 := ⟨_, _, He.glo_ok X G (c.t.d.fact 8 (f := .glo "_law_pot") rfl), (D 8 e_112 rfl).kp, g.f_112, bd_112 D⟩
    f_145 := ⟨_, _, He.glo_ok X G (c.t.d.fact 16 (f := .glo "_law_spoilt") rfl), (D 16 e_145 rfl).kp, g.f_145, bd_145 D⟩
    f_125 := ⟨_, _, He.glo_ok X G (c.t.d.fact 17 (f := .glo "_law_right") rfl), (D 17 e_125 rfl).kp, g.f_125, bd_125 D⟩
  }
theorem g_all (X : K.In h) (G : h.Ns mainGlobals mg) (c : SaysX fas fns tbs chk w K) (D : FnsD K fds) : ∀ k, Gk P w K mg base fds k
  | 0 => g_zero
  | k + 1 => g_step D (fx_of X G c D (g_all X G c D k))
end
abbrev Rw : PySem.W.OpenRow := PySem.W.OpenLaw.row PySem.Challenge.rw_wallseal_k15_form_texts_spoilt
abbrev hkx : PySem.W.Hook := hookX 4 fas fns tbs chk
def obx (s : PySem.W.SharedT) : AlX := obsXG 4 fas fns tbs chk (HandSHeadRun.getT s)
theorem obx_eq (s : PySem.W.SharedT) : obx s = hkx.obs s.abs := obsXG_eq (HandSHeadRun.getT_eq s)
theorem facts {P : PySem.Program} {w : World} {K : PySem.W.Frag} {h : Heap} {mg : Str → Option Value} {f : Addr} (kk : Nat) (M : ∀ ns : List Int, ns.length ≤ 63 → (∀ z ∈ ns, Builtin.Int.intBits z ≤ 1048576) → ∃ S', callT TT kk 126 [.scr ns] [] = .ok (.bl true) S')
    (X : K.In h) (G : h.Ns mainGlobals mg) (hfa : mg ("law" : Str) = some (.ref f)) (c : SaysX fas fns tbs chk w K) :
    ∃ (fd : FuncData) (sp : Sp), (∀ (s : Shared) (u : Value), BindsTo s fd ⟨[u], []⟩ [("_law_script", u)]) ∧
      (∀ (H : Hp) (a : Addr) (ns : List Int), ns.length ≤ 63 → (∀ z ∈ ns, Builtin.Int.intBits z ≤ 1048576) → Only H → SqL K H a (ns.map V.int) → sp [.ref a] H (fun v _ => v = .bl true) fun _ _ _ => False) ∧
      ∀ base : Heap, K.In base → base.Ns mainGlobals mg → FnG P w K mg base kk f fd ["_law_script"] sp := by
  obtain ⟨fds, D⟩ := c.fds
  have e := hfa.symm.trans (He.glo_ok X G (c.t.d.fact 18 (f := .glo "law") rfl))
  cases e
  refine ⟨fds 18, spF ⟨K, w, ca K⟩ (callT TT kk) 126 1, fun s u => FunD.bindsA (ps := ["_law_script"]) (D 18 e_126 rfl) (fun _ _ _ _ _ _ us hl => match us, hl with | [_], _ => rfl) s [u] rfl, fun H a ns h1 h2 _ hS => ?_, fun base _ _ => (g_all X G c D kk).f_126⟩
  obtain ⟨S', e⟩ := M ns h1 h2
  exact wish_of (c := ⟨K, w, ca K⟩) e hS
end k15
end Ev

set_option Elab.async false
set_option linter.all false
set_option autoImplicit false
set_option maxRecDepth 100000
set_option maxHeartbeats 4000000
namespace Ev
open PySem
/-! ### running -/
@[simp] theorem rb_ok {α β : Type} (a : α) (ρ : Env) (S : Sto) (f : α → M β) : Res.bind (.ok a ρ S) f = f a ρ S := rfl
@[simp] theorem rb_exc {α β : Type} (x : Exn) (ρ : Env) (S : Sto) (f : α → M β) : Res.bind (.exc x ρ S) f = .exc x ρ S := rfl

theorem mb {α β : Type} (m : M α) (f : α → M β) (ρ : Env) (S : Sto) : M.bind m f ρ S = Res.bind (m ρ S) f := rfl
theorem mp {α : Type} (a : α) (ρ : Env) (S : Sto) : M.pure a ρ S = .ok a ρ S := rfl
theorem mo_some {α : Type} (a : α) (ρ : Env) (S : Sto) : M.of (some a) ρ S = .ok a ρ S := rfl
theorem eqb_str (x y : Txt) : D.eqb (.str x) (.str y) = (x == y) := rfl
theorem eqb_int (x y : Int) : D.eqb (.int x) (.int y) = (x == y) := rfl
theorem eqb_bl (x y : Bool) : D.eqb (.bl x) (.bl y) = (x == y) := rfl
theorem eqb_tup (xs ys : List D) : D.eqb (.tup xs) (.tup ys) = D.eqbs xs ys := rfl
theorem eqbs_nil : D.eqbs [] [] = true := rfl
theorem eqbs_cn (x : D) (xs : List D) : D.eqbs (x :: xs) [] = false := rfl
theorem eqbs_nc (x : D) (xs : List D) : D.eqbs [] (x :: xs) = false := rfl
theorem eqbs_cc (x y : D) (xs ys : List D) : D.eqbs (x :: xs) (y :: ys) = (D.eqb x y && D.eqbs xs ys) := rfl
theorem eqb_st (x : Txt) (ys : List D) : D.eqb (.str x) (.tup ys) = false := rfl
theorem eqb_ts (x : Txt) (ys : List D) : D.eqb (.tup ys) (.str x) = false := rfl
theorem plain_str (n : Nat) (x : Txt) : D.plain n (.str x) = x.all fun k => decide (k < 1114112) := by cases n <;> rfl
theorem plain_int (n : Nat) (i : Int) : D.plain n (.int i) = true := by cases n <;> rfl
theorem plain_bl (n : Nat) (b : Bool) : D.plain n (.bl b) = true := by cases n <;> rfl
theorem plain_tup (n : Nat) (xs : List D) : D.plain (n + 1) (.tup xs) = D.plains n xs := rfl
theorem plains_nil (n : Nat) : D.plains n [] = true := by cases n <;> rfl
theorem plains_cons (n : Nat) (x : D) (xs : List D) : D.plains n (x :: xs) = (D.plain n x && D.plains n xs) := by cases n <;> rfl
theorem eqb_nn : D.eqb .non .non = true := rfl
theorem eqb_nb (y : Bool) : D.eqb .non (.bl y) = false := rfl
theorem eqb_ni (y : Int) : D.eqb .non (.int y) = false := rfl
theorem eqb_ns (y : Txt) : D.eqb .non (.str y) = false := rfl
theorem eqb_nt (y : List D) : D.eqb .non (.tup y) = false := rfl
theorem eqb_nl (y : List D) : D.eqb .non (.lst y) = false := rfl
theorem eqb_nd (y : List (D × D)) : D.eqb .non (.dic y) = false := rfl
theorem eqb_bn (x : Bool) : D.eqb (.bl x) .non = false := rfl
theorem eqb_bi (x : Bool) (y : Int) : D.eqb (.bl x) (.int y) = ((if x then (1 : Int) else 0) == y) := rfl
theorem eqb_bs (x : Bool) (y : Txt) : D.eqb (.bl x) (.str y) = false := rfl
theorem eqb_bt (x : Bool) (y : List D) : D.eqb (.bl x) (.tup y) = false := rfl
theorem eqb_b_l (x : Bool) (y : List D) : D.eqb (.bl x) (.lst y) = false := rfl
theorem eqb_bd (x : Bool) (y : List (D × D)) : D.eqb (.bl x) (.dic y) = false := rfl
theorem eqb_in (x : Int) : D.eqb (.int x) .non = false := rfl
theorem eqb_ib (x : Int) (y : Bool) : D.eqb (.int x) (.bl y) = (x == (if y then (1 : Int) else 0)) := rfl
theorem eqb_is (x : Int) (y : Txt) : D.eqb (.int x) (.str y) = false := rfl
theorem eqb_it (x : Int) (y : List D) : D.eqb (.int x) (.tup y) = false := rfl
theorem eqb_il (x : Int) (y : List D) : D.eqb (.int x) (.lst y) = false := rfl
theorem eqb_id (x : Int) (y : List (D × D)) : D.eqb (.int x) (.dic y) = false := rfl
theorem eqb_sn (x : Txt) : D.eqb (.str x) .non = false := rfl
theorem eqb_sb (x : Txt) (y : Bool) : D.eqb (.str x) (.bl y) = false := rfl
theorem eqb_si (x : Txt) (y : Int) : D.eqb (.str x) (.int y) = false := rfl
theorem eqb_sl (x : Txt) (y : List D) : D.eqb (.str x) (.lst y) = false := rfl
theorem eqb_sd (x : Txt) (y : List (D × D)) : D.eqb (.str x) (.dic y) = false := rfl
theorem eqb_tn (x : List D) : D.eqb (.tup x) .non = false := rfl
theorem eqb_tb (x : List D) (y : Bool) : D.eqb (.tup x) (.bl y) = false := rfl
theorem eqb_ti (x : List D) (y : Int) : D.eqb (.tup x) (.int y) = false := rfl
theorem eqb_tl (x : List D) (y : List D) : D.eqb (.tup x) (.lst y) = false := rfl
theorem eqb_td (x : List D) (y : List (D × D)) : D.eqb (.tup x) (.dic y) = false := rfl
theorem eqb_ln (x : List D) : D.eqb (.lst x) .non = false := rfl
theorem eqb_lb (x : List D) (y : Bool) : D.eqb (.lst x) (.bl y) = false := rfl
theorem eqb_li (x : List D) (y : Int) : D.eqb (.lst x) (.int y) = false := rfl
theorem eqb_ls (x : List D) (y : Txt) : D.eqb (.lst x) (.str y) = false := rfl
theorem eqb_lt (x : List D) (y : List D) : D.eqb (.lst x) (.tup y) = false := rfl
theorem eqb_ll (x : List D) (y : List D) : D.eqb (.lst x) (.lst y) = D.eqbs x y := rfl
theorem eqb_ld (x : List D) (y : List (D × D)) : D.eqb (.lst x) (.dic y) = false := rfl
theorem eqb_dn (x : List (D × D)) : D.eqb (.dic x) .non = false := rfl
theorem eqb_db (x : List (D × D)) (y : Bool) : D.eqb (.dic x) (.bl y) = false := rfl
theorem eqb_di (x : List (D × D)) (y : Int) : D.eqb (.dic x) (.int y) = false := rfl
theorem eqb_ds (x : List (D × D)) (y : Txt) : D.eqb (.dic x) (.str y) = false := rfl
theorem eqb_dt (x : List (D × D)) (y : List D) : D.eqb (.dic x) (.tup y) = false := rfl
theorem eqb_dl (x : List (D × D)) (y : List D) : D.eqb (.dic x) (.lst y) = false := rfl
theorem eqb_dd (x : List (D × D)) (y : List (D × D)) : D.eqb (.dic x) (.dic y) = false := rfl
theorem plain_non (n : Nat) : D.plain n .non = true := by cases n <;> rfl
theorem plain_lst (n : Nat) (xs : List D) : D.plain (n + 1) (.lst xs) = D.plains n xs := rfl
theorem plain_dic (n : Nat) (xs : List (D × D)) : D.plain n (.dic xs) = false := by cases n <;> rfl
theorem eqo_nn : eqo .non .non = if D.plain 60 .non && D.plain 60 .non then some (D.eqb .non .non) else none := rfl
theorem eqo_nb (y : Bool) : eqo .non (.bl y) = if D.plain 60 .non && D.plain 60 (.bl y) then some (D.eqb .non (.bl y)) else none := rfl
theorem eqo_ni (y : Int) : eqo .non (.int y) = if D.plain 60 .non && D.plain 60 (.int y) then some (D.eqb .non (.int y)) else none := rfl
theorem eqo_ns (y : Txt) : eqo .non (.str y) = if D.plain 60 .non && D.plain 60 (.str y) then some (D.eqb .non (.str y)) else none := rfl
theorem eqo_nt (y : List D) : eqo .non (.tup y) = if D.plain 60 .non && D.plain 60 (.tup y) then some (D.eqb .non (.tup y)) else none := rfl
theorem eqo_nl (y : List D) : eqo .non (.lst y) = if D.plain 60 .non && D.plain 60 (.lst y) then some (D.eqb .non (.lst y)) else none := rfl
theorem eqo_nd (y : List (D × D)) : eqo .non (.dic y) = if D.plain 60 .non && D.plain 60 (.dic y) then some (D.eqb .non (.dic y)) else none := rfl
theorem eqo_bn (x : Bool) : eqo (.bl x) .non = if D.plain 60 (.bl x) && D.plain 60 .non then some (D.eqb (.bl x) .non) else none := rfl
theorem eqo_bb (x : Bool) (y : Bool) : eqo (.bl x) (.bl y) = some (x == y) := rfl
theorem eqo_bi (x : Bool) (y : Int) : eqo (.bl x) (.int y) = if D.plain 60 (.bl x) && D.plain 60 (.int y) then some (D.eqb (.bl x) (.int y)) else none := rfl
theorem eqo_bs (x : Bool) (y : Txt) : eqo (.bl x) (.str y) = if D.plain 60 (.bl x) && D.plain 60 (.str y) then some (D.eqb (.bl x) (.str y)) else none := rfl
theorem eqo_bt (x : Bool) (y : List D) : eqo (.bl x) (.tup y) = if D.plain 60 (.bl x) && D.plain 60 (.tup y) then some (D.eqb (.bl x) (.tup y)) else none := rfl
theorem eqo_bl (x : Bool) (y : List D) : eqo (.bl x) (.lst y) = if D.plain 60 (.bl x) && D.plain 60 (.lst y) then some (D.eqb (.bl x) (.lst y)) else none := rfl
theorem eqo_bd (x : Bool) (y : List (D × D)) : eqo (.bl x) (.dic y) = if D.plain 60 (.bl x) && D.plain 60 (.dic y) then some (D.eqb (.bl x) (.dic y)) else none := rfl
theorem eqo_in (x : Int) : eqo (.int x) .non = if D.plain 60 (.int x) && D.plain 60 .non then some (D.eqb (.int x) .non) else none := rfl
theorem eqo_ib (x : Int) (y : Bool) : eqo (.int x) (.bl y) = if D.plain 60 (.int x) && D.plain 60 (.bl y) then some (D.eqb (.int x) (.bl y)) else none := rfl
theorem eqo_ii (x : Int) (y : Int) : eqo (.int x) (.int y) = some (x == y) := rfl
theorem eqo_is (x : Int) (y : Txt) : eqo (.int x) (.str y) = if D.plain 60 (.int x) && D.plain 60 (.str y) then some (D.eqb (.int x) (.str y)) else none := rfl
theorem eqo_it (x : Int) (y : List D) : eqo (.int x) (.tup y) = if D.plain 60 (.int x) && D.plain 60 (.tup y) then some (D.eqb (.int x) (.tup y)) else none := rfl
theorem eqo_il (x : Int) (y : List D) : eqo (.int x) (.lst y) = if D.plain 60 (.int x) && D.plain 60 (.lst y) then some (D.eqb (.int x) (.lst y)) else none := rfl
theorem eqo_id (x : Int) (y : List (D × D)) : eqo (.int x) (.dic y) = if D.plain 60 (.int x) && D.plain 60 (.dic y) then some (D.eqb (.int x) (.dic y)) else none := rfl
theorem eqo_sn (x : Txt) : eqo (.str x) .non = if D.plain 60 (.str x) && D.plain 60 .non then some (D.eqb (.str x) .non) else none := rfl
theorem eqo_sb (x : Txt) (y : Bool) : eqo (.str x) (.bl y) = if D.plain 60 (.str x) && D.plain 60 (.bl y) then some (D.eqb (.str x) (.bl y)) else none := rfl
theorem eqo_si (x : Txt) (y : Int) : eqo (.str x) (.int y) = if D.plain 60 (.str x) && D.plain 60 (.int y) then some (D.eqb (.str x) (.int y)) else none := rfl
theorem eqo_ss (x : Txt) (y : Txt) : eqo (.str x) (.str y) = some (x == y) := rfl
theorem eqo_st (x : Txt) (y : List D) : eqo (.str x) (.tup y) = if D.plain 60 (.str x) && D.plain 60 (.tup y) then some (D.eqb (.str x) (.tup y)) else none := rfl
theorem eqo_sl (x : Txt) (y : List D) : eqo (.str x) (.lst y) = if D.plain 60 (.str x) && D.plain 60 (.lst y) then some (D.eqb (.str x) (.lst y)) else none := rfl
theorem eqo_sd (x : Txt) (y : List (D × D)) : eqo (.str x) (.dic y) = if D.plain 60 (.str x) && D.plain 60 (.dic y) then some (D.eqb (.str x) (.dic y)) else none := rfl
theorem eqo_tn (x : List D) : eqo (.tup x) .non = if D.plain 60 (.tup x) && D.plain 60 .non then some (D.eqb (.tup x) .non) else none := rfl
theorem eqo_tb (x : List D) (y : Bool) : eqo (.tup x) (.bl y) = if D.plain 60 (.tup x) && D.plain 60 (.bl y) then some (D.eqb (.tup x) (.bl y)) else none := rfl
theorem eqo_ti (x : List D) (y : Int) : eqo (.tup x) (.int y) = if D.plain 60 (.tup x) && D.plain 60 (.int y) then some (D.eqb (.tup x) (.int y)) else none := rfl
theorem eqo_ts (x : List D) (y : Txt) : eqo (.tup x) (.str y) = if D.plain 60 (.tup x) && D.plain 60 (.str y) then some (D.eqb (.tup x) (.str y)) else none := rfl
theorem eqo_tt (x : List D) (y : List D) : eqo (.tup x) (.tup y) = if D.plain 60 (.tup x) && D.plain 60 (.tup y) then some (D.eqb (.tup x) (.tup y)) else none := rfl
theorem eqo_tl (x : List D) (y : List D) : eqo (.tup x) (.lst y) = if D.plain 60 (.tup x) && D.plain 60 (.lst y) then some (D.eqb (.tup x) (.lst y)) else none := rfl
theorem eqo_td (x : List D) (y : List (D × D)) : eqo (.tup x) (.dic y) = if D.plain 60 (.tup x) && D.plain 60 (.dic y) then some (D.eqb (.tup x) (.dic y)) else none := rfl
theorem eqo_ln (x : List D) : eqo (.lst x) .non = if D.plain 60 (.lst x) && D.plain 60 .non then some (D.eqb (.lst x) .non) else none := rfl
theorem eqo_lb (x : List D) (y : Bool) : eqo (.lst x) (.bl y) = if D.plain 60 (.lst x) && D.plain 60 (.bl y) then some (D.eqb (.lst x) (.bl y)) else none := rfl
theorem eqo_li (x : List D) (y : Int) : eqo (.lst x) (.int y) = if D.plain 60 (.lst x) && D.plain 60 (.int y) then some (D.eqb (.lst x) (.int y)) else none := rfl
theorem eqo_ls (x : List D) (y : Txt) : eqo (.lst x) (.str y) = if D.plain 60 (.lst x) && D.plain 60 (.str y) then some (D.eqb (.lst x) (.str y)) else none := rfl
theorem eqo_lt (x : List D) (y : List D) : eqo (.lst x) (.tup y) = if D.plain 60 (.lst x) && D.plain 60 (.tup y) then some (D.eqb (.lst x) (.tup y)) else none := rfl
theorem eqo_ll (x : List D) (y : List D) : eqo (.lst x) (.lst y) = if D.plain 60 (.lst x) && D.plain 60 (.lst y) then some (D.eqb (.lst x) (.lst y)) else none := rfl
theorem eqo_ld (x : List D) (y : List (D × D)) : eqo (.lst x) (.dic y) = if D.plain 60 (.lst x) && D.plain 60 (.dic y) then some (D.eqb (.lst x) (.dic y)) else none := rfl
theorem eqo_dn (x : List (D × D)) : eqo (.dic x) .non = if D.plain 60 (.dic x) && D.plain 60 .non then some (D.eqb (.dic x) .non) else none := rfl
theorem eqo_db (x : List (D × D)) (y : Bool) : eqo (.dic x) (.bl y) = if D.plain 60 (.dic x) && D.plain 60 (.bl y) then some (D.eqb (.dic x) (.bl y)) else none := rfl
theorem eqo_di (x : List (D × D)) (y : Int) : eqo (.dic x) (.int y) = if D.plain 60 (.dic x) && D.plain 60 (.int y) then some (D.eqb (.dic x) (.int y)) else none := rfl
theorem eqo_ds (x : List (D × D)) (y : Txt) : eqo (.dic x) (.str y) = if D.plain 60 (.dic x) && D.plain 60 (.str y) then some (D.eqb (.dic x) (.str y)) else none := rfl
theorem eqo_dt (x : List (D × D)) (y : List D) : eqo (.dic x) (.tup y) = if D.plain 60 (.dic x) && D.plain 60 (.tup y) then some (D.eqb (.dic x) (.tup y)) else none := rfl
theorem eqo_dl (x : List (D × D)) (y : List D) : eqo (.dic x) (.lst y) = if D.plain 60 (.dic x) && D.plain 60 (.lst y) then some (D.eqb (.dic x) (.lst y)) else none := rfl
theorem eqo_dd (x : List (D × D)) (y : List (D × D)) : eqo (.dic x) (.dic y) = if D.plain 60 (.dic x) && D.plain 60 (.dic y) then some (D.eqb (.dic x) (.dic y)) else none := rfl
theorem bop_ai (i j : Int) : bop .add (.int i) (.int j) = some (.int (i + j)) := rfl
theorem bop_as (x y : Txt) : bop .add (.str x) (.str y) = if x.length + y.length ≤ 16777216 then some (.str (x ++ y)) else none := rfl
theorem bop_asC (x y : Txt) (h : x.length + y.length ≤ 16777216) : bop .add (.str x) (.str y) = some (.str (x ++ y)) := by rw [bop_as, if_pos h]
theorem bop_at (xs ys : List D) : bop .add (.tup xs) (.tup ys) = if xs.length ≤ 16777216 ∧ ys.length ≤ 16777216 ∧ xs.length + ys.length ≤ 16777216 then some (.tup (xs ++ ys)) else none := rfl
theorem bop_al (xs ys : List D) : bop .add (.lst xs) (.lst ys) = if xs.length + ys.length ≤ 16777216 then some (.lst (xs ++ ys)) else none := rfl
theorem bop_si (i j : Int) : bop .sub (.int i) (.int j) = some (.int (i - j)) := rfl
theorem bop_mi (i j : Int) : bop .mul (.int i) (.int j) = if (-big64 < i ∧ i < big64) ∨ (-big64 < j ∧ j < big64) then some (.int (i * j)) else none := rfl
theorem bop_ml (xs : List D) (k : Int) : bop .mul (.lst xs) (.int k) = if -(2 ^ 63) ≤ k ∧ k < 2 ^ 63 ∧ xs.length * k.toNat ≤ 16777216 then some (.lst (reps xs k.toNat)) else none := rfl
theorem bop_mt (xs : List D) (k : Int) : bop .mul (.tup xs) (.int k) = if xs ≠ [] ∧ 1 ≤ k ∧ k ≤ 1000 ∧ xs.length ≤ 1000 then some (.tup (reps xs k.toNat)) else none := rfl
theorem bop_ms (x : Txt) (k : Int) : bop .mul (.str x) (.int k) = if x ≠ [] ∧ 2 ≤ k ∧ k ≤ 1000 ∧ x.length ≤ 1000 then some (.str (reps x k.toNat)) else none := rfl
theorem bop_mo (i j : Int) : bop .mod (.int i) (.int j) = if 0 < j then some (.int (i % j)) else none := rfl
theorem bop_fd (i j : Int) : bop .fdv (.int i) (.int j) = if 0 < j ∧ j < 1073741824 then some (.int (i / j)) else none := rfl
theorem bop_pw (i j : Int) : bop .pow (.int i) (.int j) = if 0 ≤ j ∧ j ≤ 1000000 ∧ i.natAbs < 2 ^ 64 then some (.int (i ^ j.toNat)) else none := rfl
theorem isn_n : D.isNon .non = true := rfl
theorem isn_b (x : Bool) : D.isNon (.bl x) = false := rfl
theorem isn_i (x : Int) : D.isNon (.int x) = false := rfl
theorem isn_s (x : Txt) : D.isNon (.str x) = false := rfl
theorem isn_t (x : List D) : D.isNon (.tup x) = false := rfl
theorem isn_l (x : List D) : D.isNon (.lst x) = false := rfl
theorem isn_d (x : List (D × D)) : D.isNon (.dic x) = false := rfl
theorem isn_r (x : Nat) : D.isNon (.ref x) = false := rfl
inductive Form where | any | num | text | deed (a b : Form) | box (a : Form) deriving DecidableEq
namespace Form
def enc : Form → D
  | any => .str [97,110,121] | num => .str [110,117,109] | text => .str [116,101,120,116]
  | deed a b => .tup [.str [100,101,101,100], enc a, enc b]
  | box a => .tup [.str [98,111,120], enc a]
def hgt : Form → Nat
  | any => 0 | num => 0 | text => 0 | deed a b => 1 + max (hgt a) (hgt b) | box a => 1 + hgt a
end Form
open Form
theorem isn_enc (f : Form) : D.isNon (enc f) = false := by cases f <;> rfl
theorem call_step {T : Tb} {n : Nat} {fd : FD} [i : Fn T n fd] (k : Nat) (ds : List D) (S : Sto) : callT T (k + 1) n ds S = runD (T.prm (callT T k)) fd ds S := by
  show (match T.fn n with | none => _ | some fd => _) = _
  rw [i.e]
theorem pp_call {T : Tb} (k n : Nat) (ds : List D) (ρ : Env) (S : Sto) : mCall (T.prm (callT T k)) n ds ρ S = match callT T k n ds S with | .ok d S' => .ok d ρ S' | .exc x S' => .exc x ρ S' | .bad => .bad := rfl
theorem plain_enc (f : Form) : ∀ n : Nat, hgt f ≤ n → D.plain n (enc f) = true := by
  induction f with
  | any => intro n _; rw [enc, plain_str]; decide
  | num => intro n _; rw [enc, plain_str]; decide
  | text => intro n _; rw [enc, plain_str]; decide
  | deed a b iha ihb =>
    intro n h
    simp only [hgt] at h
    obtain ⟨n, rfl⟩ : ∃ j, n = j + 1 := ⟨n - 1, by omega⟩
    rw [enc, plain_tup, plains_cons, plains_cons, plains_cons, plains_nil, plain_str, iha n (by omega), ihb n (by omega)]
    decide
  | box a iha =>
    intro n h
    simp only [hgt] at h
    obtain ⟨n, rfl⟩ : ∃ j, n = j + 1 := ⟨n - 1, by omega⟩
    rw [enc, plain_tup, plains_cons, plains_cons, plains_nil, plain_str, iha n (by omega)]
    decide
theorem plain_deed (n : Nat) (a b : Form) (h : hgt (deed a b) ≤ n) : D.plain n (.tup [.str [100,101,101,100], enc a, enc b]) = true := plain_enc (deed a b) n h
theorem plain_box (n : Nat) (a : Form) (h : hgt (box a) ≤ n) : D.plain n (.tup [.str [98,111,120], enc a]) = true := plain_enc (box a) n h
theorem is_form_to (T : Tb) [Fn T 101 fd_101] (f : Form) : ∀ (h : Nat) (k : Nat) (S : Sto), hgt f < k → hgt f ≤ 50 → callT T k 101 [enc f, .int h] S = .ok (.bl (decide (hgt f ≤ h))) S := by
  induction f with
  | any =>
    intro h k S hk h50
    obtain ⟨k, rfl⟩ : ∃ j, k = j + 1 := ⟨k - 1, by omega⟩
    rw [call_step]
    simp (decide := true) [runD, enc, sSeq, sIf, sRet, sNx, sAsg, sEx, sRai, ↓mb, Res.bind, mp, M.of, mT, xIsi, mBor, mVar, isTy, mTruth, truth, mOr, mAnd, mIte, mNot, xCmp, cop, eqo_nn, eqo_nb, eqo_ni, eqo_ns, eqo_nt, eqo_nl, eqo_nd, eqo_bn, eqo_bb, eqo_bi, eqo_bs, eqo_bt, eqo_bl, eqo_bd, eqo_in, eqo_ib, eqo_ii, eqo_is, eqo_it, eqo_il, eqo_id, eqo_sn, eqo_sb, eqo_si, eqo_ss, eqo_st, eqo_sl, eqo_sd, eqo_tn, eqo_tb, eqo_ti, eqo_ts, eqo_tt, eqo_tl, eqo_td, eqo_ln, eqo_lb, eqo_li, eqo_ls, eqo_lt, eqo_ll, eqo_ld, eqo_dn, eqo_db, eqo_di, eqo_ds, eqo_dt, eqo_dl, eqo_dd, inOk, D.flat, xTup, aNil, aCons, mSet, plain_str, plain_tup, plain_int, plain_bl, plains_nil, plains_cons, eqb_str, eqb_int, eqb_bl, eqb_tup, eqbs_nil, eqbs_cn, eqbs_nc, eqbs_cc, eqb_nn, eqb_nb, eqb_ni, eqb_ns, eqb_nt, eqb_nl, eqb_nd, eqb_bn, eqb_bi, eqb_bs, eqb_bt, eqb_b_l, eqb_bd, eqb_in, eqb_ib, eqb_is, eqb_it, eqb_il, eqb_id, eqb_sn, eqb_sb, eqb_si, eqb_sl, eqb_sd, eqb_tn, eqb_tb, eqb_ti, eqb_tl, eqb_td, eqb_ln, eqb_lb, eqb_li, eqb_ls, eqb_lt, eqb_ll, eqb_ld, eqb_dn, eqb_db, eqb_di, eqb_ds, eqb_dt, eqb_dl, eqb_dd, plain_non, plain_lst, plain_dic, eqb_st, eqb_ts, xLen, bip, xIdx, mIdx, index, mItems, mList, xCall, pp_call, xBin, bop_ai, bop_as, bop_at, bop_al, bop_si, bop_mi, bop_ml, bop_mt, bop_ms, bop_mo, bop_fd, bop_pw, SZ, mSlc, mPart, slice, gUnp, gCon, gEnd, mLst, M.bad, mChn, sFor, loopM, xBi, xFz, fLst, mCalk, srcOf, isn_n, isn_b, isn_i, isn_s, isn_t, isn_l, isn_d, isn_r, isn_enc, gStar, dget, atI, fComp, noX, Res.noX, mWipe, cmpR, wipeE, blsOf, intsOf, txtsOf, cut, sIx, mZs, zsOf, zipD, mZip, zipOf, mRng1, mRng2, rngD, mCount, mIndexL, mMt, tyIs, mtp, findD, sTryAs, mIsE, noEx, sPar, sPar3, xRev, revD, sTry, reps, b_101, hgt]
  | num =>
    intro h k S hk h50
    obtain ⟨k, rfl⟩ : ∃ j, k = j + 1 := ⟨k - 1, by omega⟩
    rw [call_step]
    simp (decide := true) [runD, enc, sSeq, sIf, sRet, sNx, sAsg, sEx, sRai, ↓mb, Res.bind, mp, M.of, mT, xIsi, mBor, mVar, isTy, mTruth, truth, mOr, mAnd, mIte, mNot, xCmp, cop, eqo_nn, eqo_nb, eqo_ni, eqo_ns, eqo_nt, eqo_nl, eqo_nd, eqo_bn, eqo_bb, eqo_bi, eqo_bs, eqo_bt, eqo_bl, eqo_bd, eqo_in, eqo_ib, eqo_ii, eqo_is, eqo_it, eqo_il, eqo_id, eqo_sn, eqo_sb, eqo_si, eqo_ss, eqo_st, eqo_sl, eqo_sd, eqo_tn, eqo_tb, eqo_ti, eqo_ts, eqo_tt, eqo_tl, eqo_td, eqo_ln, eqo_lb, eqo_li, eqo_ls, eqo_lt, eqo_ll, eqo_ld, eqo_dn, eqo_db, eqo_di, eqo_ds, eqo_dt, eqo_dl, eqo_dd, inOk, D.flat, xTup, aNil, aCons, mSet, plain_str, plain_tup, plain_int, plain_bl, plains_nil, plains_cons, eqb_str, eqb_int, eqb_bl, eqb_tup, eqbs_nil, eqbs_cn, eqbs_nc, eqbs_cc, eqb_nn, eqb_nb, eqb_ni, eqb_ns, eqb_nt, eqb_nl, eqb_nd, eqb_bn, eqb_bi, eqb_bs, eqb_bt, eqb_b_l, eqb_bd, eqb_in, eqb_ib, eqb_is, eqb_it, eqb_il, eqb_id, eqb_sn, eqb_sb, eqb_si, eqb_sl, eqb_sd, eqb_tn, eqb_tb, eqb_ti, eqb_tl, eqb_td, eqb_ln, eqb_lb, eqb_li, eqb_ls, eqb_lt, eqb_ll, eqb_ld, eqb_dn, eqb_db, eqb_di, eqb_ds, eqb_dt, eqb_dl, eqb_dd, plain_non, plain_lst, plain_dic, eqb_st, eqb_ts, xLen, bip, xIdx, mIdx, index, mItems, mList, xCall, pp_call, xBin, bop_ai, bop_as, bop_at, bop_al, bop_si, bop_mi, bop_ml, bop_mt, bop_ms, bop_mo, bop_fd, bop_pw, SZ, mSlc, mPart, slice, gUnp, gCon, gEnd, mLst, M.bad, mChn, sFor, loopM, xBi, xFz, fLst, mCalk, srcOf, isn_n, isn_b, isn_i, isn_s, isn_t, isn_l, isn_d, isn_r, isn_enc, gStar, dget, atI, fComp, noX, Res.noX, mWipe, cmpR, wipeE, blsOf, intsOf, txtsOf, cut, sIx, mZs, zsOf, zipD, mZip, zipOf, mRng1, mRng2, rngD, mCount, mIndexL, mMt, tyIs, mtp, findD, sTryAs, mIsE, noEx, sPar, sPar3, xRev, revD, sTry, reps, b_101, hgt]
  | text =>
    intro h k S hk h50
    obtain ⟨k, rfl⟩ : ∃ j, k = j + 1 := ⟨k - 1, by omega⟩
    rw [call_step]
    simp (decide := true) [runD, enc, sSeq, sIf, sRet, sNx, sAsg, sEx, sRai, ↓mb, Res.bind, mp, M.of, mT, xIsi, mBor, mVar, isTy, mTruth, truth, mOr, mAnd, mIte, mNot, xCmp, cop, eqo_nn, eqo_nb, eqo_ni, eqo_ns, eqo_nt, eqo_nl, eqo_nd, eqo_bn, eqo_bb, eqo_bi, eqo_bs, eqo_bt, eqo_bl, eqo_bd, eqo_in, eqo_ib, eqo_ii, eqo_is, eqo_it, eqo_il, eqo_id, eqo_sn, eqo_sb, eqo_si, eqo_ss, eqo_st, eqo_sl, eqo_sd, eqo_tn, eqo_tb, eqo_ti, eqo_ts, eqo_tt, eqo_tl, eqo_td, eqo_ln, eqo_lb, eqo_li, eqo_ls, eqo_lt, eqo_ll, eqo_ld, eqo_dn, eqo_db, eqo_di, eqo_ds, eqo_dt, eqo_dl, eqo_dd, inOk, D.flat, xTup, aNil, aCons, mSet, plain_str, plain_tup, plain_int, plain_bl, plains_nil, plains_cons, eqb_str, eqb_int, eqb_bl, eqb_tup, eqbs_nil, eqbs_cn, eqbs_nc, eqbs_cc, eqb_nn, eqb_nb, eqb_ni, eqb_ns, eqb_nt, eqb_nl, eqb_nd, eqb_bn, eqb_bi, eqb_bs, eqb_bt, eqb_b_l, eqb_bd, eqb_in, eqb_ib, eqb_is, eqb_it, eqb_il, eqb_id, eqb_sn, eqb_sb, eqb_si, eqb_sl, eqb_sd, eqb_tn, eqb_tb, eqb_ti, eqb_tl, eqb_td, eqb_ln, eqb_lb, eqb_li, eqb_ls, eqb_lt, eqb_ll, eqb_ld, eqb_dn, eqb_db, eqb_di, eqb_ds, eqb_dt, eqb_dl, eqb_dd, plain_non, plain_lst, plain_dic, eqb_st, eqb_ts, xLen, bip, xIdx, mIdx, index, mItems, mList, xCall, pp_call, xBin, bop_ai, bop_as, bop_at, bop_al, bop_si, bop_mi, bop_ml, bop_mt, bop_ms, bop_mo, bop_fd, bop_pw, SZ, mSlc, mPart, slice, gUnp, gCon, gEnd, mLst, M.bad, mChn, sFor, loopM, xBi, xFz, fLst, mCalk, srcOf, isn_n, isn_b, isn_i, isn_s, isn_t, isn_l, isn_d, isn_r, isn_enc, gStar, dget, atI, fComp, noX, Res.noX, mWipe, cmpR, wipeE, blsOf, intsOf, txtsOf, cut, sIx, mZs, zsOf, zipD, mZip, zipOf, mRng1, mRng2, rngD, mCount, mIndexL, mMt, tyIs, mtp, findD, sTryAs, mIsE, noEx, sPar, sPar3, xRev, revD, sTry, reps, b_101, hgt]
  | deed a b iha ihb =>
    intro h k S hk h50
    obtain ⟨k, rfl⟩ : ∃ j, k = j + 1 := ⟨k - 1, by omega⟩
    rw [call_step]
    have hp := plain_deed 60 a b (by omega)
    simp only [hgt] at hk h50
    cases h with
    | zero =>
      have hn : ¬ (1 + max (hgt a) (hgt b) ≤ 0) := by omega
      simp (decide := true) [runD, enc, sSeq, sIf, sRet, sNx, sAsg, sEx, sRai, ↓mb, Res.bind, mp, M.of, mT, xIsi, mBor, mVar, isTy, mTruth, truth, mOr, mAnd, mIte, mNot, xCmp, cop, eqo_nn, eqo_nb, eqo_ni, eqo_ns, eqo_nt, eqo_nl, eqo_nd, eqo_bn, eqo_bb, eqo_bi, eqo_bs, eqo_bt, eqo_bl, eqo_bd, eqo_in, eqo_ib, eqo_ii, eqo_is, eqo_it, eqo_il, eqo_id, eqo_sn, eqo_sb, eqo_si, eqo_ss, eqo_st, eqo_sl, eqo_sd, eqo_tn, eqo_tb, eqo_ti, eqo_ts, eqo_tt, eqo_tl, eqo_td, eqo_ln, eqo_lb, eqo_li, eqo_ls, eqo_lt, eqo_ll, eqo_ld, eqo_dn, eqo_db, eqo_di, eqo_ds, eqo_dt, eqo_dl, eqo_dd, inOk, D.flat, xTup, aNil, aCons, mSet, plain_str, plain_tup, plain_int, plain_bl, plains_nil, plains_cons, eqb_str, eqb_int, eqb_bl, eqb_tup, eqbs_nil, eqbs_cn, eqbs_nc, eqbs_cc, eqb_nn, eqb_nb, eqb_ni, eqb_ns, eqb_nt, eqb_nl, eqb_nd, eqb_bn, eqb_bi, eqb_bs, eqb_bt, eqb_b_l, eqb_bd, eqb_in, eqb_ib, eqb_is, eqb_it, eqb_il, eqb_id, eqb_sn, eqb_sb, eqb_si, eqb_sl, eqb_sd, eqb_tn, eqb_tb, eqb_ti, eqb_tl, eqb_td, eqb_ln, eqb_lb, eqb_li, eqb_ls, eqb_lt, eqb_ll, eqb_ld, eqb_dn, eqb_db, eqb_di, eqb_ds, eqb_dt, eqb_dl, eqb_dd, plain_non, plain_lst, plain_dic, eqb_st, eqb_ts, xLen, bip, xIdx, mIdx, index, mItems, mList, xCall, pp_call, xBin, bop_ai, bop_as, bop_at, bop_al, bop_si, bop_mi, bop_ml, bop_mt, bop_ms, bop_mo, bop_fd, bop_pw, SZ, mSlc, mPart, slice, gUnp, gCon, gEnd, mLst, M.bad, mChn, sFor, loopM, xBi, xFz, fLst, mCalk, srcOf, isn_n, isn_b, isn_i, isn_s, isn_t, isn_l, isn_d, isn_r, isn_enc, gStar, dget, atI, fComp, noX, Res.noX, mWipe, cmpR, wipeE, blsOf, intsOf, txtsOf, cut, sIx, mZs, zsOf, zipD, mZip, zipOf, mRng1, mRng2, rngD, mCount, mIndexL, mMt, tyIs, mtp, findD, sTryAs, mIsE, noEx, sPar, sPar3, xRev, revD, sTry, reps, b_101, hgt, hp, hn]
    | succ h =>
      have ea := iha h k S (by omega) (by omega)
      have eb := ihb h k S (by omega) (by omega)
      have e1 : (h : Int) + 1 - 1 = (h : Int) := by omega
      have hz : ¬ ((h : Int) + 1 = 0) := by omega
      simp (decide := true) [runD, enc, sSeq, sIf, sRet, sNx, sAsg, sEx, sRai, ↓mb, Res.bind, mp, M.of, mT, xIsi, mBor, mVar, isTy, mTruth, truth, mOr, mAnd, mIte, mNot, xCmp, cop, eqo_nn, eqo_nb, eqo_ni, eqo_ns, eqo_nt, eqo_nl, eqo_nd, eqo_bn, eqo_bb, eqo_bi, eqo_bs, eqo_bt, eqo_bl, eqo_bd, eqo_in, eqo_ib, eqo_ii, eqo_is, eqo_it, eqo_il, eqo_id, eqo_sn, eqo_sb, eqo_si, eqo_ss, eqo_st, eqo_sl, eqo_sd, eqo_tn, eqo_tb, eqo_ti, eqo_ts, eqo_tt, eqo_tl, eqo_td, eqo_ln, eqo_lb, eqo_li, eqo_ls, eqo_lt, eqo_ll, eqo_ld, eqo_dn, eqo_db, eqo_di, eqo_ds, eqo_dt, eqo_dl, eqo_dd, inOk, D.flat, xTup, aNil, aCons, mSet, plain_str, plain_tup, plain_int, plain_bl, plains_nil, plains_cons, eqb_str, eqb_int, eqb_bl, eqb_tup, eqbs_nil, eqbs_cn, eqbs_nc, eqbs_cc, eqb_nn, eqb_nb, eqb_ni, eqb_ns, eqb_nt, eqb_nl, eqb_nd, eqb_bn, eqb_bi, eqb_bs, eqb_bt, eqb_b_l, eqb_bd, eqb_in, eqb_ib, eqb_is, eqb_it, eqb_il, eqb_id, eqb_sn, eqb_sb, eqb_si, eqb_sl, eqb_sd, eqb_tn, eqb_tb, eqb_ti, eqb_tl, eqb_td, eqb_ln, eqb_lb, eqb_li, eqb_ls, eqb_lt, eqb_ll, eqb_ld, eqb_dn, eqb_db, eqb_di, eqb_ds, eqb_dt, eqb_dl, eqb_dd, plain_non, plain_lst, plain_dic, eqb_st, eqb_ts, xLen, bip, xIdx, mIdx, index, mItems, mList, xCall, pp_call, xBin, bop_ai, bop_as, bop_at, bop_al, bop_si, bop_mi, bop_ml, bop_mt, bop_ms, bop_mo, bop_fd, bop_pw, SZ, mSlc, mPart, slice, gUnp, gCon, gEnd, mLst, M.bad, mChn, sFor, loopM, xBi, xFz, fLst, mCalk, srcOf, isn_n, isn_b, isn_i, isn_s, isn_t, isn_l, isn_d, isn_r, isn_enc, gStar, dget, atI, fComp, noX, Res.noX, mWipe, cmpR, wipeE, blsOf, intsOf, txtsOf, cut, sIx, mZs, zsOf, zipD, mZip, zipOf, mRng1, mRng2, rngD, mCount, mIndexL, mMt, tyIs, mtp, findD, sTryAs, mIsE, noEx, sPar, sPar3, xRev, revD, sTry, reps, b_101, hgt, hp, hz, e1, ea, eb]
      rw [← Bool.decide_and]
      exact decide_eq_decide.mpr (by omega)
  | box a iha =>
    intro h k S hk h50
    obtain ⟨k, rfl⟩ : ∃ j, k = j + 1 := ⟨k - 1, by omega⟩
    rw [call_step]
    have hp := plain_box 60 a (by omega)
    simp only [hgt] at hk h50
    cases h with
    | zero =>
      have hn : ¬ (1 + hgt a ≤ 0) := by omega
      simp (decide := true) [runD, enc, sSeq, sIf, sRet, sNx, sAsg, sEx, sRai, ↓mb, Res.bind, mp, M.of, mT, xIsi, mBor, mVar, isTy, mTruth, truth, mOr, mAnd, mIte, mNot, xCmp, cop, eqo_nn, eqo_nb, eqo_ni, eqo_ns, eqo_nt, eqo_nl, eqo_nd, eqo_bn, eqo_bb, eqo_bi, eqo_bs, eqo_bt, eqo_bl, eqo_bd, eqo_in, eqo_ib, eqo_ii, eqo_is, eqo_it, eqo_il, eqo_id, eqo_sn, eqo_sb, eqo_si, eqo_ss, eqo_st, eqo_sl, eqo_sd, eqo_tn, eqo_tb, eqo_ti, eqo_ts, eqo_tt, eqo_tl, eqo_td, eqo_ln, eqo_lb, eqo_li, eqo_ls, eqo_lt, eqo_ll, eqo_ld, eqo_dn, eqo_db, eqo_di, eqo_ds, eqo_dt, eqo_dl, eqo_dd, inOk, D.flat, xTup, aNil, aCons, mSet, plain_str, plain_tup, plain_int, plain_bl, plains_nil, plains_cons, eqb_str, eqb_int, eqb_bl, eqb_tup, eqbs_nil, eqbs_cn, eqbs_nc, eqbs_cc, eqb_nn, eqb_nb, eqb_ni, eqb_ns, eqb_nt, eqb_nl, eqb_nd, eqb_bn, eqb_bi, eqb_bs, eqb_bt, eqb_b_l, eqb_bd, eqb_in, eqb_ib, eqb_is, eqb_it, eqb_il, eqb_id, eqb_sn, eqb_sb, eqb_si, eqb_sl, eqb_sd, eqb_tn, eqb_tb, eqb_ti, eqb_tl, eqb_td, eqb_ln, eqb_lb, eqb_li, eqb_ls, eqb_lt, eqb_ll, eqb_ld, eqb_dn, eqb_db, eqb_di, eqb_ds, eqb_dt, eqb_dl, eqb_dd, plain_non, plain_lst, plain_dic, eqb_st, eqb_ts, xLen, bip, xIdx, mIdx, index, mItems, mList, xCall, pp_call, xBin, bop_ai, bop_as, bop_at, bop_al, bop_si, bop_mi, bop_ml, bop_mt, bop_ms, bop_mo, bop_fd, bop_pw, SZ, mSlc, mPart, slice, gUnp, gCon, gEnd, mLst, M.bad, mChn, sFor, loopM, xBi, xFz, fLst, mCalk, srcOf, isn_n, isn_b, isn_i, isn_s, isn_t, isn_l, isn_d, isn_r, isn_enc, gStar, dget, atI, fComp, noX, Res.noX, mWipe, cmpR, wipeE, blsOf, intsOf, txtsOf, cut, sIx, mZs, zsOf, zipD, mZip, zipOf, mRng1, mRng2, rngD, mCount, mIndexL, mMt, tyIs, mtp, findD, sTryAs, mIsE, noEx, sPar, sPar3, xRev, revD, sTry, reps, b_101, hgt, hp, hn]
    | succ h =>
      have ea := iha h k S (by omega) (by omega)
      have e1 : (h : Int) + 1 - 1 = (h : Int) := by omega
      have hz : ¬ ((h : Int) + 1 = 0) := by omega
      simp (decide := true) [runD, enc, sSeq, sIf, sRet, sNx, sAsg, sEx, sRai, ↓mb, Res.bind, mp, M.of, mT, xIsi, mBor, mVar, isTy, mTruth, truth, mOr, mAnd, mIte, mNot, xCmp, cop, eqo_nn, eqo_nb, eqo_ni, eqo_ns, eqo_nt, eqo_nl, eqo_nd, eqo_bn, eqo_bb, eqo_bi, eqo_bs, eqo_bt, eqo_bl, eqo_bd, eqo_in, eqo_ib, eqo_ii, eqo_is, eqo_it, eqo_il, eqo_id, eqo_sn, eqo_sb, eqo_si, eqo_ss, eqo_st, eqo_sl, eqo_sd, eqo_tn, eqo_tb, eqo_ti, eqo_ts, eqo_tt, eqo_tl, eqo_td, eqo_ln, eqo_lb, eqo_li, eqo_ls, eqo_lt, eqo_ll, eqo_ld, eqo_dn, eqo_db, eqo_di, eqo_ds, eqo_dt, eqo_dl, eqo_dd, inOk, D.flat, xTup, aNil, aCons, mSet, plain_str, plain_tup, plain_int, plain_bl, plains_nil, plains_cons, eqb_str, eqb_int, eqb_bl, eqb_tup, eqbs_nil, eqbs_cn, eqbs_nc, eqbs_cc, eqb_nn, eqb_nb, eqb_ni, eqb_ns, eqb_nt, eqb_nl, eqb_nd, eqb_bn, eqb_bi, eqb_bs, eqb_bt, eqb_b_l, eqb_bd, eqb_in, eqb_ib, eqb_is, eqb_it, eqb_il, eqb_id, eqb_sn, eqb_sb, eqb_si, eqb_sl, eqb_sd, eqb_tn, eqb_tb, eqb_ti, eqb_tl, eqb_td, eqb_ln, eqb_lb, eqb_li, eqb_ls, eqb_lt, eqb_ll, eqb_ld, eqb_dn, eqb_db, eqb_di, eqb_ds, eqb_dt, eqb_dl, eqb_dd, plain_non, plain_lst, plain_dic, eqb_st, eqb_ts, xLen, bip, xIdx, mIdx, index, mItems, mList, xCall, pp_call, xBin, bop_ai, bop_as, bop_at, bop_al, bop_si, bop_mi, bop_ml, bop_mt, bop_ms, bop_mo, bop_fd, bop_pw, SZ, mSlc, mPart, slice, gUnp, gCon, gEnd, mLst, M.bad, mChn, sFor, loopM, xBi, xFz, fLst, mCalk, srcOf, isn_n, isn_b, isn_i, isn_s, isn_t, isn_l, isn_d, isn_r, isn_enc, gStar, dget, atI, fComp, noX, Res.noX, mWipe, cmpR, wipeE, blsOf, intsOf, txtsOf, cut, sIx, mZs, zsOf, zipD, mZip, zipOf, mRng1, mRng2, rngD, mCount, mIndexL, mMt, tyIs, mtp, findD, sTryAs, mIsE, noEx, sPar, sPar3, xRev, revD, sTry, reps, b_101, hgt, hp, hz, e1, ea]
      first | omega | exact decide_eq_decide.mpr (by omega)
theorem is_form (T : Tb) [Fn T 101 fd_101] [Fn T 102 fd_102] (f : Form) (k : Nat) (S : Sto) (hk : hgt f + 1 < k) (h : hgt f ≤ 50) : callT T k 102 [enc f] S = .ok (.bl (decide (hgt f ≤ 5))) S := by
  obtain ⟨k, rfl⟩ : ∃ j, k = j + 1 := ⟨k - 1, by omega⟩
  rw [call_step]
  have e := is_form_to T f 5 k S (by omega) h
  have e' : callT T k 101 [enc f, .int 5] S = .ok (.bl (decide (hgt f ≤ 5))) S := e
  simp (decide := true) [runD, enc, sSeq, sIf, sRet, sNx, sAsg, sEx, sRai, ↓mb, Res.bind, mp, M.of, mT, xIsi, mBor, mVar, isTy, mTruth, truth, mOr, mAnd, mIte, mNot, xCmp, cop, eqo_nn, eqo_nb, eqo_ni, eqo_ns, eqo_nt, eqo_nl, eqo_nd, eqo_bn, eqo_bb, eqo_bi, eqo_bs, eqo_bt, eqo_bl, eqo_bd, eqo_in, eqo_ib, eqo_ii, eqo_is, eqo_it, eqo_il, eqo_id, eqo_sn, eqo_sb, eqo_si, eqo_ss, eqo_st, eqo_sl, eqo_sd, eqo_tn, eqo_tb, eqo_ti, eqo_ts, eqo_tt, eqo_tl, eqo_td, eqo_ln, eqo_lb, eqo_li, eqo_ls, eqo_lt, eqo_ll, eqo_ld, eqo_dn, eqo_db, eqo_di, eqo_ds, eqo_dt, eqo_dl, eqo_dd, inOk, D.flat, xTup, aNil, aCons, mSet, plain_str, plain_tup, plain_int, plain_bl, plains_nil, plains_cons, eqb_str, eqb_int, eqb_bl, eqb_tup, eqbs_nil, eqbs_cn, eqbs_nc, eqbs_cc, eqb_nn, eqb_nb, eqb_ni, eqb_ns, eqb_nt, eqb_nl, eqb_nd, eqb_bn, eqb_bi, eqb_bs, eqb_bt, eqb_b_l, eqb_bd, eqb_in, eqb_ib, eqb_is, eqb_it, eqb_il, eqb_id, eqb_sn, eqb_sb, eqb_si, eqb_sl, eqb_sd, eqb_tn, eqb_tb, eqb_ti, eqb_tl, eqb_td, eqb_ln, eqb_lb, eqb_li, eqb_ls, eqb_lt, eqb_ll, eqb_ld, eqb_dn, eqb_db, eqb_di, eqb_ds, eqb_dt, eqb_dl, eqb_dd, plain_non, plain_lst, plain_dic, eqb_st, eqb_ts, xLen, bip, xIdx, mIdx, index, mItems, mList, xCall, pp_call, xBin, bop_ai, bop_as, bop_at, bop_al, bop_si, bop_mi, bop_ml, bop_mt, bop_ms, bop_mo, bop_fd, bop_pw, SZ, mSlc, mPart, slice, gUnp, gCon, gEnd, mLst, M.bad, mChn, sFor, loopM, xBi, xFz, fLst, mCalk, srcOf, isn_n, isn_b, isn_i, isn_s, isn_t, isn_l, isn_d, isn_r, isn_enc, gStar, dget, atI, fComp, noX, Res.noX, mWipe, cmpR, wipeE, blsOf, intsOf, txtsOf, cut, sIx, mZs, zsOf, zipD, mZip, zipOf, mRng1, mRng2, rngD, mCount, mIndexL, mMt, tyIs, mtp, findD, sTryAs, mIsE, noEx, sPar, sPar3, xRev, revD, sTry, reps, b_102, e']
theorem want_form (T : Tb) [Fn T 101 fd_101] [Fn T 102 fd_102] [Fn T 104 fd_104] (f : Form) (k : Nat) (S : Sto) (hk : hgt f + 2 < k) (h : hgt f ≤ 5) : callT T k 104 [enc f] S = .ok .non S := by
  obtain ⟨k, rfl⟩ : ∃ j, k = j + 1 := ⟨k - 1, by omega⟩
  rw [call_step]
  have e := is_form T f k S (by omega) (by omega)
  simp (decide := true) [runD, enc, sSeq, sIf, sRet, sNx, sAsg, sEx, sRai, ↓mb, Res.bind, mp, M.of, mT, xIsi, mBor, mVar, isTy, mTruth, truth, mOr, mAnd, mIte, mNot, xCmp, cop, eqo_nn, eqo_nb, eqo_ni, eqo_ns, eqo_nt, eqo_nl, eqo_nd, eqo_bn, eqo_bb, eqo_bi, eqo_bs, eqo_bt, eqo_bl, eqo_bd, eqo_in, eqo_ib, eqo_ii, eqo_is, eqo_it, eqo_il, eqo_id, eqo_sn, eqo_sb, eqo_si, eqo_ss, eqo_st, eqo_sl, eqo_sd, eqo_tn, eqo_tb, eqo_ti, eqo_ts, eqo_tt, eqo_tl, eqo_td, eqo_ln, eqo_lb, eqo_li, eqo_ls, eqo_lt, eqo_ll, eqo_ld, eqo_dn, eqo_db, eqo_di, eqo_ds, eqo_dt, eqo_dl, eqo_dd, inOk, D.flat, xTup, aNil, aCons, mSet, plain_str, plain_tup, plain_int, plain_bl, plains_nil, plains_cons, eqb_str, eqb_int, eqb_bl, eqb_tup, eqbs_nil, eqbs_cn, eqbs_nc, eqbs_cc, eqb_nn, eqb_nb, eqb_ni, eqb_ns, eqb_nt, eqb_nl, eqb_nd, eqb_bn, eqb_bi, eqb_bs, eqb_bt, eqb_b_l, eqb_bd, eqb_in, eqb_ib, eqb_is, eqb_it, eqb_il, eqb_id, eqb_sn, eqb_sb, eqb_si, eqb_sl, eqb_sd, eqb_tn, eqb_tb, eqb_ti, eqb_tl, eqb_td, eqb_ln, eqb_lb, eqb_li, eqb_ls, eqb_lt, eqb_ll, eqb_ld, eqb_dn, eqb_db, eqb_di, eqb_ds, eqb_dt, eqb_dl, eqb_dd, plain_non, plain_lst, plain_dic, eqb_st, eqb_ts, xLen, bip, xIdx, mIdx, index, mItems, mList, xCall, pp_call, xBin, bop_ai, bop_as, bop_at, bop_al, bop_si, bop_mi, bop_ml, bop_mt, bop_ms, bop_mo, bop_fd, bop_pw, SZ, mSlc, mPart, slice, gUnp, gCon, gEnd, mLst, M.bad, mChn, sFor, loopM, xBi, xFz, fLst, mCalk, srcOf, isn_n, isn_b, isn_i, isn_s, isn_t, isn_l, isn_d, isn_r, isn_enc, gStar, dget, atI, fComp, noX, Res.noX, mWipe, cmpR, wipeE, blsOf, intsOf, txtsOf, cut, sIx, mZs, zsOf, zipD, mZip, zipOf, mRng1, mRng2, rngD, mCount, mIndexL, mMt, tyIs, mtp, findD, sTryAs, mIsE, noEx, sPar, sPar3, xRev, revD, sTry, reps, b_104, e, h]
def headD : Form → D
  | any => .non | num => .str [110,117,109] | text => .str [116,101,120,116] | deed _ _ => .str [100,101,101,100] | box _ => .str [98,111,120]
theorem head_of_form (T : Tb) [Fn T 150 fd_150] (f : Form) (k : Nat) (S : Sto) (hk : 0 < k) (h : hgt f ≤ 50) : callT T k 150 [enc f] S = .ok (headD f) S := by
  obtain ⟨k, rfl⟩ : ∃ j, k = j + 1 := ⟨k - 1, by omega⟩
  rw [call_step]
  cases f with
  | any => simp (decide := true) [runD, enc, sSeq, sIf, sRet, sNx, sAsg, sEx, sRai, ↓mb, Res.bind, mp, M.of, mT, xIsi, mBor, mVar, isTy, mTruth, truth, mOr, mAnd, mIte, mNot, xCmp, cop, eqo_nn, eqo_nb, eqo_ni, eqo_ns, eqo_nt, eqo_nl, eqo_nd, eqo_bn, eqo_bb, eqo_bi, eqo_bs, eqo_bt, eqo_bl, eqo_bd, eqo_in, eqo_ib, eqo_ii, eqo_is, eqo_it, eqo_il, eqo_id, eqo_sn, eqo_sb, eqo_si, eqo_ss, eqo_st, eqo_sl, eqo_sd, eqo_tn, eqo_tb, eqo_ti, eqo_ts, eqo_tt, eqo_tl, eqo_td, eqo_ln, eqo_lb, eqo_li, eqo_ls, eqo_lt, eqo_ll, eqo_ld, eqo_dn, eqo_db, eqo_di, eqo_ds, eqo_dt, eqo_dl, eqo_dd, inOk, D.flat, xTup, aNil, aCons, mSet, plain_str, plain_tup, plain_int, plain_bl, plains_nil, plains_cons, eqb_str, eqb_int, eqb_bl, eqb_tup, eqbs_nil, eqbs_cn, eqbs_nc, eqbs_cc, eqb_nn, eqb_nb, eqb_ni, eqb_ns, eqb_nt, eqb_nl, eqb_nd, eqb_bn, eqb_bi, eqb_bs, eqb_bt, eqb_b_l, eqb_bd, eqb_in, eqb_ib, eqb_is, eqb_it, eqb_il, eqb_id, eqb_sn, eqb_sb, eqb_si, eqb_sl, eqb_sd, eqb_tn, eqb_tb, eqb_ti, eqb_tl, eqb_td, eqb_ln, eqb_lb, eqb_li, eqb_ls, eqb_lt, eqb_ll, eqb_ld, eqb_dn, eqb_db, eqb_di, eqb_ds, eqb_dt, eqb_dl, eqb_dd, plain_non, plain_lst, plain_dic, eqb_st, eqb_ts, xLen, bip, xIdx, mIdx, index, mItems, mList, xCall, pp_call, xBin, bop_ai, bop_as, bop_at, bop_al, bop_si, bop_mi, bop_ml, bop_mt, bop_ms, bop_mo, bop_fd, bop_pw, SZ, mSlc, mPart, slice, gUnp, gCon, gEnd, mLst, M.bad, mChn, sFor, loopM, xBi, xFz, fLst, mCalk, srcOf, isn_n, isn_b, isn_i, isn_s, isn_t, isn_l, isn_d, isn_r, isn_enc, gStar, dget, atI, fComp, noX, Res.noX, mWipe, cmpR, wipeE, blsOf, intsOf, txtsOf, cut, sIx, mZs, zsOf, zipD, mZip, zipOf, mRng1, mRng2, rngD, mCount, mIndexL, mMt, tyIs, mtp, findD, sTryAs, mIsE, noEx, sPar, sPar3, xRev, revD, sTry, reps, b_150, headD]
  | num => simp (decide := true) [runD, enc, sSeq, sIf, sRet, sNx, sAsg, sEx, sRai, ↓mb, Res.bind, mp, M.of, mT, xIsi, mBor, mVar, isTy, mTruth, truth, mOr, mAnd, mIte, mNot, xCmp, cop, eqo_nn, eqo_nb, eqo_ni, eqo_ns, eqo_nt, eqo_nl, eqo_nd, eqo_bn, eqo_bb, eqo_bi, eqo_bs, eqo_bt, eqo_bl, eqo_bd, eqo_in, eqo_ib, eqo_ii, eqo_is, eqo_it, eqo_il, eqo_id, eqo_sn, eqo_sb, eqo_si, eqo_ss, eqo_st, eqo_sl, eqo_sd, eqo_tn, eqo_tb, eqo_ti, eqo_ts, eqo_tt, eqo_tl, eqo_td, eqo_ln, eqo_lb, eqo_li, eqo_ls, eqo_lt, eqo_ll, eqo_ld, eqo_dn, eqo_db, eqo_di, eqo_ds, eqo_dt, eqo_dl, eqo_dd, inOk, D.flat, xTup, aNil, aCons, mSet, plain_str, plain_tup, plain_int, plain_bl, plains_nil, plains_cons, eqb_str, eqb_int, eqb_bl, eqb_tup, eqbs_nil, eqbs_cn, eqbs_nc, eqbs_cc, eqb_nn, eqb_nb, eqb_ni, eqb_ns, eqb_nt, eqb_nl, eqb_nd, eqb_bn, eqb_bi, eqb_bs, eqb_bt, eqb_b_l, eqb_bd, eqb_in, eqb_ib, eqb_is, eqb_it, eqb_il, eqb_id, eqb_sn, eqb_sb, eqb_si, eqb_sl, eqb_sd, eqb_tn, eqb_tb, eqb_ti, eqb_tl, eqb_td, eqb_ln, eqb_lb, eqb_li, eqb_ls, eqb_lt, eqb_ll, eqb_ld, eqb_dn, eqb_db, eqb_di, eqb_ds, eqb_dt, eqb_dl, eqb_dd, plain_non, plain_lst, plain_dic, eqb_st, eqb_ts, xLen, bip, xIdx, mIdx, index, mItems, mList, xCall, pp_call, xBin, bop_ai, bop_as, bop_at, bop_al, bop_si, bop_mi, bop_ml, bop_mt, bop_ms, bop_mo, bop_fd, bop_pw, SZ, mSlc, mPart, slice, gUnp, gCon, gEnd, mLst, M.bad, mChn, sFor, loopM, xBi, xFz, fLst, mCalk, srcOf, isn_n, isn_b, isn_i, isn_s, isn_t, isn_l, isn_d, isn_r, isn_enc, gStar, dget, atI, fComp, noX, Res.noX, mWipe, cmpR, wipeE, blsOf, intsOf, txtsOf, cut, sIx, mZs, zsOf, zipD, mZip, zipOf, mRng1, mRng2, rngD, mCount, mIndexL, mMt, tyIs, mtp, findD, sTryAs, mIsE, noEx, sPar, sPar3, xRev, revD, sTry, reps, b_150, headD]
  | text => simp (decide := true) [runD, enc, sSeq, sIf, sRet, sNx, sAsg, sEx, sRai, ↓mb, Res.bind, mp, M.of, mT, xIsi, mBor, mVar, isTy, mTruth, truth, mOr, mAnd, mIte, mNot, xCmp, cop, eqo_nn, eqo_nb, eqo_ni, eqo_ns, eqo_nt, eqo_nl, eqo_nd, eqo_bn, eqo_bb, eqo_bi, eqo_bs, eqo_bt, eqo_bl, eqo_bd, eqo_in, eqo_ib, eqo_ii, eqo_is, eqo_it, eqo_il, eqo_id, eqo_sn, eqo_sb, eqo_si, eqo_ss, eqo_st, eqo_sl, eqo_sd, eqo_tn, eqo_tb, eqo_ti, eqo_ts, eqo_tt, eqo_tl, eqo_td, eqo_ln, eqo_lb, eqo_li, eqo_ls, eqo_lt, eqo_ll, eqo_ld, eqo_dn, eqo_db, eqo_di, eqo_ds, eqo_dt, eqo_dl, eqo_dd, inOk, D.flat, xTup, aNil, aCons, mSet, plain_str, plain_tup, plain_int, plain_bl, plains_nil, plains_cons, eqb_str, eqb_int, eqb_bl, eqb_tup, eqbs_nil, eqbs_cn, eqbs_nc, eqbs_cc, eqb_nn, eqb_nb, eqb_ni, eqb_ns, eqb_nt, eqb_nl, eqb_nd, eqb_bn, eqb_bi, eqb_bs, eqb_bt, eqb_b_l, eqb_bd, eqb_in, eqb_ib, eqb_is, eqb_it, eqb_il, eqb_id, eqb_sn, eqb_sb, eqb_si, eqb_sl, eqb_sd, eqb_tn, eqb_tb, eqb_ti, eqb_tl, eqb_td, eqb_ln, eqb_lb, eqb_li, eqb_ls, eqb_lt, eqb_ll, eqb_ld, eqb_dn, eqb_db, eqb_di, eqb_ds, eqb_dt, eqb_dl, eqb_dd, plain_non, plain_lst, plain_dic, eqb_st, eqb_ts, xLen, bip, xIdx, mIdx, index, mItems, mList, xCall, pp_call, xBin, bop_ai, bop_as, bop_at, bop_al, bop_si, bop_mi, bop_ml, bop_mt, bop_ms, bop_mo, bop_fd, bop_pw, SZ, mSlc, mPart, slice, gUnp, gCon, gEnd, mLst, M.bad, mChn, sFor, loopM, xBi, xFz, fLst, mCalk, srcOf, isn_n, isn_b, isn_i, isn_s, isn_t, isn_l, isn_d, isn_r, isn_enc, gStar, dget, atI, fComp, noX, Res.noX, mWipe, cmpR, wipeE, blsOf, intsOf, txtsOf, cut, sIx, mZs, zsOf, zipD, mZip, zipOf, mRng1, mRng2, rngD, mCount, mIndexL, mMt, tyIs, mtp, findD, sTryAs, mIsE, noEx, sPar, sPar3, xRev, revD, sTry, reps, b_150, headD]
  | deed a b =>
    have hp := plain_deed 60 a b (by omega)
    simp (decide := true) [runD, enc, sSeq, sIf, sRet, sNx, sAsg, sEx, sRai, ↓mb, Res.bind, mp, M.of, mT, xIsi, mBor, mVar, isTy, mTruth, truth, mOr, mAnd, mIte, mNot, xCmp, cop, eqo_nn, eqo_nb, eqo_ni, eqo_ns, eqo_nt, eqo_nl, eqo_nd, eqo_bn, eqo_bb, eqo_bi, eqo_bs, eqo_bt, eqo_bl, eqo_bd, eqo_in, eqo_ib, eqo_ii, eqo_is, eqo_it, eqo_il, eqo_id, eqo_sn, eqo_sb, eqo_si, eqo_ss, eqo_st, eqo_sl, eqo_sd, eqo_tn, eqo_tb, eqo_ti, eqo_ts, eqo_tt, eqo_tl, eqo_td, eqo_ln, eqo_lb, eqo_li, eqo_ls, eqo_lt, eqo_ll, eqo_ld, eqo_dn, eqo_db, eqo_di, eqo_ds, eqo_dt, eqo_dl, eqo_dd, inOk, D.flat, xTup, aNil, aCons, mSet, plain_str, plain_tup, plain_int, plain_bl, plains_nil, plains_cons, eqb_str, eqb_int, eqb_bl, eqb_tup, eqbs_nil, eqbs_cn, eqbs_nc, eqbs_cc, eqb_nn, eqb_nb, eqb_ni, eqb_ns, eqb_nt, eqb_nl, eqb_nd, eqb_bn, eqb_bi, eqb_bs, eqb_bt, eqb_b_l, eqb_bd, eqb_in, eqb_ib, eqb_is, eqb_it, eqb_il, eqb_id, eqb_sn, eqb_sb, eqb_si, eqb_sl, eqb_sd, eqb_tn, eqb_tb, eqb_ti, eqb_tl, eqb_td, eqb_ln, eqb_lb, eqb_li, eqb_ls, eqb_lt, eqb_ll, eqb_ld, eqb_dn, eqb_db, eqb_di, eqb_ds, eqb_dt, eqb_dl, eqb_dd, plain_non, plain_lst, plain_dic, eqb_st, eqb_ts, xLen, bip, xIdx, mIdx, index, mItems, mList, xCall, pp_call, xBin, bop_ai, bop_as, bop_at, bop_al, bop_si, bop_mi, bop_ml, bop_mt, bop_ms, bop_mo, bop_fd, bop_pw, SZ, mSlc, mPart, slice, gUnp, gCon, gEnd, mLst, M.bad, mChn, sFor, loopM, xBi, xFz, fLst, mCalk, srcOf, isn_n, isn_b, isn_i, isn_s, isn_t, isn_l, isn_d, isn_r, isn_enc, gStar, dget, atI, fComp, noX, Res.noX, mWipe, cmpR, wipeE, blsOf, intsOf, txtsOf, cut, sIx, mZs, zsOf, zipD, mZip, zipOf, mRng1, mRng2, rngD, mCount, mIndexL, mMt, tyIs, mtp, findD, sTryAs, mIsE, noEx, sPar, sPar3, xRev, revD, sTry, reps, b_150, headD, hp]
  | box a =>
    have hp := plain_box 60 a (by omega)
    simp (decide := true) [runD, enc, sSeq, sIf, sRet, sNx, sAsg, sEx, sRai, ↓mb, Res.bind, mp, M.of, mT, xIsi, mBor, mVar, isTy, mTruth, truth, mOr, mAnd, mIte, mNot, xCmp, cop, eqo_nn, eqo_nb, eqo_ni, eqo_ns, eqo_nt, eqo_nl, eqo_nd, eqo_bn, eqo_bb, eqo_bi, eqo_bs, eqo_bt, eqo_bl, eqo_bd, eqo_in, eqo_ib, eqo_ii, eqo_is, eqo_it, eqo_il, eqo_id, eqo_sn, eqo_sb, eqo_si, eqo_ss, eqo_st, eqo_sl, eqo_sd, eqo_tn, eqo_tb, eqo_ti, eqo_ts, eqo_tt, eqo_tl, eqo_td, eqo_ln, eqo_lb, eqo_li, eqo_ls, eqo_lt, eqo_ll, eqo_ld, eqo_dn, eqo_db, eqo_di, eqo_ds, eqo_dt, eqo_dl, eqo_dd, inOk, D.flat, xTup, aNil, aCons, mSet, plain_str, plain_tup, plain_int, plain_bl, plains_nil, plains_cons, eqb_str, eqb_int, eqb_bl, eqb_tup, eqbs_nil, eqbs_cn, eqbs_nc, eqbs_cc, eqb_nn, eqb_nb, eqb_ni, eqb_ns, eqb_nt, eqb_nl, eqb_nd, eqb_bn, eqb_bi, eqb_bs, eqb_bt, eqb_b_l, eqb_bd, eqb_in, eqb_ib, eqb_is, eqb_it, eqb_il, eqb_id, eqb_sn, eqb_sb, eqb_si, eqb_sl, eqb_sd, eqb_tn, eqb_tb, eqb_ti, eqb_tl, eqb_td, eqb_ln, eqb_lb, eqb_li, eqb_ls, eqb_lt, eqb_ll, eqb_ld, eqb_dn, eqb_db, eqb_di, eqb_ds, eqb_dt, eqb_dl, eqb_dd, plain_non, plain_lst, plain_dic, eqb_st, eqb_ts, xLen, bip, xIdx, mIdx, index, mItems, mList, xCall, pp_call, xBin, bop_ai, bop_as, bop_at, bop_al, bop_si, bop_mi, bop_ml, bop_mt, bop_ms, bop_mo, bop_fd, bop_pw, SZ, mSlc, mPart, slice, gUnp, gCon, gEnd, mLst, M.bad, mChn, sFor, loopM, xBi, xFz, fLst, mCalk, srcOf, isn_n, isn_b, isn_i, isn_s, isn_t, isn_l, isn_d, isn_r, isn_enc, gStar, dget, atI, fComp, noX, Res.noX, mWipe, cmpR, wipeE, blsOf, intsOf, txtsOf, cut, sIx, mZs, zsOf, zipD, mZip, zipOf, mRng1, mRng2, rngD, mCount, mIndexL, mMt, tyIs, mtp, findD, sTryAs, mIsE, noEx, sPar, sPar3, xRev, revD, sTry, reps, b_150, headD, hp]
theorem head_of (T : Tb) [Fn T 101 fd_101] [Fn T 102 fd_102] [Fn T 104 fd_104] [Fn T 150 fd_150] [Fn T 151 fd_151] (f : Form) (k : Nat) (S : Sto) (hk : hgt f + 3 < k) (h : hgt f ≤ 5) : callT T k 151 [enc f] S = .ok (headD f) S := by
  obtain ⟨k, rfl⟩ : ∃ j, k = j + 1 := ⟨k - 1, by omega⟩
  rw [call_step]
  have e1 := want_form T f k S (by omega) h
  have e2 := head_of_form T f k S (by omega) (by omega)
  simp (decide := true) [runD, enc, sSeq, sIf, sRet, sNx, sAsg, sEx, sRai, ↓mb, Res.bind, mp, M.of, mT, xIsi, mBor, mVar, isTy, mTruth, truth, mOr, mAnd, mIte, mNot, xCmp, cop, eqo_nn, eqo_nb, eqo_ni, eqo_ns, eqo_nt, eqo_nl, eqo_nd, eqo_bn, eqo_bb, eqo_bi, eqo_bs, eqo_bt, eqo_bl, eqo_bd, eqo_in, eqo_ib, eqo_ii, eqo_is, eqo_it, eqo_il, eqo_id, eqo_sn, eqo_sb, eqo_si, eqo_ss, eqo_st, eqo_sl, eqo_sd, eqo_tn, eqo_tb, eqo_ti, eqo_ts, eqo_tt, eqo_tl, eqo_td, eqo_ln, eqo_lb, eqo_li, eqo_ls, eqo_lt, eqo_ll, eqo_ld, eqo_dn, eqo_db, eqo_di, eqo_ds, eqo_dt, eqo_dl, eqo_dd, inOk, D.flat, xTup, aNil, aCons, mSet, plain_str, plain_tup, plain_int, plain_bl, plains_nil, plains_cons, eqb_str, eqb_int, eqb_bl, eqb_tup, eqbs_nil, eqbs_cn, eqbs_nc, eqbs_cc, eqb_nn, eqb_nb, eqb_ni, eqb_ns, eqb_nt, eqb_nl, eqb_nd, eqb_bn, eqb_bi, eqb_bs, eqb_bt, eqb_b_l, eqb_bd, eqb_in, eqb_ib, eqb_is, eqb_it, eqb_il, eqb_id, eqb_sn, eqb_sb, eqb_si, eqb_sl, eqb_sd, eqb_tn, eqb_tb, eqb_ti, eqb_tl, eqb_td, eqb_ln, eqb_lb, eqb_li, eqb_ls, eqb_lt, eqb_ll, eqb_ld, eqb_dn, eqb_db, eqb_di, eqb_ds, eqb_dt, eqb_dl, eqb_dd, plain_non, plain_lst, plain_dic, eqb_st, eqb_ts, xLen, bip, xIdx, mIdx, index, mItems, mList, xCall, pp_call, xBin, bop_ai, bop_as, bop_at, bop_al, bop_si, bop_mi, bop_ml, bop_mt, bop_ms, bop_mo, bop_fd, bop_pw, SZ, mSlc, mPart, slice, gUnp, gCon, gEnd, mLst, M.bad, mChn, sFor, loopM, xBi, xFz, fLst, mCalk, srcOf, isn_n, isn_b, isn_i, isn_s, isn_t, isn_l, isn_d, isn_r, isn_enc, gStar, dget, atI, fComp, noX, Res.noX, mWipe, cmpR, wipeE, blsOf, intsOf, txtsOf, cut, sIx, mZs, zsOf, zipD, mZip, zipOf, mRng1, mRng2, rngD, mCount, mIndexL, mMt, tyIs, mtp, findD, sTryAs, mIsE, noEx, sPar, sPar3, xRev, revD, sTry, reps, b_151, e1, e2]
theorem height_of_form (T : Tb) [Fn T 152 fd_152] (f : Form) : ∀ (k : Nat) (S : Sto), hgt f < k → hgt f ≤ 50 → callT T k 152 [enc f] S = .ok (.int (hgt f)) S := by
  induction f with
  | any =>
    intro k S hk h50
    obtain ⟨k, rfl⟩ : ∃ j, k = j + 1 := ⟨k - 1, by omega⟩
    rw [call_step]
    simp (decide := true) [runD, enc, sSeq, sIf, sRet, sNx, sAsg, sEx, sRai, ↓mb, Res.bind, mp, M.of, mT, xIsi, mBor, mVar, isTy, mTruth, truth, mOr, mAnd, mIte, mNot, xCmp, cop, eqo_nn, eqo_nb, eqo_ni, eqo_ns, eqo_nt, eqo_nl, eqo_nd, eqo_bn, eqo_bb, eqo_bi, eqo_bs, eqo_bt, eqo_bl, eqo_bd, eqo_in, eqo_ib, eqo_ii, eqo_is, eqo_it, eqo_il, eqo_id, eqo_sn, eqo_sb, eqo_si, eqo_ss, eqo_st, eqo_sl, eqo_sd, eqo_tn, eqo_tb, eqo_ti, eqo_ts, eqo_tt, eqo_tl, eqo_td, eqo_ln, eqo_lb, eqo_li, eqo_ls, eqo_lt, eqo_ll, eqo_ld, eqo_dn, eqo_db, eqo_di, eqo_ds, eqo_dt, eqo_dl, eqo_dd, inOk, D.flat, xTup, aNil, aCons, mSet, plain_str, plain_tup, plain_int, plain_bl, plains_nil, plains_cons, eqb_str, eqb_int, eqb_bl, eqb_tup, eqbs_nil, eqbs_cn, eqbs_nc, eqbs_cc, eqb_nn, eqb_nb, eqb_ni, eqb_ns, eqb_nt, eqb_nl, eqb_nd, eqb_bn, eqb_bi, eqb_bs, eqb_bt, eqb_b_l, eqb_bd, eqb_in, eqb_ib, eqb_is, eqb_it, eqb_il, eqb_id, eqb_sn, eqb_sb, eqb_si, eqb_sl, eqb_sd, eqb_tn, eqb_tb, eqb_ti, eqb_tl, eqb_td, eqb_ln, eqb_lb, eqb_li, eqb_ls, eqb_lt, eqb_ll, eqb_ld, eqb_dn, eqb_db, eqb_di, eqb_ds, eqb_dt, eqb_dl, eqb_dd, plain_non, plain_lst, plain_dic, eqb_st, eqb_ts, xLen, bip, xIdx, mIdx, index, mItems, mList, xCall, pp_call, xBin, bop_ai, bop_as, bop_at, bop_al, bop_si, bop_mi, bop_ml, bop_mt, bop_ms, bop_mo, bop_fd, bop_pw, SZ, mSlc, mPart, slice, gUnp, gCon, gEnd, mLst, M.bad, mChn, sFor, loopM, xBi, xFz, fLst, mCalk, srcOf, isn_n, isn_b, isn_i, isn_s, isn_t, isn_l, isn_d, isn_r, isn_enc, gStar, dget, atI, fComp, noX, Res.noX, mWipe, cmpR, wipeE, blsOf, intsOf, txtsOf, cut, sIx, mZs, zsOf, zipD, mZip, zipOf, mRng1, mRng2, rngD, mCount, mIndexL, mMt, tyIs, mtp, findD, sTryAs, mIsE, noEx, sPar, sPar3, xRev, revD, sTry, reps, b_152, hgt]
  | num =>
    intro k S hk h50
    obtain ⟨k, rfl⟩ : ∃ j, k = j + 1 := ⟨k - 1, by omega⟩
    rw [call_step]
    simp (decide := true) [runD, enc, sSeq, sIf, sRet, sNx, sAsg, sEx, sRai, ↓mb, Res.bind, mp, M.of, mT, xIsi, mBor, mVar, isTy, mTruth, truth, mOr, mAnd, mIte, mNot, xCmp, cop, eqo_nn, eqo_nb, eqo_ni, eqo_ns, eqo_nt, eqo_nl, eqo_nd, eqo_bn, eqo_bb, eqo_bi, eqo_bs, eqo_bt, eqo_bl, eqo_bd, eqo_in, eqo_ib, eqo_ii, eqo_is, eqo_it, eqo_il, eqo_id, eqo_sn, eqo_sb, eqo_si, eqo_ss, eqo_st, eqo_sl, eqo_sd, eqo_tn, eqo_tb, eqo_ti, eqo_ts, eqo_tt, eqo_tl, eqo_td, eqo_ln, eqo_lb, eqo_li, eqo_ls, eqo_lt, eqo_ll, eqo_ld, eqo_dn, eqo_db, eqo_di, eqo_ds, eqo_dt, eqo_dl, eqo_dd, inOk, D.flat, xTup, aNil, aCons, mSet, plain_str, plain_tup, plain_int, plain_bl, plains_nil, plains_cons, eqb_str, eqb_int, eqb_bl, eqb_tup, eqbs_nil, eqbs_cn, eqbs_nc, eqbs_cc, eqb_nn, eqb_nb, eqb_ni, eqb_ns, eqb_nt, eqb_nl, eqb_nd, eqb_bn, eqb_bi, eqb_bs, eqb_bt, eqb_b_l, eqb_bd, eqb_in, eqb_ib, eqb_is, eqb_it, eqb_il, eqb_id, eqb_sn, eqb_sb, eqb_si, eqb_sl, eqb_sd, eqb_tn, eqb_tb, eqb_ti, eqb_tl, eqb_td, eqb_ln, eqb_lb, eqb_li, eqb_ls, eqb_lt, eqb_ll, eqb_ld, eqb_dn, eqb_db, eqb_di, eqb_ds, eqb_dt, eqb_dl, eqb_dd, plain_non, plain_lst, plain_dic, eqb_st, eqb_ts, xLen, bip, xIdx, mIdx, index, mItems, mList, xCall, pp_call, xBin, bop_ai, bop_as, bop_at, bop_al, bop_si, bop_mi, bop_ml, bop_mt, bop_ms, bop_mo, bop_fd, bop_pw, SZ, mSlc, mPart, slice, gUnp, gCon, gEnd, mLst, M.bad, mChn, sFor, loopM, xBi, xFz, fLst, mCalk, srcOf, isn_n, isn_b, isn_i, isn_s, isn_t, isn_l, isn_d, isn_r, isn_enc, gStar, dget, atI, fComp, noX, Res.noX, mWipe, cmpR, wipeE, blsOf, intsOf, txtsOf, cut, sIx, mZs, zsOf, zipD, mZip, zipOf, mRng1, mRng2, rngD, mCount, mIndexL, mMt, tyIs, mtp, findD, sTryAs, mIsE, noEx, sPar, sPar3, xRev, revD, sTry, reps, b_152, hgt]
  | text =>
    intro k S hk h50
    obtain ⟨k, rfl⟩ : ∃ j, k = j + 1 := ⟨k - 1, by omega⟩
    rw [call_step]
    simp (decide := true) [runD, enc, sSeq, sIf, sRet, sNx, sAsg, sEx, sRai, ↓mb, Res.bind, mp, M.of, mT, xIsi, mBor, mVar, isTy, mTruth, truth, mOr, mAnd, mIte, mNot, xCmp, cop, eqo_nn, eqo_nb, eqo_ni, eqo_ns, eqo_nt, eqo_nl, eqo_nd, eqo_bn, eqo_bb, eqo_bi, eqo_bs, eqo_bt, eqo_bl, eqo_bd, eqo_in, eqo_ib, eqo_ii, eqo_is, eqo_it, eqo_il, eqo_id, eqo_sn, eqo_sb, eqo_si, eqo_ss, eqo_st, eqo_sl, eqo_sd, eqo_tn, eqo_tb, eqo_ti, eqo_ts, eqo_tt, eqo_tl, eqo_td, eqo_ln, eqo_lb, eqo_li, eqo_ls, eqo_lt, eqo_ll, eqo_ld, eqo_dn, eqo_db, eqo_di, eqo_ds, eqo_dt, eqo_dl, eqo_dd, inOk, D.flat, xTup, aNil, aCons, mSet, plain_str, plain_tup, plain_int, plain_bl, plains_nil, plains_cons, eqb_str, eqb_int, eqb_bl, eqb_tup, eqbs_nil, eqbs_cn, eqbs_nc, eqbs_cc, eqb_nn, eqb_nb, eqb_ni, eqb_ns, eqb_nt, eqb_nl, eqb_nd, eqb_bn, eqb_bi, eqb_bs, eqb_bt, eqb_b_l, eqb_bd, eqb_in, eqb_ib, eqb_is, eqb_it, eqb_il, eqb_id, eqb_sn, eqb_sb, eqb_si, eqb_sl, eqb_sd, eqb_tn, eqb_tb, eqb_ti, eqb_tl, eqb_td, eqb_ln, eqb_lb, eqb_li, eqb_ls, eqb_lt, eqb_ll, eqb_ld, eqb_dn, eqb_db, eqb_di, eqb_ds, eqb_dt, eqb_dl, eqb_dd, plain_non, plain_lst, plain_dic, eqb_st, eqb_ts, xLen, bip, xIdx, mIdx, index, mItems, mList, xCall, pp_call, xBin, bop_ai, bop_as, bop_at, bop_al, bop_si, bop_mi, bop_ml, bop_mt, bop_ms, bop_mo, bop_fd, bop_pw, SZ, mSlc, mPart, slice, gUnp, gCon, gEnd, mLst, M.bad, mChn, sFor, loopM, xBi, xFz, fLst, mCalk, srcOf, isn_n, isn_b, isn_i, isn_s, isn_t, isn_l, isn_d, isn_r, isn_enc, gStar, dget, atI, fComp, noX, Res.noX, mWipe, cmpR, wipeE, blsOf, intsOf, txtsOf, cut, sIx, mZs, zsOf, zipD, mZip, zipOf, mRng1, mRng2, rngD, mCount, mIndexL, mMt, tyIs, mtp, findD, sTryAs, mIsE, noEx, sPar, sPar3, xRev, revD, sTry, reps, b_152, hgt]
  | deed a b iha ihb =>
    intro k S hk h50
    obtain ⟨k, rfl⟩ : ∃ j, k = j + 1 := ⟨k - 1, by omega⟩
    rw [call_step]
    simp only [hgt] at hk h50
    have ea := iha k S (by omega) (by omega)
    have eb := ihb k S (by omega) (by omega)
    simp (decide := true) [runD, enc, sSeq, sIf, sRet, sNx, sAsg, sEx, sRai, ↓mb, Res.bind, mp, M.of, mT, xIsi, mBor, mVar, isTy, mTruth, truth, mOr, mAnd, mIte, mNot, xCmp, cop, eqo_nn, eqo_nb, eqo_ni, eqo_ns, eqo_nt, eqo_nl, eqo_nd, eqo_bn, eqo_bb, eqo_bi, eqo_bs, eqo_bt, eqo_bl, eqo_bd, eqo_in, eqo_ib, eqo_ii, eqo_is, eqo_it, eqo_il, eqo_id, eqo_sn, eqo_sb, eqo_si, eqo_ss, eqo_st, eqo_sl, eqo_sd, eqo_tn, eqo_tb, eqo_ti, eqo_ts, eqo_tt, eqo_tl, eqo_td, eqo_ln, eqo_lb, eqo_li, eqo_ls, eqo_lt, eqo_ll, eqo_ld, eqo_dn, eqo_db, eqo_di, eqo_ds, eqo_dt, eqo_dl, eqo_dd, inOk, D.flat, xTup, aNil, aCons, mSet, plain_str, plain_tup, plain_int, plain_bl, plains_nil, plains_cons, eqb_str, eqb_int, eqb_bl, eqb_tup, eqbs_nil, eqbs_cn, eqbs_nc, eqbs_cc, eqb_nn, eqb_nb, eqb_ni, eqb_ns, eqb_nt, eqb_nl, eqb_nd, eqb_bn, eqb_bi, eqb_bs, eqb_bt, eqb_b_l, eqb_bd, eqb_in, eqb_ib, eqb_is, eqb_it, eqb_il, eqb_id, eqb_sn, eqb_sb, eqb_si, eqb_sl, eqb_sd, eqb_tn, eqb_tb, eqb_ti, eqb_tl, eqb_td, eqb_ln, eqb_lb, eqb_li, eqb_ls, eqb_lt, eqb_ll, eqb_ld, eqb_dn, eqb_db, eqb_di, eqb_ds, eqb_dt, eqb_dl, eqb_dd, plain_non, plain_lst, plain_dic, eqb_st, eqb_ts, xLen, bip, xIdx, mIdx, index, mItems, mList, xCall, pp_call, xBin, bop_ai, bop_as, bop_at, bop_al, bop_si, bop_mi, bop_ml, bop_mt, bop_ms, bop_mo, bop_fd, bop_pw, SZ, mSlc, mPart, slice, gUnp, gCon, gEnd, mLst, M.bad, mChn, sFor, loopM, xBi, xFz, fLst, mCalk, srcOf, isn_n, isn_b, isn_i, isn_s, isn_t, isn_l, isn_d, isn_r, isn_enc, gStar, dget, atI, fComp, noX, Res.noX, mWipe, cmpR, wipeE, blsOf, intsOf, txtsOf, cut, sIx, mZs, zsOf, zipD, mZip, zipOf, mRng1, mRng2, rngD, mCount, mIndexL, mMt, tyIs, mtp, findD, sTryAs, mIsE, noEx, sPar, sPar3, xRev, revD, sTry, reps, b_152, hgt, ea, eb]
    try omega
  | box a iha =>
    intro k S hk h50
    obtain ⟨k, rfl⟩ : ∃ j, k = j + 1 := ⟨k - 1, by omega⟩
    rw [call_step]
    simp only [hgt] at hk h50
    have ea := iha k S (by omega) (by omega)
    simp (decide := true) [runD, enc, sSeq, sIf, sRet, sNx, sAsg, sEx, sRai, ↓mb, Res.bind, mp, M.of, mT, xIsi, mBor, mVar, isTy, mTruth, truth, mOr, mAnd, mIte, mNot, xCmp, cop, eqo_nn, eqo_nb, eqo_ni, eqo_ns, eqo_nt, eqo_nl, eqo_nd, eqo_bn, eqo_bb, eqo_bi, eqo_bs, eqo_bt, eqo_bl, eqo_bd, eqo_in, eqo_ib, eqo_ii, eqo_is, eqo_it, eqo_il, eqo_id, eqo_sn, eqo_sb, eqo_si, eqo_ss, eqo_st, eqo_sl, eqo_sd, eqo_tn, eqo_tb, eqo_ti, eqo_ts, eqo_tt, eqo_tl, eqo_td, eqo_ln, eqo_lb, eqo_li, eqo_ls, eqo_lt, eqo_ll, eqo_ld, eqo_dn, eqo_db, eqo_di, eqo_ds, eqo_dt, eqo_dl, eqo_dd, inOk, D.flat, xTup, aNil, aCons, mSet, plain_str, plain_tup, plain_int, plain_bl, plains_nil, plains_cons, eqb_str, eqb_int, eqb_bl, eqb_tup, eqbs_nil, eqbs_cn, eqbs_nc, eqbs_cc, eqb_nn, eqb_nb, eqb_ni, eqb_ns, eqb_nt, eqb_nl, eqb_nd, eqb_bn, eqb_bi, eqb_bs, eqb_bt, eqb_b_l, eqb_bd, eqb_in, eqb_ib, eqb_is, eqb_it, eqb_il, eqb_id, eqb_sn, eqb_sb, eqb_si, eqb_sl, eqb_sd, eqb_tn, eqb_tb, eqb_ti, eqb_tl, eqb_td, eqb_ln, eqb_lb, eqb_li, eqb_ls, eqb_lt, eqb_ll, eqb_ld, eqb_dn, eqb_db, eqb_di, eqb_ds, eqb_dt, eqb_dl, eqb_dd, plain_non, plain_lst, plain_dic, eqb_st, eqb_ts, xLen, bip, xIdx, mIdx, index, mItems, mList, xCall, pp_call, xBin, bop_ai, bop_as, bop_at, bop_al, bop_si, bop_mi, bop_ml, bop_mt, bop_ms, bop_mo, bop_fd, bop_pw, SZ, mSlc, mPart, slice, gUnp, gCon, gEnd, mLst, M.bad, mChn, sFor, loopM, xBi, xFz, fLst, mCalk, srcOf, isn_n, isn_b, isn_i, isn_s, isn_t, isn_l, isn_d, isn_r, isn_enc, gStar, dget, atI, fComp, noX, Res.noX, mWipe, cmpR, wipeE, blsOf, intsOf, txtsOf, cut, sIx, mZs, zsOf, zipD, mZip, zipOf, mRng1, mRng2, rngD, mCount, mIndexL, mMt, tyIs, mtp, findD, sTryAs, mIsE, noEx, sPar, sPar3, xRev, revD, sTry, reps, b_152, hgt, ea]
theorem height_of (T : Tb) [Fn T 101 fd_101] [Fn T 102 fd_102] [Fn T 104 fd_104] [Fn T 152 fd_152] [Fn T 153 fd_153] (f : Form) (k : Nat) (S : Sto) (hk : hgt f + 3 < k) (h : hgt f ≤ 5) : callT T k 153 [enc f] S = .ok (.int (hgt f)) S := by
  obtain ⟨k, rfl⟩ : ∃ j, k = j + 1 := ⟨k - 1, by omega⟩
  rw [call_step]
  have e1 := want_form T f k S (by omega) h
  have e2 := height_of_form T f k S (by omega) (by omega)
  simp (decide := true) [runD, enc, sSeq, sIf, sRet, sNx, sAsg, sEx, sRai, ↓mb, Res.bind, mp, M.of, mT, xIsi, mBor, mVar, isTy, mTruth, truth, mOr, mAnd, mIte, mNot, xCmp, cop, eqo_nn, eqo_nb, eqo_ni, eqo_ns, eqo_nt, eqo_nl, eqo_nd, eqo_bn, eqo_bb, eqo_bi, eqo_bs, eqo_bt, eqo_bl, eqo_bd, eqo_in, eqo_ib, eqo_ii, eqo_is, eqo_it, eqo_il, eqo_id, eqo_sn, eqo_sb, eqo_si, eqo_ss, eqo_st, eqo_sl, eqo_sd, eqo_tn, eqo_tb, eqo_ti, eqo_ts, eqo_tt, eqo_tl, eqo_td, eqo_ln, eqo_lb, eqo_li, eqo_ls, eqo_lt, eqo_ll, eqo_ld, eqo_dn, eqo_db, eqo_di, eqo_ds, eqo_dt, eqo_dl, eqo_dd, inOk, D.flat, xTup, aNil, aCons, mSet, plain_str, plain_tup, plain_int, plain_bl, plains_nil, plains_cons, eqb_str, eqb_int, eqb_bl, eqb_tup, eqbs_nil, eqbs_cn, eqbs_nc, eqbs_cc, eqb_nn, eqb_nb, eqb_ni, eqb_ns, eqb_nt, eqb_nl, eqb_nd, eqb_bn, eqb_bi, eqb_bs, eqb_bt, eqb_b_l, eqb_bd, eqb_in, eqb_ib, eqb_is, eqb_it, eqb_il, eqb_id, eqb_sn, eqb_sb, eqb_si, eqb_sl, eqb_sd, eqb_tn, eqb_tb, eqb_ti, eqb_tl, eqb_td, eqb_ln, eqb_lb, eqb_li, eqb_ls, eqb_lt, eqb_ll, eqb_ld, eqb_dn, eqb_db, eqb_di, eqb_ds, eqb_dt, eqb_dl, eqb_dd, plain_non, plain_lst, plain_dic, eqb_st, eqb_ts, xLen, bip, xIdx, mIdx, index, mItems, mList, xCall, pp_call, xBin, bop_ai, bop_as, bop_at, bop_al, bop_si, bop_mi, bop_ml, bop_mt, bop_ms, bop_mo, bop_fd, bop_pw, SZ, mSlc, mPart, slice, gUnp, gCon, gEnd, mLst, M.bad, mChn, sFor, loopM, xBi, xFz, fLst, mCalk, srcOf, isn_n, isn_b, isn_i, isn_s, isn_t, isn_l, isn_d, isn_r, isn_enc, gStar, dget, atI, fComp, noX, Res.noX, mWipe, cmpR, wipeE, blsOf, intsOf, txtsOf, cut, sIx, mZs, zsOf, zipD, mZip, zipOf, mRng1, mRng2, rngD, mCount, mIndexL, mMt, tyIs, mtp, findD, sTryAs, mIsE, noEx, sPar, sPar3, xRev, revD, sTry, reps, b_153, e1, e2]

namespace Form
def near : Form → Form → Bool
  | any, _ => true
  | _, any => true
  | num, num => true
  | text, text => true
  | deed a b, deed c d => near a c && near b d
  | box a, box c => near a c
  | _, _ => false
def loose : Form → Form → Bool
  | any, _ => true
  | num, num => true
  | text, text => true
  | deed a b, deed c d => loose a c && loose b d
  | box a, box c => loose a c
  | _, _ => false
def meet : Form → Form → Form
  | any, g => g
  | f, any => f
  | deed a b, deed c d => deed (meet a c) (meet b d)
  | box a, box c => box (meet a c)
  | f, _ => f
end Form
open Form
theorem near_forms (T : Tb) [Fn T 105 fd_105] (f : Form) : ∀ (g : Form) (k : Nat) (S : Sto), hgt f < k → hgt f ≤ 50 → hgt g ≤ 50 → callT T k 105 [enc f, enc g] S = .ok (.bl (near f g)) S := by
  induction f with
  | any =>
    intro g k S hk hf hg
    obtain ⟨k, rfl⟩ : ∃ j, k = j + 1 := ⟨k - 1, by omega⟩
    rw [call_step]
    have hp := plain_enc g 60 (by omega)
    cases g <;> (simp only [enc] at hp; simp (decide := true) [runD, enc, sSeq, sIf, sRet, sNx, sAsg, sEx, sRai, ↓mb, Res.bind, mp, M.of, mT, xIsi, mBor, mVar, isTy, mTruth, truth, mOr, mAnd, mIte, mNot, xCmp, cop, eqo_nn, eqo_nb, eqo_ni, eqo_ns, eqo_nt, eqo_nl, eqo_nd, eqo_bn, eqo_bb, eqo_bi, eqo_bs, eqo_bt, eqo_bl, eqo_bd, eqo_in, eqo_ib, eqo_ii, eqo_is, eqo_it, eqo_il, eqo_id, eqo_sn, eqo_sb, eqo_si, eqo_ss, eqo_st, eqo_sl, eqo_sd, eqo_tn, eqo_tb, eqo_ti, eqo_ts, eqo_tt, eqo_tl, eqo_td, eqo_ln, eqo_lb, eqo_li, eqo_ls, eqo_lt, eqo_ll, eqo_ld, eqo_dn, eqo_db, eqo_di, eqo_ds, eqo_dt, eqo_dl, eqo_dd, inOk, D.flat, xTup, aNil, aCons, mSet, plain_str, plain_tup, plain_int, plain_bl, plains_nil, plains_cons, eqb_str, eqb_int, eqb_bl, eqb_tup, eqbs_nil, eqbs_cn, eqbs_nc, eqbs_cc, eqb_nn, eqb_nb, eqb_ni, eqb_ns, eqb_nt, eqb_nl, eqb_nd, eqb_bn, eqb_bi, eqb_bs, eqb_bt, eqb_b_l, eqb_bd, eqb_in, eqb_ib, eqb_is, eqb_it, eqb_il, eqb_id, eqb_sn, eqb_sb, eqb_si, eqb_sl, eqb_sd, eqb_tn, eqb_tb, eqb_ti, eqb_tl, eqb_td, eqb_ln, eqb_lb, eqb_li, eqb_ls, eqb_lt, eqb_ll, eqb_ld, eqb_dn, eqb_db, eqb_di, eqb_ds, eqb_dt, eqb_dl, eqb_dd, plain_non, plain_lst, plain_dic, eqb_st, eqb_ts, xLen, bip, xIdx, mIdx, index, mItems, mList, xCall, pp_call, xBin, bop_ai, bop_as, bop_at, bop_al, bop_si, bop_mi, bop_ml, bop_mt, bop_ms, bop_mo, bop_fd, bop_pw, SZ, mSlc, mPart, slice, gUnp, gCon, gEnd, mLst, M.bad, mChn, sFor, loopM, xBi, xFz, fLst, mCalk, srcOf, isn_n, isn_b, isn_i, isn_s, isn_t, isn_l, isn_d, isn_r, isn_enc, gStar, dget, atI, fComp, noX, Res.noX, mWipe, cmpR, wipeE, blsOf, intsOf, txtsOf, cut, sIx, mZs, zsOf, zipD, mZip, zipOf, mRng1, mRng2, rngD, mCount, mIndexL, mMt, tyIs, mtp, findD, sTryAs, mIsE, noEx, sPar, sPar3, xRev, revD, sTry, reps, b_105, near, hp])
  | num =>
    intro g k S hk hf hg
    obtain ⟨k, rfl⟩ : ∃ j, k = j + 1 := ⟨k - 1, by omega⟩
    rw [call_step]
    have hp := plain_enc g 60 (by omega)
    cases g <;> (simp only [enc] at hp; simp (decide := true) [runD, enc, sSeq, sIf, sRet, sNx, sAsg, sEx, sRai, ↓mb, Res.bind, mp, M.of, mT, xIsi, mBor, mVar, isTy, mTruth, truth, mOr, mAnd, mIte, mNot, xCmp, cop, eqo_nn, eqo_nb, eqo_ni, eqo_ns, eqo_nt, eqo_nl, eqo_nd, eqo_bn, eqo_bb, eqo_bi, eqo_bs, eqo_bt, eqo_bl, eqo_bd, eqo_in, eqo_ib, eqo_ii, eqo_is, eqo_it, eqo_il, eqo_id, eqo_sn, eqo_sb, eqo_si, eqo_ss, eqo_st, eqo_sl, eqo_sd, eqo_tn, eqo_tb, eqo_ti, eqo_ts, eqo_tt, eqo_tl, eqo_td, eqo_ln, eqo_lb, eqo_li, eqo_ls, eqo_lt, eqo_ll, eqo_ld, eqo_dn, eqo_db, eqo_di, eqo_ds, eqo_dt, eqo_dl, eqo_dd, inOk, D.flat, xTup, aNil, aCons, mSet, plain_str, plain_tup, plain_int, plain_bl, plains_nil, plains_cons, eqb_str, eqb_int, eqb_bl, eqb_tup, eqbs_nil, eqbs_cn, eqbs_nc, eqbs_cc, eqb_nn, eqb_nb, eqb_ni, eqb_ns, eqb_nt, eqb_nl, eqb_nd, eqb_bn, eqb_bi, eqb_bs, eqb_bt, eqb_b_l, eqb_bd, eqb_in, eqb_ib, eqb_is, eqb_it, eqb_il, eqb_id, eqb_sn, eqb_sb, eqb_si, eqb_sl, eqb_sd, eqb_tn, eqb_tb, eqb_ti, eqb_tl, eqb_td, eqb_ln, eqb_lb, eqb_li, eqb_ls, eqb_lt, eqb_ll, eqb_ld, eqb_dn, eqb_db, eqb_di, eqb_ds, eqb_dt, eqb_dl, eqb_dd, plain_non, plain_lst, plain_dic, eqb_st, eqb_ts, xLen, bip, xIdx, mIdx, index, mItems, mList, xCall, pp_call, xBin, bop_ai, bop_as, bop_at, bop_al, bop_si, bop_mi, bop_ml, bop_mt, bop_ms, bop_mo, bop_fd, bop_pw, SZ, mSlc, mPart, slice, gUnp, gCon, gEnd, mLst, M.bad, mChn, sFor, loopM, xBi, xFz, fLst, mCalk, srcOf, isn_n, isn_b, isn_i, isn_s, isn_t, isn_l, isn_d, isn_r, isn_enc, gStar, dget, atI, fComp, noX, Res.noX, mWipe, cmpR, wipeE, blsOf, intsOf, txtsOf, cut, sIx, mZs, zsOf, zipD, mZip, zipOf, mRng1, mRng2, rngD, mCount, mIndexL, mMt, tyIs, mtp, findD, sTryAs, mIsE, noEx, sPar, sPar3, xRev, revD, sTry, reps, b_105, near, hp])
  | text =>
    intro g k S hk hf hg
    obtain ⟨k, rfl⟩ : ∃ j, k = j + 1 := ⟨k - 1, by omega⟩
    rw [call_step]
    have hp := plain_enc g 60 (by omega)
    cases g <;> (simp only [enc] at hp; simp (decide := true) [runD, enc, sSeq, sIf, sRet, sNx, sAsg, sEx, sRai, ↓mb, Res.bind, mp, M.of, mT, xIsi, mBor, mVar, isTy, mTruth, truth, mOr, mAnd, mIte, mNot, xCmp, cop, eqo_nn, eqo_nb, eqo_ni, eqo_ns, eqo_nt, eqo_nl, eqo_nd, eqo_bn, eqo_bb, eqo_bi, eqo_bs, eqo_bt, eqo_bl, eqo_bd, eqo_in, eqo_ib, eqo_ii, eqo_is, eqo_it, eqo_il, eqo_id, eqo_sn, eqo_sb, eqo_si, eqo_ss, eqo_st, eqo_sl, eqo_sd, eqo_tn, eqo_tb, eqo_ti, eqo_ts, eqo_tt, eqo_tl, eqo_td, eqo_ln, eqo_lb, eqo_li, eqo_ls, eqo_lt, eqo_ll, eqo_ld, eqo_dn, eqo_db, eqo_di, eqo_ds, eqo_dt, eqo_dl, eqo_dd, inOk, D.flat, xTup, aNil, aCons, mSet, plain_str, plain_tup, plain_int, plain_bl, plains_nil, plains_cons, eqb_str, eqb_int, eqb_bl, eqb_tup, eqbs_nil, eqbs_cn, eqbs_nc, eqbs_cc, eqb_nn, eqb_nb, eqb_ni, eqb_ns, eqb_nt, eqb_nl, eqb_nd, eqb_bn, eqb_bi, eqb_bs, eqb_bt, eqb_b_l, eqb_bd, eqb_in, eqb_ib, eqb_is, eqb_it, eqb_il, eqb_id, eqb_sn, eqb_sb, eqb_si, eqb_sl, eqb_sd, eqb_tn, eqb_tb, eqb_ti, eqb_tl, eqb_td, eqb_ln, eqb_lb, eqb_li, eqb_ls, eqb_lt, eqb_ll, eqb_ld, eqb_dn, eqb_db, eqb_di, eqb_ds, eqb_dt, eqb_dl, eqb_dd, plain_non, plain_lst, plain_dic, eqb_st, eqb_ts, xLen, bip, xIdx, mIdx, index, mItems, mList, xCall, pp_call, xBin, bop_ai, bop_as, bop_at, bop_al, bop_si, bop_mi, bop_ml, bop_mt, bop_ms, bop_mo, bop_fd, bop_pw, SZ, mSlc, mPart, slice, gUnp, gCon, gEnd, mLst, M.bad, mChn, sFor, loopM, xBi, xFz, fLst, mCalk, srcOf, isn_n, isn_b, isn_i, isn_s, isn_t, isn_l, isn_d, isn_r, isn_enc, gStar, dget, atI, fComp, noX, Res.noX, mWipe, cmpR, wipeE, blsOf, intsOf, txtsOf, cut, sIx, mZs, zsOf, zipD, mZip, zipOf, mRng1, mRng2, rngD, mCount, mIndexL, mMt, tyIs, mtp, findD, sTryAs, mIsE, noEx, sPar, sPar3, xRev, revD, sTry, reps, b_105, near, hp])
  | deed a b iha ihb =>
    intro g k S hk hf hg
    obtain ⟨k, rfl⟩ : ∃ j, k = j + 1 := ⟨k - 1, by omega⟩
    rw [call_step]
    have hp1 := plain_deed 60 a b (by omega)
    have hp := plain_enc g 60 (by omega)
    simp only [hgt] at hk hf
    cases g with
    | deed c d =>
      simp only [hgt] at hg
      have ea := iha c k S (by omega) (by omega) (by omega)
      have eb := ihb d k S (by omega) (by omega) (by omega)
      simp only [enc] at hp
      simp (decide := true) [runD, enc, sSeq, sIf, sRet, sNx, sAsg, sEx, sRai, ↓mb, Res.bind, mp, M.of, mT, xIsi, mBor, mVar, isTy, mTruth, truth, mOr, mAnd, mIte, mNot, xCmp, cop, eqo_nn, eqo_nb, eqo_ni, eqo_ns, eqo_nt, eqo_nl, eqo_nd, eqo_bn, eqo_bb, eqo_bi, eqo_bs, eqo_bt, eqo_bl, eqo_bd, eqo_in, eqo_ib, eqo_ii, eqo_is, eqo_it, eqo_il, eqo_id, eqo_sn, eqo_sb, eqo_si, eqo_ss, eqo_st, eqo_sl, eqo_sd, eqo_tn, eqo_tb, eqo_ti, eqo_ts, eqo_tt, eqo_tl, eqo_td, eqo_ln, eqo_lb, eqo_li, eqo_ls, eqo_lt, eqo_ll, eqo_ld, eqo_dn, eqo_db, eqo_di, eqo_ds, eqo_dt, eqo_dl, eqo_dd, inOk, D.flat, xTup, aNil, aCons, mSet, plain_str, plain_tup, plain_int, plain_bl, plains_nil, plains_cons, eqb_str, eqb_int, eqb_bl, eqb_tup, eqbs_nil, eqbs_cn, eqbs_nc, eqbs_cc, eqb_nn, eqb_nb, eqb_ni, eqb_ns, eqb_nt, eqb_nl, eqb_nd, eqb_bn, eqb_bi, eqb_bs, eqb_bt, eqb_b_l, eqb_bd, eqb_in, eqb_ib, eqb_is, eqb_it, eqb_il, eqb_id, eqb_sn, eqb_sb, eqb_si, eqb_sl, eqb_sd, eqb_tn, eqb_tb, eqb_ti, eqb_tl, eqb_td, eqb_ln, eqb_lb, eqb_li, eqb_ls, eqb_lt, eqb_ll, eqb_ld, eqb_dn, eqb_db, eqb_di, eqb_ds, eqb_dt, eqb_dl, eqb_dd, plain_non, plain_lst, plain_dic, eqb_st, eqb_ts, xLen, bip, xIdx, mIdx, index, mItems, mList, xCall, pp_call, xBin, bop_ai, bop_as, bop_at, bop_al, bop_si, bop_mi, bop_ml, bop_mt, bop_ms, bop_mo, bop_fd, bop_pw, SZ, mSlc, mPart, slice, gUnp, gCon, gEnd, mLst, M.bad, mChn, sFor, loopM, xBi, xFz, fLst, mCalk, srcOf, isn_n, isn_b, isn_i, isn_s, isn_t, isn_l, isn_d, isn_r, isn_enc, gStar, dget, atI, fComp, noX, Res.noX, mWipe, cmpR, wipeE, blsOf, intsOf, txtsOf, cut, sIx, mZs, zsOf, zipD, mZip, zipOf, mRng1, mRng2, rngD, mCount, mIndexL, mMt, tyIs, mtp, findD, sTryAs, mIsE, noEx, sPar, sPar3, xRev, revD, sTry, reps, b_105, near, hp1, hp, ea, eb]
    | _ => simp only [enc] at hp; simp (decide := true) [runD, enc, sSeq, sIf, sRet, sNx, sAsg, sEx, sRai, ↓mb, Res.bind, mp, M.of, mT, xIsi, mBor, mVar, isTy, mTruth, truth, mOr, mAnd, mIte, mNot, xCmp, cop, eqo_nn, eqo_nb, eqo_ni, eqo_ns, eqo_nt, eqo_nl, eqo_nd, eqo_bn, eqo_bb, eqo_bi, eqo_bs, eqo_bt, eqo_bl, eqo_bd, eqo_in, eqo_ib, eqo_ii, eqo_is, eqo_it, eqo_il, eqo_id, eqo_sn, eqo_sb, eqo_si, eqo_ss, eqo_st, eqo_sl, eqo_sd, eqo_tn, eqo_tb, eqo_ti, eqo_ts, eqo_tt, eqo_tl, eqo_td, eqo_ln, eqo_lb, eqo_li, eqo_ls, eqo_lt, eqo_ll, eqo_ld, eqo_dn, eqo_db, eqo_di, eqo_ds, eqo_dt, eqo_dl, eqo_dd, inOk, D.flat, xTup, aNil, aCons, mSet, plain_str, plain_tup, plain_int, plain_bl, plains_nil, plains_cons, eqb_str, eqb_int, eqb_bl, eqb_tup, eqbs_nil, eqbs_cn, eqbs_nc, eqbs_cc, eqb_nn, eqb_nb, eqb_ni, eqb_ns, eqb_nt, eqb_nl, eqb_nd, eqb_bn, eqb_bi, eqb_bs, eqb_bt, eqb_b_l, eqb_bd, eqb_in, eqb_ib, eqb_is, eqb_it, eqb_il, eqb_id, eqb_sn, eqb_sb, eqb_si, eqb_sl, eqb_sd, eqb_tn, eqb_tb, eqb_ti, eqb_tl, eqb_td, eqb_ln, eqb_lb, eqb_li, eqb_ls, eqb_lt, eqb_ll, eqb_ld, eqb_dn, eqb_db, eqb_di, eqb_ds, eqb_dt, eqb_dl, eqb_dd, plain_non, plain_lst, plain_dic, eqb_st, eqb_ts, xLen, bip, xIdx, mIdx, index, mItems, mList, xCall, pp_call, xBin, bop_ai, bop_as, bop_at, bop_al, bop_si, bop_mi, bop_ml, bop_mt, bop_ms, bop_mo, bop_fd, bop_pw, SZ, mSlc, mPart, slice, gUnp, gCon, gEnd, mLst, M.bad, mChn, sFor, loopM, xBi, xFz, fLst, mCalk, srcOf, isn_n, isn_b, isn_i, isn_s, isn_t, isn_l, isn_d, isn_r, isn_enc, gStar, dget, atI, fComp, noX, Res.noX, mWipe, cmpR, wipeE, blsOf, intsOf, txtsOf, cut, sIx, mZs, zsOf, zipD, mZip, zipOf, mRng1, mRng2, rngD, mCount, mIndexL, mMt, tyIs, mtp, findD, sTryAs, mIsE, noEx, sPar, sPar3, xRev, revD, sTry, reps, b_105, near, hp1, hp]
  | box a iha =>
    intro g k S hk hf hg
    obtain ⟨k, rfl⟩ : ∃ j, k = j + 1 := ⟨k - 1, by omega⟩
    rw [call_step]
    have hp1 := plain_box 60 a (by omega)
    have hp := plain_enc g 60 (by omega)
    simp only [hgt] at hk hf
    cases g with
    | box c =>
      simp only [hgt] at hg
      have ea := iha c k S (by omega) (by omega) (by omega)
      simp only [enc] at hp
      simp (decide := true) [runD, enc, sSeq, sIf, sRet, sNx, sAsg, sEx, sRai, ↓mb, Res.bind, mp, M.of, mT, xIsi, mBor, mVar, isTy, mTruth, truth, mOr, mAnd, mIte, mNot, xCmp, cop, eqo_nn, eqo_nb, eqo_ni, eqo_ns, eqo_nt, eqo_nl, eqo_nd, eqo_bn, eqo_bb, eqo_bi, eqo_bs, eqo_bt, eqo_bl, eqo_bd, eqo_in, eqo_ib, eqo_ii, eqo_is, eqo_it, eqo_il, eqo_id, eqo_sn, eqo_sb, eqo_si, eqo_ss, eqo_st, eqo_sl, eqo_sd, eqo_tn, eqo_tb, eqo_ti, eqo_ts, eqo_tt, eqo_tl, eqo_td, eqo_ln, eqo_lb, eqo_li, eqo_ls, eqo_lt, eqo_ll, eqo_ld, eqo_dn, eqo_db, eqo_di, eqo_ds, eqo_dt, eqo_dl, eqo_dd, inOk, D.flat, xTup, aNil, aCons, mSet, plain_str, plain_tup, plain_int, plain_bl, plains_nil, plains_cons, eqb_str, eqb_int, eqb_bl, eqb_tup, eqbs_nil, eqbs_cn, eqbs_nc, eqbs_cc, eqb_nn, eqb_nb, eqb_ni, eqb_ns, eqb_nt, eqb_nl, eqb_nd, eqb_bn, eqb_bi, eqb_bs, eqb_bt, eqb_b_l, eqb_bd, eqb_in, eqb_ib, eqb_is, eqb_it, eqb_il, eqb_id, eqb_sn, eqb_sb, eqb_si, eqb_sl, eqb_sd, eqb_tn, eqb_tb, eqb_ti, eqb_tl, eqb_td, eqb_ln, eqb_lb, eqb_li, eqb_ls, eqb_lt, eqb_ll, eqb_ld, eqb_dn, eqb_db, eqb_di, eqb_ds, eqb_dt, eqb_dl, eqb_dd, plain_non, plain_lst, plain_dic, eqb_st, eqb_ts, xLen, bip, xIdx, mIdx, index, mItems, mList, xCall, pp_call, xBin, bop_ai, bop_as, bop_at, bop_al, bop_si, bop_mi, bop_ml, bop_mt, bop_ms, bop_mo, bop_fd, bop_pw, SZ, mSlc, mPart, slice, gUnp, gCon, gEnd, mLst, M.bad, mChn, sFor, loopM, xBi, xFz, fLst, mCalk, srcOf, isn_n, isn_b, isn_i, isn_s, isn_t, isn_l, isn_d, isn_r, isn_enc, gStar, dget, atI, fComp, noX, Res.noX, mWipe, cmpR, wipeE, blsOf, intsOf, txtsOf, cut, sIx, mZs, zsOf, zipD, mZip, zipOf, mRng1, mRng2, rngD, mCount, mIndexL, mMt, tyIs, mtp, findD, sTryAs, mIsE, noEx, sPar, sPar3, xRev, revD, sTry, reps, b_105, near, hp1, hp, ea]
    | _ => simp only [enc] at hp; simp (decide := true) [runD, enc, sSeq, sIf, sRet, sNx, sAsg, sEx, sRai, ↓mb, Res.bind, mp, M.of, mT, xIsi, mBor, mVar, isTy, mTruth, truth, mOr, mAnd, mIte, mNot, xCmp, cop, eqo_nn, eqo_nb, eqo_ni, eqo_ns, eqo_nt, eqo_nl, eqo_nd, eqo_bn, eqo_bb, eqo_bi, eqo_bs, eqo_bt, eqo_bl, eqo_bd, eqo_in, eqo_ib, eqo_ii, eqo_is, eqo_it, eqo_il, eqo_id, eqo_sn, eqo_sb, eqo_si, eqo_ss, eqo_st, eqo_sl, eqo_sd, eqo_tn, eqo_tb, eqo_ti, eqo_ts, eqo_tt, eqo_tl, eqo_td, eqo_ln, eqo_lb, eqo_li, eqo_ls, eqo_lt, eqo_ll, eqo_ld, eqo_dn, eqo_db, eqo_di, eqo_ds, eqo_dt, eqo_dl, eqo_dd, inOk, D.flat, xTup, aNil, aCons, mSet, plain_str, plain_tup, plain_int, plain_bl, plains_nil, plains_cons, eqb_str, eqb_int, eqb_bl, eqb_tup, eqbs_nil, eqbs_cn, eqbs_nc, eqbs_cc, eqb_nn, eqb_nb, eqb_ni, eqb_ns, eqb_nt, eqb_nl, eqb_nd, eqb_bn, eqb_bi, eqb_bs, eqb_bt, eqb_b_l, eqb_bd, eqb_in, eqb_ib, eqb_is, eqb_it, eqb_il, eqb_id, eqb_sn, eqb_sb, eqb_si, eqb_sl, eqb_sd, eqb_tn, eqb_tb, eqb_ti, eqb_tl, eqb_td, eqb_ln, eqb_lb, eqb_li, eqb_ls, eqb_lt, eqb_ll, eqb_ld, eqb_dn, eqb_db, eqb_di, eqb_ds, eqb_dt, eqb_dl, eqb_dd, plain_non, plain_lst, plain_dic, eqb_st, eqb_ts, xLen, bip, xIdx, mIdx, index, mItems, mList, xCall, pp_call, xBin, bop_ai, bop_as, bop_at, bop_al, bop_si, bop_mi, bop_ml, bop_mt, bop_ms, bop_mo, bop_fd, bop_pw, SZ, mSlc, mPart, slice, gUnp, gCon, gEnd, mLst, M.bad, mChn, sFor, loopM, xBi, xFz, fLst, mCalk, srcOf, isn_n, isn_b, isn_i, isn_s, isn_t, isn_l, isn_d, isn_r, isn_enc, gStar, dget, atI, fComp, noX, Res.noX, mWipe, cmpR, wipeE, blsOf, intsOf, txtsOf, cut, sIx, mZs, zsOf, zipD, mZip, zipOf, mRng1, mRng2, rngD, mCount, mIndexL, mMt, tyIs, mtp, findD, sTryAs, mIsE, noEx, sPar, sPar3, xRev, revD, sTry, reps, b_105, near, hp1, hp]
theorem want_forms (T : Tb) [Fn T 101 fd_101] [Fn T 102 fd_102] [Fn T 104 fd_104] (f : Form) (k : Nat) (S : Sto) (hk : 10 < k) (h : hgt f ≤ 5) : callT T k 104 [enc f] S = .ok .non S := want_form T f k S (by omega) h
theorem are_near (T : Tb) [Fn T 101 fd_101] [Fn T 102 fd_102] [Fn T 104 fd_104] [Fn T 105 fd_105] [Fn T 106 fd_106] (f g : Form) (k : Nat) (S : Sto) (hk : 11 < k) (hf : hgt f ≤ 5) (hg : hgt g ≤ 5) : callT T k 106 [enc f, enc g] S = .ok (.bl (near f g)) S := by
  obtain ⟨k, rfl⟩ : ∃ j, k = j + 1 := ⟨k - 1, by omega⟩
  rw [call_step]
  have e1 := want_forms T f k S (by omega) hf
  have e2 := want_forms T g k S (by omega) hg
  have e3 := near_forms T f g k S (by omega) (by omega) (by omega)
  simp (decide := true) [runD, enc, sSeq, sIf, sRet, sNx, sAsg, sEx, sRai, ↓mb, Res.bind, mp, M.of, mT, xIsi, mBor, mVar, isTy, mTruth, truth, mOr, mAnd, mIte, mNot, xCmp, cop, eqo_nn, eqo_nb, eqo_ni, eqo_ns, eqo_nt, eqo_nl, eqo_nd, eqo_bn, eqo_bb, eqo_bi, eqo_bs, eqo_bt, eqo_bl, eqo_bd, eqo_in, eqo_ib, eqo_ii, eqo_is, eqo_it, eqo_il, eqo_id, eqo_sn, eqo_sb, eqo_si, eqo_ss, eqo_st, eqo_sl, eqo_sd, eqo_tn, eqo_tb, eqo_ti, eqo_ts, eqo_tt, eqo_tl, eqo_td, eqo_ln, eqo_lb, eqo_li, eqo_ls, eqo_lt, eqo_ll, eqo_ld, eqo_dn, eqo_db, eqo_di, eqo_ds, eqo_dt, eqo_dl, eqo_dd, inOk, D.flat, xTup, aNil, aCons, mSet, plain_str, plain_tup, plain_int, plain_bl, plains_nil, plains_cons, eqb_str, eqb_int, eqb_bl, eqb_tup, eqbs_nil, eqbs_cn, eqbs_nc, eqbs_cc, eqb_nn, eqb_nb, eqb_ni, eqb_ns, eqb_nt, eqb_nl, eqb_nd, eqb_bn, eqb_bi, eqb_bs, eqb_bt, eqb_b_l, eqb_bd, eqb_in, eqb_ib, eqb_is, eqb_it, eqb_il, eqb_id, eqb_sn, eqb_sb, eqb_si, eqb_sl, eqb_sd, eqb_tn, eqb_tb, eqb_ti, eqb_tl, eqb_td, eqb_ln, eqb_lb, eqb_li, eqb_ls, eqb_lt, eqb_ll, eqb_ld, eqb_dn, eqb_db, eqb_di, eqb_ds, eqb_dt, eqb_dl, eqb_dd, plain_non, plain_lst, plain_dic, eqb_st, eqb_ts, xLen, bip, xIdx, mIdx, index, mItems, mList, xCall, pp_call, xBin, bop_ai, bop_as, bop_at, bop_al, bop_si, bop_mi, bop_ml, bop_mt, bop_ms, bop_mo, bop_fd, bop_pw, SZ, mSlc, mPart, slice, gUnp, gCon, gEnd, mLst, M.bad, mChn, sFor, loopM, xBi, xFz, fLst, mCalk, srcOf, isn_n, isn_b, isn_i, isn_s, isn_t, isn_l, isn_d, isn_r, isn_enc, gStar, dget, atI, fComp, noX, Res.noX, mWipe, cmpR, wipeE, blsOf, intsOf, txtsOf, cut, sIx, mZs, zsOf, zipD, mZip, zipOf, mRng1, mRng2, rngD, mCount, mIndexL, mMt, tyIs, mtp, findD, sTryAs, mIsE, noEx, sPar, sPar3, xRev, revD, sTry, reps, b_106, e1, e2, e3]
theorem loose_form (T : Tb) [Fn T 107 fd_107] (f : Form) : ∀ (g : Form) (k : Nat) (S : Sto), hgt f < k → hgt f ≤ 50 → hgt g ≤ 50 → callT T k 107 [enc f, enc g] S = .ok (.bl (loose f g)) S := by
  induction f with
  | any =>
    intro g k S hk hf hg
    obtain ⟨k, rfl⟩ : ∃ j, k = j + 1 := ⟨k - 1, by omega⟩
    rw [call_step]
    have hp := plain_enc g 60 (by omega)
    cases g <;> (simp only [enc] at hp; simp (decide := true) [runD, enc, sSeq, sIf, sRet, sNx, sAsg, sEx, sRai, ↓mb, Res.bind, mp, M.of, mT, xIsi, mBor, mVar, isTy, mTruth, truth, mOr, mAnd, mIte, mNot, xCmp, cop, eqo_nn, eqo_nb, eqo_ni, eqo_ns, eqo_nt, eqo_nl, eqo_nd, eqo_bn, eqo_bb, eqo_bi, eqo_bs, eqo_bt, eqo_bl, eqo_bd, eqo_in, eqo_ib, eqo_ii, eqo_is, eqo_it, eqo_il, eqo_id, eqo_sn, eqo_sb, eqo_si, eqo_ss, eqo_st, eqo_sl, eqo_sd, eqo_tn, eqo_tb, eqo_ti, eqo_ts, eqo_tt, eqo_tl, eqo_td, eqo_ln, eqo_lb, eqo_li, eqo_ls, eqo_lt, eqo_ll, eqo_ld, eqo_dn, eqo_db, eqo_di, eqo_ds, eqo_dt, eqo_dl, eqo_dd, inOk, D.flat, xTup, aNil, aCons, mSet, plain_str, plain_tup, plain_int, plain_bl, plains_nil, plains_cons, eqb_str, eqb_int, eqb_bl, eqb_tup, eqbs_nil, eqbs_cn, eqbs_nc, eqbs_cc, eqb_nn, eqb_nb, eqb_ni, eqb_ns, eqb_nt, eqb_nl, eqb_nd, eqb_bn, eqb_bi, eqb_bs, eqb_bt, eqb_b_l, eqb_bd, eqb_in, eqb_ib, eqb_is, eqb_it, eqb_il, eqb_id, eqb_sn, eqb_sb, eqb_si, eqb_sl, eqb_sd, eqb_tn, eqb_tb, eqb_ti, eqb_tl, eqb_td, eqb_ln, eqb_lb, eqb_li, eqb_ls, eqb_lt, eqb_ll, eqb_ld, eqb_dn, eqb_db, eqb_di, eqb_ds, eqb_dt, eqb_dl, eqb_dd, plain_non, plain_lst, plain_dic, eqb_st, eqb_ts, xLen, bip, xIdx, mIdx, index, mItems, mList, xCall, pp_call, xBin, bop_ai, bop_as, bop_at, bop_al, bop_si, bop_mi, bop_ml, bop_mt, bop_ms, bop_mo, bop_fd, bop_pw, SZ, mSlc, mPart, slice, gUnp, gCon, gEnd, mLst, M.bad, mChn, sFor, loopM, xBi, xFz, fLst, mCalk, srcOf, isn_n, isn_b, isn_i, isn_s, isn_t, isn_l, isn_d, isn_r, isn_enc, gStar, dget, atI, fComp, noX, Res.noX, mWipe, cmpR, wipeE, blsOf, intsOf, txtsOf, cut, sIx, mZs, zsOf, zipD, mZip, zipOf, mRng1, mRng2, rngD, mCount, mIndexL, mMt, tyIs, mtp, findD, sTryAs, mIsE, noEx, sPar, sPar3, xRev, revD, sTry, reps, b_107, loose, hp])
  | num =>
    intro g k S hk hf hg
    obtain ⟨k, rfl⟩ : ∃ j, k = j + 1 := ⟨k - 1, by omega⟩
    rw [call_step]
    have hp := plain_enc g 60 (by omega)
    cases g <;> (simp only [enc] at hp; simp (decide := true) [runD, enc, sSeq, sIf, sRet, sNx, sAsg, sEx, sRai, ↓mb, Res.bind, mp, M.of, mT, xIsi, mBor, mVar, isTy, mTruth, truth, mOr, mAnd, mIte, mNot, xCmp, cop, eqo_nn, eqo_nb, eqo_ni, eqo_ns, eqo_nt, eqo_nl, eqo_nd, eqo_bn, eqo_bb, eqo_bi, eqo_bs, eqo_bt, eqo_bl, eqo_bd, eqo_in, eqo_ib, eqo_ii, eqo_is, eqo_it, eqo_il, eqo_id, eqo_sn, eqo_sb, eqo_si, eqo_ss, eqo_st, eqo_sl, eqo_sd, eqo_tn, eqo_tb, eqo_ti, eqo_ts, eqo_tt, eqo_tl, eqo_td, eqo_ln, eqo_lb, eqo_li, eqo_ls, eqo_lt, eqo_ll, eqo_ld, eqo_dn, eqo_db, eqo_di, eqo_ds, eqo_dt, eqo_dl, eqo_dd, inOk, D.flat, xTup, aNil, aCons, mSet, plain_str, plain_tup, plain_int, plain_bl, plains_nil, plains_cons, eqb_str, eqb_int, eqb_bl, eqb_tup, eqbs_nil, eqbs_cn, eqbs_nc, eqbs_cc, eqb_nn, eqb_nb, eqb_ni, eqb_ns, eqb_nt, eqb_nl, eqb_nd, eqb_bn, eqb_bi, eqb_bs, eqb_bt, eqb_b_l, eqb_bd, eqb_in, eqb_ib, eqb_is, eqb_it, eqb_il, eqb_id, eqb_sn, eqb_sb, eqb_si, eqb_sl, eqb_sd, eqb_tn, eqb_tb, eqb_ti, eqb_tl, eqb_td, eqb_ln, eqb_lb, eqb_li, eqb_ls, eqb_lt, eqb_ll, eqb_ld, eqb_dn, eqb_db, eqb_di, eqb_ds, eqb_dt, eqb_dl, eqb_dd, plain_non, plain_lst, plain_dic, eqb_st, eqb_ts, xLen, bip, xIdx, mIdx, index, mItems, mList, xCall, pp_call, xBin, bop_ai, bop_as, bop_at, bop_al, bop_si, bop_mi, bop_ml, bop_mt, bop_ms, bop_mo, bop_fd, bop_pw, SZ, mSlc, mPart, slice, gUnp, gCon, gEnd, mLst, M.bad, mChn, sFor, loopM, xBi, xFz, fLst, mCalk, srcOf, isn_n, isn_b, isn_i, isn_s, isn_t, isn_l, isn_d, isn_r, isn_enc, gStar, dget, atI, fComp, noX, Res.noX, mWipe, cmpR, wipeE, blsOf, intsOf, txtsOf, cut, sIx, mZs, zsOf, zipD, mZip, zipOf, mRng1, mRng2, rngD, mCount, mIndexL, mMt, tyIs, mtp, findD, sTryAs, mIsE, noEx, sPar, sPar3, xRev, revD, sTry, reps, b_107, loose, hp])
  | text =>
    intro g k S hk hf hg
    obtain ⟨k, rfl⟩ : ∃ j, k = j + 1 := ⟨k - 1, by omega⟩
    rw [call_step]
    have hp := plain_enc g 60 (by omega)
    cases g <;> (simp only [enc] at hp; simp (decide := true) [runD, enc, sSeq, sIf, sRet, sNx, sAsg, sEx, sRai, ↓mb, Res.bind, mp, M.of, mT, xIsi, mBor, mVar, isTy, mTruth, truth, mOr, mAnd, mIte, mNot, xCmp, cop, eqo_nn, eqo_nb, eqo_ni, eqo_ns, eqo_nt, eqo_nl, eqo_nd, eqo_bn, eqo_bb, eqo_bi, eqo_bs, eqo_bt, eqo_bl, eqo_bd, eqo_in, eqo_ib, eqo_ii, eqo_is, eqo_it, eqo_il, eqo_id, eqo_sn, eqo_sb, eqo_si, eqo_ss, eqo_st, eqo_sl, eqo_sd, eqo_tn, eqo_tb, eqo_ti, eqo_ts, eqo_tt, eqo_tl, eqo_td, eqo_ln, eqo_lb, eqo_li, eqo_ls, eqo_lt, eqo_ll, eqo_ld, eqo_dn, eqo_db, eqo_di, eqo_ds, eqo_dt, eqo_dl, eqo_dd, inOk, D.flat, xTup, aNil, aCons, mSet, plain_str, plain_tup, plain_int, plain_bl, plains_nil, plains_cons, eqb_str, eqb_int, eqb_bl, eqb_tup, eqbs_nil, eqbs_cn, eqbs_nc, eqbs_cc, eqb_nn, eqb_nb, eqb_ni, eqb_ns, eqb_nt, eqb_nl, eqb_nd, eqb_bn, eqb_bi, eqb_bs, eqb_bt, eqb_b_l, eqb_bd, eqb_in, eqb_ib, eqb_is, eqb_it, eqb_il, eqb_id, eqb_sn, eqb_sb, eqb_si, eqb_sl, eqb_sd, eqb_tn, eqb_tb, eqb_ti, eqb_tl, eqb_td, eqb_ln, eqb_lb, eqb_li, eqb_ls, eqb_lt, eqb_ll, eqb_ld, eqb_dn, eqb_db, eqb_di, eqb_ds, eqb_dt, eqb_dl, eqb_dd, plain_non, plain_lst, plain_dic, eqb_st, eqb_ts, xLen, bip, xIdx, mIdx, index, mItems, mList, xCall, pp_call, xBin, bop_ai, bop_as, bop_at, bop_al, bop_si, bop_mi, bop_ml, bop_mt, bop_ms, bop_mo, bop_fd, bop_pw, SZ, mSlc, mPart, slice, gUnp, gCon, gEnd, mLst, M.bad, mChn, sFor, loopM, xBi, xFz, fLst, mCalk, srcOf, isn_n, isn_b, isn_i, isn_s, isn_t, isn_l, isn_d, isn_r, isn_enc, gStar, dget, atI, fComp, noX, Res.noX, mWipe, cmpR, wipeE, blsOf, intsOf, txtsOf, cut, sIx, mZs, zsOf, zipD, mZip, zipOf, mRng1, mRng2, rngD, mCount, mIndexL, mMt, tyIs, mtp, findD, sTryAs, mIsE, noEx, sPar, sPar3, xRev, revD, sTry, reps, b_107, loose, hp])
  | deed a b iha ihb =>
    intro g k S hk hf hg
    obtain ⟨k, rfl⟩ : ∃ j, k = j + 1 := ⟨k - 1, by omega⟩
    rw [call_step]
    have hp1 := plain_deed 60 a b (by omega)
    have hp := plain_enc g 60 (by omega)
    simp only [hgt] at hk hf
    cases g with
    | deed c d =>
      simp only [hgt] at hg
      have ea := iha c k S (by omega) (by omega) (by omega)
      have eb := ihb d k S (by omega) (by omega) (by omega)
      simp only [enc] at hp
      simp (decide := true) [runD, enc, sSeq, sIf, sRet, sNx, sAsg, sEx, sRai, ↓mb, Res.bind, mp, M.of, mT, xIsi, mBor, mVar, isTy, mTruth, truth, mOr, mAnd, mIte, mNot, xCmp, cop, eqo_nn, eqo_nb, eqo_ni, eqo_ns, eqo_nt, eqo_nl, eqo_nd, eqo_bn, eqo_bb, eqo_bi, eqo_bs, eqo_bt, eqo_bl, eqo_bd, eqo_in, eqo_ib, eqo_ii, eqo_is, eqo_it, eqo_il, eqo_id, eqo_sn, eqo_sb, eqo_si, eqo_ss, eqo_st, eqo_sl, eqo_sd, eqo_tn, eqo_tb, eqo_ti, eqo_ts, eqo_tt, eqo_tl, eqo_td, eqo_ln, eqo_lb, eqo_li, eqo_ls, eqo_lt, eqo_ll, eqo_ld, eqo_dn, eqo_db, eqo_di, eqo_ds, eqo_dt, eqo_dl, eqo_dd, inOk, D.flat, xTup, aNil, aCons, mSet, plain_str, plain_tup, plain_int, plain_bl, plains_nil, plains_cons, eqb_str, eqb_int, eqb_bl, eqb_tup, eqbs_nil, eqbs_cn, eqbs_nc, eqbs_cc, eqb_nn, eqb_nb, eqb_ni, eqb_ns, eqb_nt, eqb_nl, eqb_nd, eqb_bn, eqb_bi, eqb_bs, eqb_bt, eqb_b_l, eqb_bd, eqb_in, eqb_ib, eqb_is, eqb_it, eqb_il, eqb_id, eqb_sn, eqb_sb, eqb_si, eqb_sl, eqb_sd, eqb_tn, eqb_tb, eqb_ti, eqb_tl, eqb_td, eqb_ln, eqb_lb, eqb_li, eqb_ls, eqb_lt, eqb_ll, eqb_ld, eqb_dn, eqb_db, eqb_di, eqb_ds, eqb_dt, eqb_dl, eqb_dd, plain_non, plain_lst, plain_dic, eqb_st, eqb_ts, xLen, bip, xIdx, mIdx, index, mItems, mList, xCall, pp_call, xBin, bop_ai, bop_as, bop_at, bop_al, bop_si, bop_mi, bop_ml, bop_mt, bop_ms, bop_mo, bop_fd, bop_pw, SZ, mSlc, mPart, slice, gUnp, gCon, gEnd, mLst, M.bad, mChn, sFor, loopM, xBi, xFz, fLst, mCalk, srcOf, isn_n, isn_b, isn_i, isn_s, isn_t, isn_l, isn_d, isn_r, isn_enc, gStar, dget, atI, fComp, noX, Res.noX, mWipe, cmpR, wipeE, blsOf, intsOf, txtsOf, cut, sIx, mZs, zsOf, zipD, mZip, zipOf, mRng1, mRng2, rngD, mCount, mIndexL, mMt, tyIs, mtp, findD, sTryAs, mIsE, noEx, sPar, sPar3, xRev, revD, sTry, reps, b_107, loose, hp1, hp, ea, eb]
    | _ => simp only [enc] at hp; simp (decide := true) [runD, enc, sSeq, sIf, sRet, sNx, sAsg, sEx, sRai, ↓mb, Res.bind, mp, M.of, mT, xIsi, mBor, mVar, isTy, mTruth, truth, mOr, mAnd, mIte, mNot, xCmp, cop, eqo_nn, eqo_nb, eqo_ni, eqo_ns, eqo_nt, eqo_nl, eqo_nd, eqo_bn, eqo_bb, eqo_bi, eqo_bs, eqo_bt, eqo_bl, eqo_bd, eqo_in, eqo_ib, eqo_ii, eqo_is, eqo_it, eqo_il, eqo_id, eqo_sn, eqo_sb, eqo_si, eqo_ss, eqo_st, eqo_sl, eqo_sd, eqo_tn, eqo_tb, eqo_ti, eqo_ts, eqo_tt, eqo_tl, eqo_td, eqo_ln, eqo_lb, eqo_li, eqo_ls, eqo_lt, eqo_ll, eqo_ld, eqo_dn, eqo_db, eqo_di, eqo_ds, eqo_dt, eqo_dl, eqo_dd, inOk, D.flat, xTup, aNil, aCons, mSet, plain_str, plain_tup, plain_int, plain_bl, plains_nil, plains_cons, eqb_str, eqb_int, eqb_bl, eqb_tup, eqbs_nil, eqbs_cn, eqbs_nc, eqbs_cc, eqb_nn, eqb_nb, eqb_ni, eqb_ns, eqb_nt, eqb_nl, eqb_nd, eqb_bn, eqb_bi, eqb_bs, eqb_bt, eqb_b_l, eqb_bd, eqb_in, eqb_ib, eqb_is, eqb_it, eqb_il, eqb_id, eqb_sn, eqb_sb, eqb_si, eqb_sl, eqb_sd, eqb_tn, eqb_tb, eqb_ti, eqb_tl, eqb_td, eqb_ln, eqb_lb, eqb_li, eqb_ls, eqb_lt, eqb_ll, eqb_ld, eqb_dn, eqb_db, eqb_di, eqb_ds, eqb_dt, eqb_dl, eqb_dd, plain_non, plain_lst, plain_dic, eqb_st, eqb_ts, xLen, bip, xIdx, mIdx, index, mItems, mList, xCall, pp_call, xBin, bop_ai, bop_as, bop_at, bop_al, bop_si, bop_mi, bop_ml, bop_mt, bop_ms, bop_mo, bop_fd, bop_pw, SZ, mSlc, mPart, slice, gUnp, gCon, gEnd, mLst, M.bad, mChn, sFor, loopM, xBi, xFz, fLst, mCalk, srcOf, isn_n, isn_b, isn_i, isn_s, isn_t, isn_l, isn_d, isn_r, isn_enc, gStar, dget, atI, fComp, noX, Res.noX, mWipe, cmpR, wipeE, blsOf, intsOf, txtsOf, cut, sIx, mZs, zsOf, zipD, mZip, zipOf, mRng1, mRng2, rngD, mCount, mIndexL, mMt, tyIs, mtp, findD, sTryAs, mIsE, noEx, sPar, sPar3, xRev, revD, sTry, reps, b_107, loose, hp1, hp]
  | box a iha =>
    intro g k S hk hf hg
    obtain ⟨k, rfl⟩ : ∃ j, k = j + 1 := ⟨k - 1, by omega⟩
    rw [call_step]
    have hp1 := plain_box 60 a (by omega)
    have hp := plain_enc g 60 (by omega)
    simp only [hgt] at hk hf
    cases g with
    | box c =>
      simp only [hgt] at hg
      have ea := iha c k S (by omega) (by omega) (by omega)
      simp only [enc] at hp
      simp (decide := true) [runD, enc, sSeq, sIf, sRet, sNx, sAsg, sEx, sRai, ↓mb, Res.bind, mp, M.of, mT, xIsi, mBor, mVar, isTy, mTruth, truth, mOr, mAnd, mIte, mNot, xCmp, cop, eqo_nn, eqo_nb, eqo_ni, eqo_ns, eqo_nt, eqo_nl, eqo_nd, eqo_bn, eqo_bb, eqo_bi, eqo_bs, eqo_bt, eqo_bl, eqo_bd, eqo_in, eqo_ib, eqo_ii, eqo_is, eqo_it, eqo_il, eqo_id, eqo_sn, eqo_sb, eqo_si, eqo_ss, eqo_st, eqo_sl, eqo_sd, eqo_tn, eqo_tb, eqo_ti, eqo_ts, eqo_tt, eqo_tl, eqo_td, eqo_ln, eqo_lb, eqo_li, eqo_ls, eqo_lt, eqo_ll, eqo_ld, eqo_dn, eqo_db, eqo_di, eqo_ds, eqo_dt, eqo_dl, eqo_dd, inOk, D.flat, xTup, aNil, aCons, mSet, plain_str, plain_tup, plain_int, plain_bl, plains_nil, plains_cons, eqb_str, eqb_int, eqb_bl, eqb_tup, eqbs_nil, eqbs_cn, eqbs_nc, eqbs_cc, eqb_nn, eqb_nb, eqb_ni, eqb_ns, eqb_nt, eqb_nl, eqb_nd, eqb_bn, eqb_bi, eqb_bs, eqb_bt, eqb_b_l, eqb_bd, eqb_in, eqb_ib, eqb_is, eqb_it, eqb_il, eqb_id, eqb_sn, eqb_sb, eqb_si, eqb_sl, eqb_sd, eqb_tn, eqb_tb, eqb_ti, eqb_tl, eqb_td, eqb_ln, eqb_lb, eqb_li, eqb_ls, eqb_lt, eqb_ll, eqb_ld, eqb_dn, eqb_db, eqb_di, eqb_ds, eqb_dt, eqb_dl, eqb_dd, plain_non, plain_lst, plain_dic, eqb_st, eqb_ts, xLen, bip, xIdx, mIdx, index, mItems, mList, xCall, pp_call, xBin, bop_ai, bop_as, bop_at, bop_al, bop_si, bop_mi, bop_ml, bop_mt, bop_ms, bop_mo, bop_fd, bop_pw, SZ, mSlc, mPart, slice, gUnp, gCon, gEnd, mLst, M.bad, mChn, sFor, loopM, xBi, xFz, fLst, mCalk, srcOf, isn_n, isn_b, isn_i, isn_s, isn_t, isn_l, isn_d, isn_r, isn_enc, gStar, dget, atI, fComp, noX, Res.noX, mWipe, cmpR, wipeE, blsOf, intsOf, txtsOf, cut, sIx, mZs, zsOf, zipD, mZip, zipOf, mRng1, mRng2, rngD, mCount, mIndexL, mMt, tyIs, mtp, findD, sTryAs, mIsE, noEx, sPar, sPar3, xRev, revD, sTry, reps, b_107, loose, hp1, hp, ea]
    | _ => simp only [enc] at hp; simp (decide := true) [runD, enc, sSeq, sIf, sRet, sNx, sAsg, sEx, sRai, ↓mb, Res.bind, mp, M.of, mT, xIsi, mBor, mVar, isTy, mTruth, truth, mOr, mAnd, mIte, mNot, xCmp, cop, eqo_nn, eqo_nb, eqo_ni, eqo_ns, eqo_nt, eqo_nl, eqo_nd, eqo_bn, eqo_bb, eqo_bi, eqo_bs, eqo_bt, eqo_bl, eqo_bd, eqo_in, eqo_ib, eqo_ii, eqo_is, eqo_it, eqo_il, eqo_id, eqo_sn, eqo_sb, eqo_si, eqo_ss, eqo_st, eqo_sl, eqo_sd, eqo_tn, eqo_tb, eqo_ti, eqo_ts, eqo_tt, eqo_tl, eqo_td, eqo_ln, eqo_lb, eqo_li, eqo_ls, eqo_lt, eqo_ll, eqo_ld, eqo_dn, eqo_db, eqo_di, eqo_ds, eqo_dt, eqo_dl, eqo_dd, inOk, D.flat, xTup, aNil, aCons, mSet, plain_str, plain_tup, plain_int, plain_bl, plains_nil, plains_cons, eqb_str, eqb_int, eqb_bl, eqb_tup, eqbs_nil, eqbs_cn, eqbs_nc, eqbs_cc, eqb_nn, eqb_nb, eqb_ni, eqb_ns, eqb_nt, eqb_nl, eqb_nd, eqb_bn, eqb_bi, eqb_bs, eqb_bt, eqb_b_l, eqb_bd, eqb_in, eqb_ib, eqb_is, eqb_it, eqb_il, eqb_id, eqb_sn, eqb_sb, eqb_si, eqb_sl, eqb_sd, eqb_tn, eqb_tb, eqb_ti, eqb_tl, eqb_td, eqb_ln, eqb_lb, eqb_li, eqb_ls, eqb_lt, eqb_ll, eqb_ld, eqb_dn, eqb_db, eqb_di, eqb_ds, eqb_dt, eqb_dl, eqb_dd, plain_non, plain_lst, plain_dic, eqb_st, eqb_ts, xLen, bip, xIdx, mIdx, index, mItems, mList, xCall, pp_call, xBin, bop_ai, bop_as, bop_at, bop_al, bop_si, bop_mi, bop_ml, bop_mt, bop_ms, bop_mo, bop_fd, bop_pw, SZ, mSlc, mPart, slice, gUnp, gCon, gEnd, mLst, M.bad, mChn, sFor, loopM, xBi, xFz, fLst, mCalk, srcOf, isn_n, isn_b, isn_i, isn_s, isn_t, isn_l, isn_d, isn_r, isn_enc, gStar, dget, atI, fComp, noX, Res.noX, mWipe, cmpR, wipeE, blsOf, intsOf, txtsOf, cut, sIx, mZs, zsOf, zipD, mZip, zipOf, mRng1, mRng2, rngD, mCount, mIndexL, mMt, tyIs, mtp, findD, sTryAs, mIsE, noEx, sPar, sPar3, xRev, revD, sTry, reps, b_107, loose, hp1, hp]
theorem is_looser (T : Tb) [Fn T 101 fd_101] [Fn T 102 fd_102] [Fn T 104 fd_104] [Fn T 107 fd_107] [Fn T 108 fd_108] (f g : Form) (k : Nat) (S : Sto) (hk : 11 < k) (hf : hgt f ≤ 5) (hg : hgt g ≤ 5) : callT T k 108 [enc f, enc g] S = .ok (.bl (loose f g)) S := by
  obtain ⟨k, rfl⟩ : ∃ j, k = j + 1 := ⟨k - 1, by omega⟩
  rw [call_step]
  have e1 := want_forms T f k S (by omega) hf
  have e2 := want_forms T g k S (by omega) hg
  have e3 := loose_form T f g k S (by omega) (by omega) (by omega)
  simp (decide := true) [runD, enc, sSeq, sIf, sRet, sNx, sAsg, sEx, sRai, ↓mb, Res.bind, mp, M.of, mT, xIsi, mBor, mVar, isTy, mTruth, truth, mOr, mAnd, mIte, mNot, xCmp, cop, eqo_nn, eqo_nb, eqo_ni, eqo_ns, eqo_nt, eqo_nl, eqo_nd, eqo_bn, eqo_bb, eqo_bi, eqo_bs, eqo_bt, eqo_bl, eqo_bd, eqo_in, eqo_ib, eqo_ii, eqo_is, eqo_it, eqo_il, eqo_id, eqo_sn, eqo_sb, eqo_si, eqo_ss, eqo_st, eqo_sl, eqo_sd, eqo_tn, eqo_tb, eqo_ti, eqo_ts, eqo_tt, eqo_tl, eqo_td, eqo_ln, eqo_lb, eqo_li, eqo_ls, eqo_lt, eqo_ll, eqo_ld, eqo_dn, eqo_db, eqo_di, eqo_ds, eqo_dt, eqo_dl, eqo_dd, inOk, D.flat, xTup, aNil, aCons, mSet, plain_str, plain_tup, plain_int, plain_bl, plains_nil, plains_cons, eqb_str, eqb_int, eqb_bl, eqb_tup, eqbs_nil, eqbs_cn, eqbs_nc, eqbs_cc, eqb_nn, eqb_nb, eqb_ni, eqb_ns, eqb_nt, eqb_nl, eqb_nd, eqb_bn, eqb_bi, eqb_bs, eqb_bt, eqb_b_l, eqb_bd, eqb_in, eqb_ib, eqb_is, eqb_it, eqb_il, eqb_id, eqb_sn, eqb_sb, eqb_si, eqb_sl, eqb_sd, eqb_tn, eqb_tb, eqb_ti, eqb_tl, eqb_td, eqb_ln, eqb_lb, eqb_li, eqb_ls, eqb_lt, eqb_ll, eqb_ld, eqb_dn, eqb_db, eqb_di, eqb_ds, eqb_dt, eqb_dl, eqb_dd, plain_non, plain_lst, plain_dic, eqb_st, eqb_ts, xLen, bip, xIdx, mIdx, index, mItems, mList, xCall, pp_call, xBin, bop_ai, bop_as, bop_at, bop_al, bop_si, bop_mi, bop_ml, bop_mt, bop_ms, bop_mo, bop_fd, bop_pw, SZ, mSlc, mPart, slice, gUnp, gCon, gEnd, mLst, M.bad, mChn, sFor, loopM, xBi, xFz, fLst, mCalk, srcOf, isn_n, isn_b, isn_i, isn_s, isn_t, isn_l, isn_d, isn_r, isn_enc, gStar, dget, atI, fComp, noX, Res.noX, mWipe, cmpR, wipeE, blsOf, intsOf, txtsOf, cut, sIx, mZs, zsOf, zipD, mZip, zipOf, mRng1, mRng2, rngD, mCount, mIndexL, mMt, tyIs, mtp, findD, sTryAs, mIsE, noEx, sPar, sPar3, xRev, revD, sTry, reps, b_108, e1, e2, e3]
theorem met_forms (T : Tb) [Fn T 109 fd_109] (f : Form) : ∀ (g : Form) (k : Nat) (S : Sto), hgt f < k → hgt f ≤ 50 → hgt g ≤ 50 → near f g = true → callT T k 109 [enc f, enc g] S = .ok (enc (meet f g)) S := by
  induction f with
  | any =>
    intro g k S hk hf hg hn
    obtain ⟨k, rfl⟩ : ∃ j, k = j + 1 := ⟨k - 1, by omega⟩
    rw [call_step]
    simp (decide := true) [runD, enc, sSeq, sIf, sRet, sNx, sAsg, sEx, sRai, ↓mb, Res.bind, mp, M.of, mT, xIsi, mBor, mVar, isTy, mTruth, truth, mOr, mAnd, mIte, mNot, xCmp, cop, eqo_nn, eqo_nb, eqo_ni, eqo_ns, eqo_nt, eqo_nl, eqo_nd, eqo_bn, eqo_bb, eqo_bi, eqo_bs, eqo_bt, eqo_bl, eqo_bd, eqo_in, eqo_ib, eqo_ii, eqo_is, eqo_it, eqo_il, eqo_id, eqo_sn, eqo_sb, eqo_si, eqo_ss, eqo_st, eqo_sl, eqo_sd, eqo_tn, eqo_tb, eqo_ti, eqo_ts, eqo_tt, eqo_tl, eqo_td, eqo_ln, eqo_lb, eqo_li, eqo_ls, eqo_lt, eqo_ll, eqo_ld, eqo_dn, eqo_db, eqo_di, eqo_ds, eqo_dt, eqo_dl, eqo_dd, inOk, D.flat, xTup, aNil, aCons, mSet, plain_str, plain_tup, plain_int, plain_bl, plains_nil, plains_cons, eqb_str, eqb_int, eqb_bl, eqb_tup, eqbs_nil, eqbs_cn, eqbs_nc, eqbs_cc, eqb_nn, eqb_nb, eqb_ni, eqb_ns, eqb_nt, eqb_nl, eqb_nd, eqb_bn, eqb_bi, eqb_bs, eqb_bt, eqb_b_l, eqb_bd, eqb_in, eqb_ib, eqb_is, eqb_it, eqb_il, eqb_id, eqb_sn, eqb_sb, eqb_si, eqb_sl, eqb_sd, eqb_tn, eqb_tb, eqb_ti, eqb_tl, eqb_td, eqb_ln, eqb_lb, eqb_li, eqb_ls, eqb_lt, eqb_ll, eqb_ld, eqb_dn, eqb_db, eqb_di, eqb_ds, eqb_dt, eqb_dl, eqb_dd, plain_non, plain_lst, plain_dic, eqb_st, eqb_ts, xLen, bip, xIdx, mIdx, index, mItems, mList, xCall, pp_call, xBin, bop_ai, bop_as, bop_at, bop_al, bop_si, bop_mi, bop_ml, bop_mt, bop_ms, bop_mo, bop_fd, bop_pw, SZ, mSlc, mPart, slice, gUnp, gCon, gEnd, mLst, M.bad, mChn, sFor, loopM, xBi, xFz, fLst, mCalk, srcOf, isn_n, isn_b, isn_i, isn_s, isn_t, isn_l, isn_d, isn_r, isn_enc, gStar, dget, atI, fComp, noX, Res.noX, mWipe, cmpR, wipeE, blsOf, intsOf, txtsOf, cut, sIx, mZs, zsOf, zipD, mZip, zipOf, mRng1, mRng2, rngD, mCount, mIndexL, mMt, tyIs, mtp, findD, sTryAs, mIsE, noEx, sPar, sPar3, xRev, revD, sTry, reps, b_109, meet]
  | num =>
    intro g k S hk hf hg hn
    obtain ⟨k, rfl⟩ : ∃ j, k = j + 1 := ⟨k - 1, by omega⟩
    rw [call_step]
    cases g <;> first | (simp [near] at hn; done) | simp (decide := true) [runD, enc, sSeq, sIf, sRet, sNx, sAsg, sEx, sRai, ↓mb, Res.bind, mp, M.of, mT, xIsi, mBor, mVar, isTy, mTruth, truth, mOr, mAnd, mIte, mNot, xCmp, cop, eqo_nn, eqo_nb, eqo_ni, eqo_ns, eqo_nt, eqo_nl, eqo_nd, eqo_bn, eqo_bb, eqo_bi, eqo_bs, eqo_bt, eqo_bl, eqo_bd, eqo_in, eqo_ib, eqo_ii, eqo_is, eqo_it, eqo_il, eqo_id, eqo_sn, eqo_sb, eqo_si, eqo_ss, eqo_st, eqo_sl, eqo_sd, eqo_tn, eqo_tb, eqo_ti, eqo_ts, eqo_tt, eqo_tl, eqo_td, eqo_ln, eqo_lb, eqo_li, eqo_ls, eqo_lt, eqo_ll, eqo_ld, eqo_dn, eqo_db, eqo_di, eqo_ds, eqo_dt, eqo_dl, eqo_dd, inOk, D.flat, xTup, aNil, aCons, mSet, plain_str, plain_tup, plain_int, plain_bl, plains_nil, plains_cons, eqb_str, eqb_int, eqb_bl, eqb_tup, eqbs_nil, eqbs_cn, eqbs_nc, eqbs_cc, eqb_nn, eqb_nb, eqb_ni, eqb_ns, eqb_nt, eqb_nl, eqb_nd, eqb_bn, eqb_bi, eqb_bs, eqb_bt, eqb_b_l, eqb_bd, eqb_in, eqb_ib, eqb_is, eqb_it, eqb_il, eqb_id, eqb_sn, eqb_sb, eqb_si, eqb_sl, eqb_sd, eqb_tn, eqb_tb, eqb_ti, eqb_tl, eqb_td, eqb_ln, eqb_lb, eqb_li, eqb_ls, eqb_lt, eqb_ll, eqb_ld, eqb_dn, eqb_db, eqb_di, eqb_ds, eqb_dt, eqb_dl, eqb_dd, plain_non, plain_lst, plain_dic, eqb_st, eqb_ts, xLen, bip, xIdx, mIdx, index, mItems, mList, xCall, pp_call, xBin, bop_ai, bop_as, bop_at, bop_al, bop_si, bop_mi, bop_ml, bop_mt, bop_ms, bop_mo, bop_fd, bop_pw, SZ, mSlc, mPart, slice, gUnp, gCon, gEnd, mLst, M.bad, mChn, sFor, loopM, xBi, xFz, fLst, mCalk, srcOf, isn_n, isn_b, isn_i, isn_s, isn_t, isn_l, isn_d, isn_r, isn_enc, gStar, dget, atI, fComp, noX, Res.noX, mWipe, cmpR, wipeE, blsOf, intsOf, txtsOf, cut, sIx, mZs, zsOf, zipD, mZip, zipOf, mRng1, mRng2, rngD, mCount, mIndexL, mMt, tyIs, mtp, findD, sTryAs, mIsE, noEx, sPar, sPar3, xRev, revD, sTry, reps, b_109, meet]
  | text =>
    intro g k S hk hf hg hn
    obtain ⟨k, rfl⟩ : ∃ j, k = j + 1 := ⟨k - 1, by omega⟩
    rw [call_step]
    cases g <;> first | (simp [near] at hn; done) | simp (decide := true) [runD, enc, sSeq, sIf, sRet, sNx, sAsg, sEx, sRai, ↓mb, Res.bind, mp, M.of, mT, xIsi, mBor, mVar, isTy, mTruth, truth, mOr, mAnd, mIte, mNot, xCmp, cop, eqo_nn, eqo_nb, eqo_ni, eqo_ns, eqo_nt, eqo_nl, eqo_nd, eqo_bn, eqo_bb, eqo_bi, eqo_bs, eqo_bt, eqo_bl, eqo_bd, eqo_in, eqo_ib, eqo_ii, eqo_is, eqo_it, eqo_il, eqo_id, eqo_sn, eqo_sb, eqo_si, eqo_ss, eqo_st, eqo_sl, eqo_sd, eqo_tn, eqo_tb, eqo_ti, eqo_ts, eqo_tt, eqo_tl, eqo_td, eqo_ln, eqo_lb, eqo_li, eqo_ls, eqo_lt, eqo_ll, eqo_ld, eqo_dn, eqo_db, eqo_di, eqo_ds, eqo_dt, eqo_dl, eqo_dd, inOk, D.flat, xTup, aNil, aCons, mSet, plain_str, plain_tup, plain_int, plain_bl, plains_nil, plains_cons, eqb_str, eqb_int, eqb_bl, eqb_tup, eqbs_nil, eqbs_cn, eqbs_nc, eqbs_cc, eqb_nn, eqb_nb, eqb_ni, eqb_ns, eqb_nt, eqb_nl, eqb_nd, eqb_bn, eqb_bi, eqb_bs, eqb_bt, eqb_b_l, eqb_bd, eqb_in, eqb_ib, eqb_is, eqb_it, eqb_il, eqb_id, eqb_sn, eqb_sb, eqb_si, eqb_sl, eqb_sd, eqb_tn, eqb_tb, eqb_ti, eqb_tl, eqb_td, eqb_ln, eqb_lb, eqb_li, eqb_ls, eqb_lt, eqb_ll, eqb_ld, eqb_dn, eqb_db, eqb_di, eqb_ds, eqb_dt, eqb_dl, eqb_dd, plain_non, plain_lst, plain_dic, eqb_st, eqb_ts, xLen, bip, xIdx, mIdx, index, mItems, mList, xCall, pp_call, xBin, bop_ai, bop_as, bop_at, bop_al, bop_si, bop_mi, bop_ml, bop_mt, bop_ms, bop_mo, bop_fd, bop_pw, SZ, mSlc, mPart, slice, gUnp, gCon, gEnd, mLst, M.bad, mChn, sFor, loopM, xBi, xFz, fLst, mCalk, srcOf, isn_n, isn_b, isn_i, isn_s, isn_t, isn_l, isn_d, isn_r, isn_enc, gStar, dget, atI, fComp, noX, Res.noX, mWipe, cmpR, wipeE, blsOf, intsOf, txtsOf, cut, sIx, mZs, zsOf, zipD, mZip, zipOf, mRng1, mRng2, rngD, mCount, mIndexL, mMt, tyIs, mtp, findD, sTryAs, mIsE, noEx, sPar, sPar3, xRev, revD, sTry, reps, b_109, meet]
  | deed a b iha ihb =>
    intro g k S hk hf hg hn
    obtain ⟨k, rfl⟩ : ∃ j, k = j + 1 := ⟨k - 1, by omega⟩
    rw [call_step]
    have hp1 := plain_deed 60 a b (by omega)
    have hp := plain_enc g 60 (by omega)
    simp only [hgt] at hk hf
    cases g with
    | deed c d =>
      simp only [hgt] at hg
      simp only [near, Bool.and_eq_true] at hn
      have ea := iha c k S (by omega) (by omega) (by omega) hn.1
      have eb := ihb d k S (by omega) (by omega) (by omega) hn.2
      simp only [enc] at hp
      simp (decide := true) [runD, enc, sSeq, sIf, sRet, sNx, sAsg, sEx, sRai, ↓mb, Res.bind, mp, M.of, mT, xIsi, mBor, mVar, isTy, mTruth, truth, mOr, mAnd, mIte, mNot, xCmp, cop, eqo_nn, eqo_nb, eqo_ni, eqo_ns, eqo_nt, eqo_nl, eqo_nd, eqo_bn, eqo_bb, eqo_bi, eqo_bs, eqo_bt, eqo_bl, eqo_bd, eqo_in, eqo_ib, eqo_ii, eqo_is, eqo_it, eqo_il, eqo_id, eqo_sn, eqo_sb, eqo_si, eqo_ss, eqo_st, eqo_sl, eqo_sd, eqo_tn, eqo_tb, eqo_ti, eqo_ts, eqo_tt, eqo_tl, eqo_td, eqo_ln, eqo_lb, eqo_li, eqo_ls, eqo_lt, eqo_ll, eqo_ld, eqo_dn, eqo_db, eqo_di, eqo_ds, eqo_dt, eqo_dl, eqo_dd, inOk, D.flat, xTup, aNil, aCons, mSet, plain_str, plain_tup, plain_int, plain_bl, plains_nil, plains_cons, eqb_str, eqb_int, eqb_bl, eqb_tup, eqbs_nil, eqbs_cn, eqbs_nc, eqbs_cc, eqb_nn, eqb_nb, eqb_ni, eqb_ns, eqb_nt, eqb_nl, eqb_nd, eqb_bn, eqb_bi, eqb_bs, eqb_bt, eqb_b_l, eqb_bd, eqb_in, eqb_ib, eqb_is, eqb_it, eqb_il, eqb_id, eqb_sn, eqb_sb, eqb_si, eqb_sl, eqb_sd, eqb_tn, eqb_tb, eqb_ti, eqb_tl, eqb_td, eqb_ln, eqb_lb, eqb_li, eqb_ls, eqb_lt, eqb_ll, eqb_ld, eqb_dn, eqb_db, eqb_di, eqb_ds, eqb_dt, eqb_dl, eqb_dd, plain_non, plain_lst, plain_dic, eqb_st, eqb_ts, xLen, bip, xIdx, mIdx, index, mItems, mList, xCall, pp_call, xBin, bop_ai, bop_as, bop_at, bop_al, bop_si, bop_mi, bop_ml, bop_mt, bop_ms, bop_mo, bop_fd, bop_pw, SZ, mSlc, mPart, slice, gUnp, gCon, gEnd, mLst, M.bad, mChn, sFor, loopM, xBi, xFz, fLst, mCalk, srcOf, isn_n, isn_b, isn_i, isn_s, isn_t, isn_l, isn_d, isn_r, isn_enc, gStar, dget, atI, fComp, noX, Res.noX, mWipe, cmpR, wipeE, blsOf, intsOf, txtsOf, cut, sIx, mZs, zsOf, zipD, mZip, zipOf, mRng1, mRng2, rngD, mCount, mIndexL, mMt, tyIs, mtp, findD, sTryAs, mIsE, noEx, sPar, sPar3, xRev, revD, sTry, reps, b_109, meet, hp1, hp, ea, eb]
    | any => simp (decide := true) [runD, enc, sSeq, sIf, sRet, sNx, sAsg, sEx, sRai, ↓mb, Res.bind, mp, M.of, mT, xIsi, mBor, mVar, isTy, mTruth, truth, mOr, mAnd, mIte, mNot, xCmp, cop, eqo_nn, eqo_nb, eqo_ni, eqo_ns, eqo_nt, eqo_nl, eqo_nd, eqo_bn, eqo_bb, eqo_bi, eqo_bs, eqo_bt, eqo_bl, eqo_bd, eqo_in, eqo_ib, eqo_ii, eqo_is, eqo_it, eqo_il, eqo_id, eqo_sn, eqo_sb, eqo_si, eqo_ss, eqo_st, eqo_sl, eqo_sd, eqo_tn, eqo_tb, eqo_ti, eqo_ts, eqo_tt, eqo_tl, eqo_td, eqo_ln, eqo_lb, eqo_li, eqo_ls, eqo_lt, eqo_ll, eqo_ld, eqo_dn, eqo_db, eqo_di, eqo_ds, eqo_dt, eqo_dl, eqo_dd, inOk, D.flat, xTup, aNil, aCons, mSet, plain_str, plain_tup, plain_int, plain_bl, plains_nil, plains_cons, eqb_str, eqb_int, eqb_bl, eqb_tup, eqbs_nil, eqbs_cn, eqbs_nc, eqbs_cc, eqb_nn, eqb_nb, eqb_ni, eqb_ns, eqb_nt, eqb_nl, eqb_nd, eqb_bn, eqb_bi, eqb_bs, eqb_bt, eqb_b_l, eqb_bd, eqb_in, eqb_ib, eqb_is, eqb_it, eqb_il, eqb_id, eqb_sn, eqb_sb, eqb_si, eqb_sl, eqb_sd, eqb_tn, eqb_tb, eqb_ti, eqb_tl, eqb_td, eqb_ln, eqb_lb, eqb_li, eqb_ls, eqb_lt, eqb_ll, eqb_ld, eqb_dn, eqb_db, eqb_di, eqb_ds, eqb_dt, eqb_dl, eqb_dd, plain_non, plain_lst, plain_dic, eqb_st, eqb_ts, xLen, bip, xIdx, mIdx, index, mItems, mList, xCall, pp_call, xBin, bop_ai, bop_as, bop_at, bop_al, bop_si, bop_mi, bop_ml, bop_mt, bop_ms, bop_mo, bop_fd, bop_pw, SZ, mSlc, mPart, slice, gUnp, gCon, gEnd, mLst, M.bad, mChn, sFor, loopM, xBi, xFz, fLst, mCalk, srcOf, isn_n, isn_b, isn_i, isn_s, isn_t, isn_l, isn_d, isn_r, isn_enc, gStar, dget, atI, fComp, noX, Res.noX, mWipe, cmpR, wipeE, blsOf, intsOf, txtsOf, cut, sIx, mZs, zsOf, zipD, mZip, zipOf, mRng1, mRng2, rngD, mCount, mIndexL, mMt, tyIs, mtp, findD, sTryAs, mIsE, noEx, sPar, sPar3, xRev, revD, sTry, reps, b_109, meet, hp1]
    | _ => simp [near] at hn
  | box a iha =>
    intro g k S hk hf hg hn
    obtain ⟨k, rfl⟩ : ∃ j, k = j + 1 := ⟨k - 1, by omega⟩
    rw [call_step]
    have hp1 := plain_box 60 a (by omega)
    have hp := plain_enc g 60 (by omega)
    simp only [hgt] at hk hf
    cases g with
    | box c =>
      simp only [hgt] at hg
      simp only [near] at hn
      have ea := iha c k S (by omega) (by omega) (by omega) hn
      simp only [enc] at hp
      simp (decide := true) [runD, enc, sSeq, sIf, sRet, sNx, sAsg, sEx, sRai, ↓mb, Res.bind, mp, M.of, mT, xIsi, mBor, mVar, isTy, mTruth, truth, mOr, mAnd, mIte, mNot, xCmp, cop, eqo_nn, eqo_nb, eqo_ni, eqo_ns, eqo_nt, eqo_nl, eqo_nd, eqo_bn, eqo_bb, eqo_bi, eqo_bs, eqo_bt, eqo_bl, eqo_bd, eqo_in, eqo_ib, eqo_ii, eqo_is, eqo_it, eqo_il, eqo_id, eqo_sn, eqo_sb, eqo_si, eqo_ss, eqo_st, eqo_sl, eqo_sd, eqo_tn, eqo_tb, eqo_ti, eqo_ts, eqo_tt, eqo_tl, eqo_td, eqo_ln, eqo_lb, eqo_li, eqo_ls, eqo_lt, eqo_ll, eqo_ld, eqo_dn, eqo_db, eqo_di, eqo_ds, eqo_dt, eqo_dl, eqo_dd, inOk, D.flat, xTup, aNil, aCons, mSet, plain_str, plain_tup, plain_int, plain_bl, plains_nil, plains_cons, eqb_str, eqb_int, eqb_bl, eqb_tup, eqbs_nil, eqbs_cn, eqbs_nc, eqbs_cc, eqb_nn, eqb_nb, eqb_ni, eqb_ns, eqb_nt, eqb_nl, eqb_nd, eqb_bn, eqb_bi, eqb_bs, eqb_bt, eqb_b_l, eqb_bd, eqb_in, eqb_ib, eqb_is, eqb_it, eqb_il, eqb_id, eqb_sn, eqb_sb, eqb_si, eqb_sl, eqb_sd, eqb_tn, eqb_tb, eqb_ti, eqb_tl, eqb_td, eqb_ln, eqb_lb, eqb_li, eqb_ls, eqb_lt, eqb_ll, eqb_ld, eqb_dn, eqb_db, eqb_di, eqb_ds, eqb_dt, eqb_dl, eqb_dd, plain_non, plain_lst, plain_dic, eqb_st, eqb_ts, xLen, bip, xIdx, mIdx, index, mItems, mList, xCall, pp_call, xBin, bop_ai, bop_as, bop_at, bop_al, bop_si, bop_mi, bop_ml, bop_mt, bop_ms, bop_mo, bop_fd, bop_pw, SZ, mSlc, mPart, slice, gUnp, gCon, gEnd, mLst, M.bad, mChn, sFor, loopM, xBi, xFz, fLst, mCalk, srcOf, isn_n, isn_b, isn_i, isn_s, isn_t, isn_l, isn_d, isn_r, isn_enc, gStar, dget, atI, fComp, noX, Res.noX, mWipe, cmpR, wipeE, blsOf, intsOf, txtsOf, cut, sIx, mZs, zsOf, zipD, mZip, zipOf, mRng1, mRng2, rngD, mCount, mIndexL, mMt, tyIs, mtp, findD, sTryAs, mIsE, noEx, sPar, sPar3, xRev, revD, sTry, reps, b_109, meet, hp1, hp, ea]
    | any => simp (decide := true) [runD, enc, sSeq, sIf, sRet, sNx, sAsg, sEx, sRai, ↓mb, Res.bind, mp, M.of, mT, xIsi, mBor, mVar, isTy, mTruth, truth, mOr, mAnd, mIte, mNot, xCmp, cop, eqo_nn, eqo_nb, eqo_ni, eqo_ns, eqo_nt, eqo_nl, eqo_nd, eqo_bn, eqo_bb, eqo_bi, eqo_bs, eqo_bt, eqo_bl, eqo_bd, eqo_in, eqo_ib, eqo_ii, eqo_is, eqo_it, eqo_il, eqo_id, eqo_sn, eqo_sb, eqo_si, eqo_ss, eqo_st, eqo_sl, eqo_sd, eqo_tn, eqo_tb, eqo_ti, eqo_ts, eqo_tt, eqo_tl, eqo_td, eqo_ln, eqo_lb, eqo_li, eqo_ls, eqo_lt, eqo_ll, eqo_ld, eqo_dn, eqo_db, eqo_di, eqo_ds, eqo_dt, eqo_dl, eqo_dd, inOk, D.flat, xTup, aNil, aCons, mSet, plain_str, plain_tup, plain_int, plain_bl, plains_nil, plains_cons, eqb_str, eqb_int, eqb_bl, eqb_tup, eqbs_nil, eqbs_cn, eqbs_nc, eqbs_cc, eqb_nn, eqb_nb, eqb_ni, eqb_ns, eqb_nt, eqb_nl, eqb_nd, eqb_bn, eqb_bi, eqb_bs, eqb_bt, eqb_b_l, eqb_bd, eqb_in, eqb_ib, eqb_is, eqb_it, eqb_il, eqb_id, eqb_sn, eqb_sb, eqb_si, eqb_sl, eqb_sd, eqb_tn, eqb_tb, eqb_ti, eqb_tl, eqb_td, eqb_ln, eqb_lb, eqb_li, eqb_ls, eqb_lt, eqb_ll, eqb_ld, eqb_dn, eqb_db, eqb_di, eqb_ds, eqb_dt, eqb_dl, eqb_dd, plain_non, plain_lst, plain_dic, eqb_st, eqb_ts, xLen, bip, xIdx, mIdx, index, mItems, mList, xCall, pp_call, xBin, bop_ai, bop_as, bop_at, bop_al, bop_si, bop_mi, bop_ml, bop_mt, bop_ms, bop_mo, bop_fd, bop_pw, SZ, mSlc, mPart, slice, gUnp, gCon, gEnd, mLst, M.bad, mChn, sFor, loopM, xBi, xFz, fLst, mCalk, srcOf, isn_n, isn_b, isn_i, isn_s, isn_t, isn_l, isn_d, isn_r, isn_enc, gStar, dget, atI, fComp, noX, Res.noX, mWipe, cmpR, wipeE, blsOf, intsOf, txtsOf, cut, sIx, mZs, zsOf, zipD, mZip, zipOf, mRng1, mRng2, rngD, mCount, mIndexL, mMt, tyIs, mtp, findD, sTryAs, mIsE, noEx, sPar, sPar3, xRev, revD, sTry, reps, b_109, meet, hp1]
    | _ => simp [near] at hn
theorem met (T : Tb) [Fn T 101 fd_101] [Fn T 102 fd_102] [Fn T 104 fd_104] [Fn T 105 fd_105] [Fn T 106 fd_106] [Fn T 109 fd_109] [Fn T 111 fd_111] (f g : Form) (k : Nat) (S : Sto) (hk : 12 < k) (hf : hgt f ≤ 5) (hg : hgt g ≤ 5) (hn : near f g = true) : callT T k 111 [enc f, enc g] S = .ok (enc (meet f g)) S := by
  obtain ⟨k, rfl⟩ : ∃ j, k = j + 1 := ⟨k - 1, by omega⟩
  rw [call_step]
  have e1 := are_near T f g k S (by omega) hf hg
  have e2 := met_forms T f g k S (by omega) (by omega) (by omega) hn
  rw [hn] at e1
  simp (decide := true) [runD, enc, sSeq, sIf, sRet, sNx, sAsg, sEx, sRai, ↓mb, Res.bind, mp, M.of, mT, xIsi, mBor, mVar, isTy, mTruth, truth, mOr, mAnd, mIte, mNot, xCmp, cop, eqo_nn, eqo_nb, eqo_ni, eqo_ns, eqo_nt, eqo_nl, eqo_nd, eqo_bn, eqo_bb, eqo_bi, eqo_bs, eqo_bt, eqo_bl, eqo_bd, eqo_in, eqo_ib, eqo_ii, eqo_is, eqo_it, eqo_il, eqo_id, eqo_sn, eqo_sb, eqo_si, eqo_ss, eqo_st, eqo_sl, eqo_sd, eqo_tn, eqo_tb, eqo_ti, eqo_ts, eqo_tt, eqo_tl, eqo_td, eqo_ln, eqo_lb, eqo_li, eqo_ls, eqo_lt, eqo_ll, eqo_ld, eqo_dn, eqo_db, eqo_di, eqo_ds, eqo_dt, eqo_dl, eqo_dd, inOk, D.flat, xTup, aNil, aCons, mSet, plain_str, plain_tup, plain_int, plain_bl, plains_nil, plains_cons, eqb_str, eqb_int, eqb_bl, eqb_tup, eqbs_nil, eqbs_cn, eqbs_nc, eqbs_cc, eqb_nn, eqb_nb, eqb_ni, eqb_ns, eqb_nt, eqb_nl, eqb_nd, eqb_bn, eqb_bi, eqb_bs, eqb_bt, eqb_b_l, eqb_bd, eqb_in, eqb_ib, eqb_is, eqb_it, eqb_il, eqb_id, eqb_sn, eqb_sb, eqb_si, eqb_sl, eqb_sd, eqb_tn, eqb_tb, eqb_ti, eqb_tl, eqb_td, eqb_ln, eqb_lb, eqb_li, eqb_ls, eqb_lt, eqb_ll, eqb_ld, eqb_dn, eqb_db, eqb_di, eqb_ds, eqb_dt, eqb_dl, eqb_dd, plain_non, plain_lst, plain_dic, eqb_st, eqb_ts, xLen, bip, xIdx, mIdx, index, mItems, mList, xCall, pp_call, xBin, bop_ai, bop_as, bop_at, bop_al, bop_si, bop_mi, bop_ml, bop_mt, bop_ms, bop_mo, bop_fd, bop_pw, SZ, mSlc, mPart, slice, gUnp, gCon, gEnd, mLst, M.bad, mChn, sFor, loopM, xBi, xFz, fLst, mCalk, srcOf, isn_n, isn_b, isn_i, isn_s, isn_t, isn_l, isn_d, isn_r, isn_enc, gStar, dget, atI, fComp, noX, Res.noX, mWipe, cmpR, wipeE, blsOf, intsOf, txtsOf, cut, sIx, mZs, zsOf, zipD, mZip, zipOf, mRng1, mRng2, rngD, mCount, mIndexL, mMt, tyIs, mtp, findD, sTryAs, mIsE, noEx, sPar, sPar3, xRev, revD, sTry, reps, b_111, e1, e2]


end Ev

set_option Elab.async false
set_option linter.all false
set_option autoImplicit false
set_option maxRecDepth 100000
set_option maxHeartbeats 4000000
namespace Ev
open PySem
namespace Form
def txt : Form → Txt
  | any => [97,110,121] | num => [110,117,109] | text => [116,101,120,116]
  | deed a b => 40 :: (txt a ++ 62 :: (txt b ++ [41]))
  | box a => 91 :: (txt a ++ [93])
theorem txt_len (f : Form) : (txt f).length + 3 ≤ 7 * 2 ^ hgt f := by
  induction f with
  | any => decide
  | num => decide
  | text => decide
  | deed a b iha ihb =>
    simp only [txt, hgt, List.length_cons, List.length_append, List.length_nil]
    have h1 : 2 ^ hgt a ≤ 2 ^ max (hgt a) (hgt b) := Nat.pow_le_pow_right (by decide) (Nat.le_max_left _ _)
    have h2 : 2 ^ hgt b ≤ 2 ^ max (hgt a) (hgt b) := Nat.pow_le_pow_right (by decide) (Nat.le_max_right _ _)
    have e : 2 ^ (1 + max (hgt a) (hgt b)) = 2 * 2 ^ max (hgt a) (hgt b) := by rw [Nat.add_comm, Nat.pow_succ, Nat.mul_comm]
    omega
  | box a iha =>
    simp only [txt, hgt, List.length_cons, List.length_append, List.length_nil]
    have e : 2 ^ (1 + hgt a) = 2 * 2 ^ hgt a := by rw [Nat.add_comm, Nat.pow_succ, Nat.mul_comm]
    have p : 1 ≤ 2 ^ hgt a := Nat.one_le_two_pow
    omega
theorem txt_small (f : Form) (h : hgt f ≤ 5) : (txt f).length ≤ 224 := by
  have h1 := txt_len f
  have h2 : 2 ^ hgt f ≤ 2 ^ 5 := Nat.pow_le_pow_right (by decide) h
  omega
end Form
open Form
theorem text_of_form (T : Tb) [Fn T 135 fd_135] (f : Form) : ∀ (k : Nat) (S : Sto), hgt f < k → hgt f ≤ 50 → (txt f).length ≤ 1000 → callT T k 135 [enc f] S = .ok (.str (txt f)) S := by
  induction f with
  | any =>
    intro k S hk h50 hl
    obtain ⟨k, rfl⟩ : ∃ j, k = j + 1 := ⟨k - 1, by omega⟩
    rw [call_step]
    simp (decide := true) [runD, enc, sSeq, sIf, sRet, sNx, sAsg, sEx, sRai, ↓mb, Res.bind, mp, M.of, mT, xIsi, mBor, mVar, isTy, mTruth, truth, mOr, mAnd, mIte, mNot, xCmp, cop, eqo_nn, eqo_nb, eqo_ni, eqo_ns, eqo_nt, eqo_nl, eqo_nd, eqo_bn, eqo_bb, eqo_bi, eqo_bs, eqo_bt, eqo_bl, eqo_bd, eqo_in, eqo_ib, eqo_ii, eqo_is, eqo_it, eqo_il, eqo_id, eqo_sn, eqo_sb, eqo_si, eqo_ss, eqo_st, eqo_sl, eqo_sd, eqo_tn, eqo_tb, eqo_ti, eqo_ts, eqo_tt, eqo_tl, eqo_td, eqo_ln, eqo_lb, eqo_li, eqo_ls, eqo_lt, eqo_ll, eqo_ld, eqo_dn, eqo_db, eqo_di, eqo_ds, eqo_dt, eqo_dl, eqo_dd, inOk, D.flat, xTup, aNil, aCons, mSet, plain_str, plain_tup, plain_int, plain_bl, plains_nil, plains_cons, eqb_str, eqb_int, eqb_bl, eqb_tup, eqbs_nil, eqbs_cn, eqbs_nc, eqbs_cc, eqb_nn, eqb_nb, eqb_ni, eqb_ns, eqb_nt, eqb_nl, eqb_nd, eqb_bn, eqb_bi, eqb_bs, eqb_bt, eqb_b_l, eqb_bd, eqb_in, eqb_ib, eqb_is, eqb_it, eqb_il, eqb_id, eqb_sn, eqb_sb, eqb_si, eqb_sl, eqb_sd, eqb_tn, eqb_tb, eqb_ti, eqb_tl, eqb_td, eqb_ln, eqb_lb, eqb_li, eqb_ls, eqb_lt, eqb_ll, eqb_ld, eqb_dn, eqb_db, eqb_di, eqb_ds, eqb_dt, eqb_dl, eqb_dd, plain_non, plain_lst, plain_dic, eqb_st, eqb_ts, xLen, bip, xIdx, mIdx, index, mItems, mList, xCall, pp_call, xBin, bop_ai, bop_as, bop_at, bop_al, bop_si, bop_mi, bop_ml, bop_mt, bop_ms, bop_mo, bop_fd, bop_pw, SZ, mSlc, mPart, slice, gUnp, gCon, gEnd, mLst, M.bad, mChn, sFor, loopM, xBi, xFz, fLst, mCalk, srcOf, isn_n, isn_b, isn_i, isn_s, isn_t, isn_l, isn_d, isn_r, isn_enc, gStar, dget, atI, fComp, noX, Res.noX, mWipe, cmpR, wipeE, blsOf, intsOf, txtsOf, cut, sIx, mZs, zsOf, zipD, mZip, zipOf, mRng1, mRng2, rngD, mCount, mIndexL, mMt, tyIs, mtp, findD, sTryAs, mIsE, noEx, sPar, sPar3, xRev, revD, sTry, reps, b_135, txt]
  | num =>
    intro k S hk h50 hl
    obtain ⟨k, rfl⟩ : ∃ j, k = j + 1 := ⟨k - 1, by omega⟩
    rw [call_step]
    simp (decide := true) [runD, enc, sSeq, sIf, sRet, sNx, sAsg, sEx, sRai, ↓mb, Res.bind, mp, M.of, mT, xIsi, mBor, mVar, isTy, mTruth, truth, mOr, mAnd, mIte, mNot, xCmp, cop, eqo_nn, eqo_nb, eqo_ni, eqo_ns, eqo_nt, eqo_nl, eqo_nd, eqo_bn, eqo_bb, eqo_bi, eqo_bs, eqo_bt, eqo_bl, eqo_bd, eqo_in, eqo_ib, eqo_ii, eqo_is, eqo_it, eqo_il, eqo_id, eqo_sn, eqo_sb, eqo_si, eqo_ss, eqo_st, eqo_sl, eqo_sd, eqo_tn, eqo_tb, eqo_ti, eqo_ts, eqo_tt, eqo_tl, eqo_td, eqo_ln, eqo_lb, eqo_li, eqo_ls, eqo_lt, eqo_ll, eqo_ld, eqo_dn, eqo_db, eqo_di, eqo_ds, eqo_dt, eqo_dl, eqo_dd, inOk, D.flat, xTup, aNil, aCons, mSet, plain_str, plain_tup, plain_int, plain_bl, plains_nil, plains_cons, eqb_str, eqb_int, eqb_bl, eqb_tup, eqbs_nil, eqbs_cn, eqbs_nc, eqbs_cc, eqb_nn, eqb_nb, eqb_ni, eqb_ns, eqb_nt, eqb_nl, eqb_nd, eqb_bn, eqb_bi, eqb_bs, eqb_bt, eqb_b_l, eqb_bd, eqb_in, eqb_ib, eqb_is, eqb_it, eqb_il, eqb_id, eqb_sn, eqb_sb, eqb_si, eqb_sl, eqb_sd, eqb_tn, eqb_tb, eqb_ti, eqb_tl, eqb_td, eqb_ln, eqb_lb, eqb_li, eqb_ls, eqb_lt, eqb_ll, eqb_ld, eqb_dn, eqb_db, eqb_di, eqb_ds, eqb_dt, eqb_dl, eqb_dd, plain_non, plain_lst, plain_dic, eqb_st, eqb_ts, xLen, bip, xIdx, mIdx, index, mItems, mList, xCall, pp_call, xBin, bop_ai, bop_as, bop_at, bop_al, bop_si, bop_mi, bop_ml, bop_mt, bop_ms, bop_mo, bop_fd, bop_pw, SZ, mSlc, mPart, slice, gUnp, gCon, gEnd, mLst, M.bad, mChn, sFor, loopM, xBi, xFz, fLst, mCalk, srcOf, isn_n, isn_b, isn_i, isn_s, isn_t, isn_l, isn_d, isn_r, isn_enc, gStar, dget, atI, fComp, noX, Res.noX, mWipe, cmpR, wipeE, blsOf, intsOf, txtsOf, cut, sIx, mZs, zsOf, zipD, mZip, zipOf, mRng1, mRng2, rngD, mCount, mIndexL, mMt, tyIs, mtp, findD, sTryAs, mIsE, noEx, sPar, sPar3, xRev, revD, sTry, reps, b_135, txt]
  | text =>
    intro k S hk h50 hl
    obtain ⟨k, rfl⟩ : ∃ j, k = j + 1 := ⟨k - 1, by omega⟩
    rw [call_step]
    simp (decide := true) [runD, enc, sSeq, sIf, sRet, sNx, sAsg, sEx, sRai, ↓mb, Res.bind, mp, M.of, mT, xIsi, mBor, mVar, isTy, mTruth, truth, mOr, mAnd, mIte, mNot, xCmp, cop, eqo_nn, eqo_nb, eqo_ni, eqo_ns, eqo_nt, eqo_nl, eqo_nd, eqo_bn, eqo_bb, eqo_bi, eqo_bs, eqo_bt, eqo_bl, eqo_bd, eqo_in, eqo_ib, eqo_ii, eqo_is, eqo_it, eqo_il, eqo_id, eqo_sn, eqo_sb, eqo_si, eqo_ss, eqo_st, eqo_sl, eqo_sd, eqo_tn, eqo_tb, eqo_ti, eqo_ts, eqo_tt, eqo_tl, eqo_td, eqo_ln, eqo_lb, eqo_li, eqo_ls, eqo_lt, eqo_ll, eqo_ld, eqo_dn, eqo_db, eqo_di, eqo_ds, eqo_dt, eqo_dl, eqo_dd, inOk, D.flat, xTup, aNil, aCons, mSet, plain_str, plain_tup, plain_int, plain_bl, plains_nil, plains_cons, eqb_str, eqb_int, eqb_bl, eqb_tup, eqbs_nil, eqbs_cn, eqbs_nc, eqbs_cc, eqb_nn, eqb_nb, eqb_ni, eqb_ns, eqb_nt, eqb_nl, eqb_nd, eqb_bn, eqb_bi, eqb_bs, eqb_bt, eqb_b_l, eqb_bd, eqb_in, eqb_ib, eqb_is, eqb_it, eqb_il, eqb_id, eqb_sn, eqb_sb, eqb_si, eqb_sl, eqb_sd, eqb_tn, eqb_tb, eqb_ti, eqb_tl, eqb_td, eqb_ln, eqb_lb, eqb_li, eqb_ls, eqb_lt, eqb_ll, eqb_ld, eqb_dn, eqb_db, eqb_di, eqb_ds, eqb_dt, eqb_dl, eqb_dd, plain_non, plain_lst, plain_dic, eqb_st, eqb_ts, xLen, bip, xIdx, mIdx, index, mItems, mList, xCall, pp_call, xBin, bop_ai, bop_as, bop_at, bop_al, bop_si, bop_mi, bop_ml, bop_mt, bop_ms, bop_mo, bop_fd, bop_pw, SZ, mSlc, mPart, slice, gUnp, gCon, gEnd, mLst, M.bad, mChn, sFor, loopM, xBi, xFz, fLst, mCalk, srcOf, isn_n, isn_b, isn_i, isn_s, isn_t, isn_l, isn_d, isn_r, isn_enc, gStar, dget, atI, fComp, noX, Res.noX, mWipe, cmpR, wipeE, blsOf, intsOf, txtsOf, cut, sIx, mZs, zsOf, zipD, mZip, zipOf, mRng1, mRng2, rngD, mCount, mIndexL, mMt, tyIs, mtp, findD, sTryAs, mIsE, noEx, sPar, sPar3, xRev, revD, sTry, reps, b_135, txt]
  | deed a b iha ihb =>
    intro k S hk h50 hl
    obtain ⟨k, rfl⟩ : ∃ j, k = j + 1 := ⟨k - 1, by omega⟩
    rw [call_step]
    simp only [hgt] at hk h50
    simp only [txt, List.length_cons, List.length_append, List.length_nil] at hl
    have ea := iha k S (by omega) (by omega) (by omega)
    have eb := ihb k S (by omega) (by omega) (by omega)
    have l1 : (txt a).length + 1 + ((txt b).length + 1) ≤ 16777216 := by omega
    have l2 : (txt a).length + ((txt b).length + 1) ≤ 16777216 := by omega
    have l3 : (txt a).length + ((txt b).length + 1) + 1 ≤ 16777216 := by omega
    have l4 : 1 + ((txt a).length + ((txt b).length + 1)) ≤ 16777216 := by omega
    have l5 : 1 + ((txt a).length + ((txt b).length + 1)) + 1 ≤ 16777216 := by omega
    have l6 : (txt a).length + ((txt b).length + 1) ≤ 16777214 := by omega
    simp (decide := true) [runD, enc, sSeq, sIf, sRet, sNx, sAsg, sEx, sRai, ↓mb, Res.bind, mp, M.of, mT, xIsi, mBor, mVar, isTy, mTruth, truth, mOr, mAnd, mIte, mNot, xCmp, cop, eqo_nn, eqo_nb, eqo_ni, eqo_ns, eqo_nt, eqo_nl, eqo_nd, eqo_bn, eqo_bb, eqo_bi, eqo_bs, eqo_bt, eqo_bl, eqo_bd, eqo_in, eqo_ib, eqo_ii, eqo_is, eqo_it, eqo_il, eqo_id, eqo_sn, eqo_sb, eqo_si, eqo_ss, eqo_st, eqo_sl, eqo_sd, eqo_tn, eqo_tb, eqo_ti, eqo_ts, eqo_tt, eqo_tl, eqo_td, eqo_ln, eqo_lb, eqo_li, eqo_ls, eqo_lt, eqo_ll, eqo_ld, eqo_dn, eqo_db, eqo_di, eqo_ds, eqo_dt, eqo_dl, eqo_dd, inOk, D.flat, xTup, aNil, aCons, mSet, plain_str, plain_tup, plain_int, plain_bl, plains_nil, plains_cons, eqb_str, eqb_int, eqb_bl, eqb_tup, eqbs_nil, eqbs_cn, eqbs_nc, eqbs_cc, eqb_nn, eqb_nb, eqb_ni, eqb_ns, eqb_nt, eqb_nl, eqb_nd, eqb_bn, eqb_bi, eqb_bs, eqb_bt, eqb_b_l, eqb_bd, eqb_in, eqb_ib, eqb_is, eqb_it, eqb_il, eqb_id, eqb_sn, eqb_sb, eqb_si, eqb_sl, eqb_sd, eqb_tn, eqb_tb, eqb_ti, eqb_tl, eqb_td, eqb_ln, eqb_lb, eqb_li, eqb_ls, eqb_lt, eqb_ll, eqb_ld, eqb_dn, eqb_db, eqb_di, eqb_ds, eqb_dt, eqb_dl, eqb_dd, plain_non, plain_lst, plain_dic, eqb_st, eqb_ts, xLen, bip, xIdx, mIdx, index, mItems, mList, xCall, pp_call, xBin, bop_ai, bop_as, bop_at, bop_al, bop_si, bop_mi, bop_ml, bop_mt, bop_ms, bop_mo, bop_fd, bop_pw, SZ, mSlc, mPart, slice, gUnp, gCon, gEnd, mLst, M.bad, mChn, sFor, loopM, xBi, xFz, fLst, mCalk, srcOf, isn_n, isn_b, isn_i, isn_s, isn_t, isn_l, isn_d, isn_r, isn_enc, gStar, dget, atI, fComp, noX, Res.noX, mWipe, cmpR, wipeE, blsOf, intsOf, txtsOf, cut, sIx, mZs, zsOf, zipD, mZip, zipOf, mRng1, mRng2, rngD, mCount, mIndexL, mMt, tyIs, mtp, findD, sTryAs, mIsE, noEx, sPar, sPar3, xRev, revD, sTry, reps, b_135, txt, ea, eb, mJoin, mFmt, mJoinT, mMt, tyIs, mtp, joinT, joinLen, l1, l2, l3, l4, l5, l6]
  | box a iha =>
    intro k S hk h50 hl
    obtain ⟨k, rfl⟩ : ∃ j, k = j + 1 := ⟨k - 1, by omega⟩
    rw [call_step]
    simp only [hgt] at hk h50
    simp only [txt, List.length_cons, List.length_append, List.length_nil] at hl
    have ea := iha k S (by omega) (by omega) (by omega)
    have l1 : (txt a).length ≤ 16777216 := by omega
    have l2 : 1 + (txt a).length ≤ 16777216 := by omega
    have l3 : 1 + (txt a).length + 1 ≤ 16777216 := by omega
    have l4 : (txt a).length + 1 ≤ 16777216 := by omega
    have l5 : (txt a).length + 1 + 1 ≤ 16777216 := by omega
    have l6 : (txt a).length ≤ 16777214 := by omega
    simp (decide := true) [runD, enc, sSeq, sIf, sRet, sNx, sAsg, sEx, sRai, ↓mb, Res.bind, mp, M.of, mT, xIsi, mBor, mVar, isTy, mTruth, truth, mOr, mAnd, mIte, mNot, xCmp, cop, eqo_nn, eqo_nb, eqo_ni, eqo_ns, eqo_nt, eqo_nl, eqo_nd, eqo_bn, eqo_bb, eqo_bi, eqo_bs, eqo_bt, eqo_bl, eqo_bd, eqo_in, eqo_ib, eqo_ii, eqo_is, eqo_it, eqo_il, eqo_id, eqo_sn, eqo_sb, eqo_si, eqo_ss, eqo_st, eqo_sl, eqo_sd, eqo_tn, eqo_tb, eqo_ti, eqo_ts, eqo_tt, eqo_tl, eqo_td, eqo_ln, eqo_lb, eqo_li, eqo_ls, eqo_lt, eqo_ll, eqo_ld, eqo_dn, eqo_db, eqo_di, eqo_ds, eqo_dt, eqo_dl, eqo_dd, inOk, D.flat, xTup, aNil, aCons, mSet, plain_str, plain_tup, plain_int, plain_bl, plains_nil, plains_cons, eqb_str, eqb_int, eqb_bl, eqb_tup, eqbs_nil, eqbs_cn, eqbs_nc, eqbs_cc, eqb_nn, eqb_nb, eqb_ni, eqb_ns, eqb_nt, eqb_nl, eqb_nd, eqb_bn, eqb_bi, eqb_bs, eqb_bt, eqb_b_l, eqb_bd, eqb_in, eqb_ib, eqb_is, eqb_it, eqb_il, eqb_id, eqb_sn, eqb_sb, eqb_si, eqb_sl, eqb_sd, eqb_tn, eqb_tb, eqb_ti, eqb_tl, eqb_td, eqb_ln, eqb_lb, eqb_li, eqb_ls, eqb_lt, eqb_ll, eqb_ld, eqb_dn, eqb_db, eqb_di, eqb_ds, eqb_dt, eqb_dl, eqb_dd, plain_non, plain_lst, plain_dic, eqb_st, eqb_ts, xLen, bip, xIdx, mIdx, index, mItems, mList, xCall, pp_call, xBin, bop_ai, bop_as, bop_at, bop_al, bop_si, bop_mi, bop_ml, bop_mt, bop_ms, bop_mo, bop_fd, bop_pw, SZ, mSlc, mPart, slice, gUnp, gCon, gEnd, mLst, M.bad, mChn, sFor, loopM, xBi, xFz, fLst, mCalk, srcOf, isn_n, isn_b, isn_i, isn_s, isn_t, isn_l, isn_d, isn_r, isn_enc, gStar, dget, atI, fComp, noX, Res.noX, mWipe, cmpR, wipeE, blsOf, intsOf, txtsOf, cut, sIx, mZs, zsOf, zipD, mZip, zipOf, mRng1, mRng2, rngD, mCount, mIndexL, mMt, tyIs, mtp, findD, sTryAs, mIsE, noEx, sPar, sPar3, xRev, revD, sTry, reps, b_135, txt, ea, mJoin, mFmt, mJoinT, mMt, tyIs, mtp, joinT, joinLen, l1, l2, l3, l4, l5, l6]
theorem form_text (T : Tb) [Fn T 101 fd_101] [Fn T 102 fd_102] [Fn T 104 fd_104] [Fn T 135 fd_135] [Fn T 136 fd_136] (f : Form) (k : Nat) (S : Sto) (hk : 11 < k) (hf : hgt f ≤ 5) : callT T k 136 [enc f] S = .ok (.str (txt f)) S := by
  obtain ⟨k, rfl⟩ : ∃ j, k = j + 1 := ⟨k - 1, by omega⟩
  rw [call_step]
  have e1 := want_forms T f k S (by omega) hf
  have e2 := text_of_form T f k S (by omega) (by omega) (by have := txt_small f hf; omega)
  simp (decide := true) [runD, enc, sSeq, sIf, sRet, sNx, sAsg, sEx, sRai, ↓mb, Res.bind, mp, M.of, mT, xIsi, mBor, mVar, isTy, mTruth, truth, mOr, mAnd, mIte, mNot, xCmp, cop, eqo_nn, eqo_nb, eqo_ni, eqo_ns, eqo_nt, eqo_nl, eqo_nd, eqo_bn, eqo_bb, eqo_bi, eqo_bs, eqo_bt, eqo_bl, eqo_bd, eqo_in, eqo_ib, eqo_ii, eqo_is, eqo_it, eqo_il, eqo_id, eqo_sn, eqo_sb, eqo_si, eqo_ss, eqo_st, eqo_sl, eqo_sd, eqo_tn, eqo_tb, eqo_ti, eqo_ts, eqo_tt, eqo_tl, eqo_td, eqo_ln, eqo_lb, eqo_li, eqo_ls, eqo_lt, eqo_ll, eqo_ld, eqo_dn, eqo_db, eqo_di, eqo_ds, eqo_dt, eqo_dl, eqo_dd, inOk, D.flat, xTup, aNil, aCons, mSet, plain_str, plain_tup, plain_int, plain_bl, plains_nil, plains_cons, eqb_str, eqb_int, eqb_bl, eqb_tup, eqbs_nil, eqbs_cn, eqbs_nc, eqbs_cc, eqb_nn, eqb_nb, eqb_ni, eqb_ns, eqb_nt, eqb_nl, eqb_nd, eqb_bn, eqb_bi, eqb_bs, eqb_bt, eqb_b_l, eqb_bd, eqb_in, eqb_ib, eqb_is, eqb_it, eqb_il, eqb_id, eqb_sn, eqb_sb, eqb_si, eqb_sl, eqb_sd, eqb_tn, eqb_tb, eqb_ti, eqb_tl, eqb_td, eqb_ln, eqb_lb, eqb_li, eqb_ls, eqb_lt, eqb_ll, eqb_ld, eqb_dn, eqb_db, eqb_di, eqb_ds, eqb_dt, eqb_dl, eqb_dd, plain_non, plain_lst, plain_dic, eqb_st, eqb_ts, xLen, bip, xIdx, mIdx, index, mItems, mList, xCall, pp_call, xBin, bop_ai, bop_as, bop_at, bop_al, bop_si, bop_mi, bop_ml, bop_mt, bop_ms, bop_mo, bop_fd, bop_pw, SZ, mSlc, mPart, slice, gUnp, gCon, gEnd, mLst, M.bad, mChn, sFor, loopM, xBi, xFz, fLst, mCalk, srcOf, isn_n, isn_b, isn_i, isn_s, isn_t, isn_l, isn_d, isn_r, isn_enc, gStar, dget, atI, fComp, noX, Res.noX, mWipe, cmpR, wipeE, blsOf, intsOf, txtsOf, cut, sIx, mZs, zsOf, zipD, mZip, zipOf, mRng1, mRng2, rngD, mCount, mIndexL, mMt, tyIs, mtp, findD, sTryAs, mIsE, noEx, sPar, sPar3, xRev, revD, sTry, reps, b_136, e1, e2]
/-! ### reading -/
theorem cut_at (P X : Txt) (n : Nat) : cut (P ++ X) (some (P.length : Int)) (some ((P.length : Int) + n)) = X.take n := by
  have e1 : sIx (P ++ X).length 0 (some (P.length : Int)) = P.length := by
    show (if (P.length : Int) < 0 then ((P.length : Int) + ((P ++ X).length : Nat)).toNat else min (P.length : Int).toNat (P ++ X).length) = _
    rw [if_neg (by omega)]
    simp
  have e2 : sIx (P ++ X).length (P ++ X).length (some ((P.length : Int) + n)) = min (P.length + n) (P.length + X.length) := by
    show (if (P.length : Int) + n < 0 then ((P.length : Int) + n + ((P ++ X).length : Nat)).toNat else min ((P.length : Int) + n).toNat (P ++ X).length) = _
    rw [if_neg (by omega)]
    have : ((P.length : Int) + n).toNat = P.length + n := by omega
    simp [this]
  unfold cut
  rw [e1, e2]
  simp only [List.drop_left]
  by_cases h : n ≤ X.length
  · rw [show min (P.length + n) (P.length + X.length) - P.length = n by omega]
  · rw [show min (P.length + n) (P.length + X.length) - P.length = X.length by omega, List.take_of_length_le (Nat.le_refl _), List.take_of_length_le (by omega)]
theorem want_sign (T : Tb) [Fn T 137 fd_137] (P X : Txt) (c : Nat) (k : Nat) (S : Sto) (hk : 0 < k) (hl : (P ++ c :: X).length ≤ 16777216) : callT T k 137 [.str (P ++ c :: X), .int P.length, .str [c]] S = .ok .non S := by
  obtain ⟨k, rfl⟩ : ∃ j, k = j + 1 := ⟨k - 1, by omega⟩
  rw [call_step]
  have e := cut_at P (c :: X) 1
  have e' : cut (P ++ c :: X) (some (P.length : Int)) (some ((P.length : Int) + 1)) = [c] := e
  simp only [List.length_append, List.length_cons] at hl
  simp (decide := true) [runD, sIf, sNx, mb, mp, M.of, mT, mVar, mBor, mTruth, truth, xCmp, cop, eqo, xBin, bop, mSlc, mPart, slice, SZ, b_137, e', hl]
theorem at_at (P X : Txt) (c : Nat) : atI (P ++ c :: X) (P.length : Int) = some c := by
  unfold atI
  rw [if_pos (by omega)]
  simp
theorem cut_at1 (P X : Txt) (c : Nat) : cut (P ++ c :: X) (some (P.length : Int)) (some ((P.length : Int) + 1)) = [c] := cut_at P (c :: X) 1
theorem form_at (T : Tb) [Fn T 137 fd_137] [Fn T 138 fd_138] (f : Form) : ∀ (P R : Txt) (h k : Nat) (S : Sto), hgt f < k → hgt f ≤ h → (P ++ (txt f ++ R)).length ≤ 16777216 →
    callT T k 138 [.str (P ++ (txt f ++ R)), .int P.length, .int h] S = .ok (.tup [enc f, .int ((P ++ txt f).length : Nat)]) S := by
  induction f with
  | any =>
    intro P R h k S hk hh hl
    obtain ⟨k, rfl⟩ : ∃ j, k = j + 1 := ⟨k - 1, by omega⟩
    rw [call_step]
    have c3 : cut (P ++ (txt any ++ R)) (some (P.length : Int)) (some ((P.length : Int) + 3)) = [97,110,121] := cut_at P (txt any ++ R) 3
    have er : (((P ++ txt any).length : Nat) : Int) = (P.length : Int) + 3 := by simp [txt]
    rw [er]
    generalize P ++ (txt any ++ R) = TX at c3 hl ⊢
    generalize (P.length : Int) = p at c3 ⊢
    simp (decide := true) [runD, enc, sSeq, sIf, sRet, sNx, sAsg, sEx, sRai, ↓mb, Res.bind, mp, M.of, mT, xIsi, mBor, mVar, isTy, mTruth, truth, mOr, mAnd, mIte, mNot, xCmp, cop, eqo_nn, eqo_nb, eqo_ni, eqo_ns, eqo_nt, eqo_nl, eqo_nd, eqo_bn, eqo_bb, eqo_bi, eqo_bs, eqo_bt, eqo_bl, eqo_bd, eqo_in, eqo_ib, eqo_ii, eqo_is, eqo_it, eqo_il, eqo_id, eqo_sn, eqo_sb, eqo_si, eqo_ss, eqo_st, eqo_sl, eqo_sd, eqo_tn, eqo_tb, eqo_ti, eqo_ts, eqo_tt, eqo_tl, eqo_td, eqo_ln, eqo_lb, eqo_li, eqo_ls, eqo_lt, eqo_ll, eqo_ld, eqo_dn, eqo_db, eqo_di, eqo_ds, eqo_dt, eqo_dl, eqo_dd, inOk, D.flat, xTup, aNil, aCons, mSet, plain_str, plain_tup, plain_int, plain_bl, plains_nil, plains_cons, eqb_str, eqb_int, eqb_bl, eqb_tup, eqbs_nil, eqbs_cn, eqbs_nc, eqbs_cc, eqb_nn, eqb_nb, eqb_ni, eqb_ns, eqb_nt, eqb_nl, eqb_nd, eqb_bn, eqb_bi, eqb_bs, eqb_bt, eqb_b_l, eqb_bd, eqb_in, eqb_ib, eqb_is, eqb_it, eqb_il, eqb_id, eqb_sn, eqb_sb, eqb_si, eqb_sl, eqb_sd, eqb_tn, eqb_tb, eqb_ti, eqb_tl, eqb_td, eqb_ln, eqb_lb, eqb_li, eqb_ls, eqb_lt, eqb_ll, eqb_ld, eqb_dn, eqb_db, eqb_di, eqb_ds, eqb_dt, eqb_dl, eqb_dd, plain_non, plain_lst, plain_dic, eqb_st, eqb_ts, xLen, bip, xIdx, mIdx, index, mItems, mList, xCall, pp_call, xBin, bop_ai, bop_as, bop_at, bop_al, bop_si, bop_mi, bop_ml, bop_mt, bop_ms, bop_mo, bop_fd, bop_pw, SZ, mSlc, mPart, slice, gUnp, gCon, gEnd, mLst, M.bad, mChn, sFor, loopM, xBi, xFz, fLst, mCalk, srcOf, isn_n, isn_b, isn_i, isn_s, isn_t, isn_l, isn_d, isn_r, isn_enc, b_138, c3, hl]
  | num =>
    intro P R h k S hk hh hl
    obtain ⟨k, rfl⟩ : ∃ j, k = j + 1 := ⟨k - 1, by omega⟩
    rw [call_step]
    have c3 : cut (P ++ (txt num ++ R)) (some (P.length : Int)) (some ((P.length : Int) + 3)) = [110,117,109] := cut_at P (txt num ++ R) 3
    have er : (((P ++ txt num).length : Nat) : Int) = (P.length : Int) + 3 := by simp [txt]
    rw [er]
    generalize P ++ (txt num ++ R) = TX at c3 hl ⊢
    generalize (P.length : Int) = p at c3 ⊢
    simp (decide := true) [runD, enc, sSeq, sIf, sRet, sNx, sAsg, sEx, sRai, ↓mb, Res.bind, mp, M.of, mT, xIsi, mBor, mVar, isTy, mTruth, truth, mOr, mAnd, mIte, mNot, xCmp, cop, eqo_nn, eqo_nb, eqo_ni, eqo_ns, eqo_nt, eqo_nl, eqo_nd, eqo_bn, eqo_bb, eqo_bi, eqo_bs, eqo_bt, eqo_bl, eqo_bd, eqo_in, eqo_ib, eqo_ii, eqo_is, eqo_it, eqo_il, eqo_id, eqo_sn, eqo_sb, eqo_si, eqo_ss, eqo_st, eqo_sl, eqo_sd, eqo_tn, eqo_tb, eqo_ti, eqo_ts, eqo_tt, eqo_tl, eqo_td, eqo_ln, eqo_lb, eqo_li, eqo_ls, eqo_lt, eqo_ll, eqo_ld, eqo_dn, eqo_db, eqo_di, eqo_ds, eqo_dt, eqo_dl, eqo_dd, inOk, D.flat, xTup, aNil, aCons, mSet, plain_str, plain_tup, plain_int, plain_bl, plains_nil, plains_cons, eqb_str, eqb_int, eqb_bl, eqb_tup, eqbs_nil, eqbs_cn, eqbs_nc, eqbs_cc, eqb_nn, eqb_nb, eqb_ni, eqb_ns, eqb_nt, eqb_nl, eqb_nd, eqb_bn, eqb_bi, eqb_bs, eqb_bt, eqb_b_l, eqb_bd, eqb_in, eqb_ib, eqb_is, eqb_it, eqb_il, eqb_id, eqb_sn, eqb_sb, eqb_si, eqb_sl, eqb_sd, eqb_tn, eqb_tb, eqb_ti, eqb_tl, eqb_td, eqb_ln, eqb_lb, eqb_li, eqb_ls, eqb_lt, eqb_ll, eqb_ld, eqb_dn, eqb_db, eqb_di, eqb_ds, eqb_dt, eqb_dl, eqb_dd, plain_non, plain_lst, plain_dic, eqb_st, eqb_ts, xLen, bip, xIdx, mIdx, index, mItems, mList, xCall, pp_call, xBin, bop_ai, bop_as, bop_at, bop_al, bop_si, bop_mi, bop_ml, bop_mt, bop_ms, bop_mo, bop_fd, bop_pw, SZ, mSlc, mPart, slice, gUnp, gCon, gEnd, mLst, M.bad, mChn, sFor, loopM, xBi, xFz, fLst, mCalk, srcOf, isn_n, isn_b, isn_i, isn_s, isn_t, isn_l, isn_d, isn_r, isn_enc, b_138, c3, hl]
  | text =>
    intro P R h k S hk hh hl
    obtain ⟨k, rfl⟩ : ∃ j, k = j + 1 := ⟨k - 1, by omega⟩
    rw [call_step]
    have c3 : cut (P ++ (txt text ++ R)) (some (P.length : Int)) (some ((P.length : Int) + 3)) = [116,101,120] := cut_at P (txt text ++ R) 3
    have c4 : cut (P ++ (txt text ++ R)) (some (P.length : Int)) (some ((P.length : Int) + 4)) = [116,101,120,116] := cut_at P (txt text ++ R) 4
    have er : (((P ++ txt text).length : Nat) : Int) = (P.length : Int) + 4 := by simp [txt]
    rw [er]
    generalize P ++ (txt text ++ R) = TX at c3 c4 hl ⊢
    generalize (P.length : Int) = p at c3 c4 ⊢
    simp (decide := true) [runD, enc, sSeq, sIf, sRet, sNx, sAsg, sEx, sRai, ↓mb, Res.bind, mp, M.of, mT, xIsi, mBor, mVar, isTy, mTruth, truth, mOr, mAnd, mIte, mNot, xCmp, cop, eqo_nn, eqo_nb, eqo_ni, eqo_ns, eqo_nt, eqo_nl, eqo_nd, eqo_bn, eqo_bb, eqo_bi, eqo_bs, eqo_bt, eqo_bl, eqo_bd, eqo_in, eqo_ib, eqo_ii, eqo_is, eqo_it, eqo_il, eqo_id, eqo_sn, eqo_sb, eqo_si, eqo_ss, eqo_st, eqo_sl, eqo_sd, eqo_tn, eqo_tb, eqo_ti, eqo_ts, eqo_tt, eqo_tl, eqo_td, eqo_ln, eqo_lb, eqo_li, eqo_ls, eqo_lt, eqo_ll, eqo_ld, eqo_dn, eqo_db, eqo_di, eqo_ds, eqo_dt, eqo_dl, eqo_dd, inOk, D.flat, xTup, aNil, aCons, mSet, plain_str, plain_tup, plain_int, plain_bl, plains_nil, plains_cons, eqb_str, eqb_int, eqb_bl, eqb_tup, eqbs_nil, eqbs_cn, eqbs_nc, eqbs_cc, eqb_nn, eqb_nb, eqb_ni, eqb_ns, eqb_nt, eqb_nl, eqb_nd, eqb_bn, eqb_bi, eqb_bs, eqb_bt, eqb_b_l, eqb_bd, eqb_in, eqb_ib, eqb_is, eqb_it, eqb_il, eqb_id, eqb_sn, eqb_sb, eqb_si, eqb_sl, eqb_sd, eqb_tn, eqb_tb, eqb_ti, eqb_tl, eqb_td, eqb_ln, eqb_lb, eqb_li, eqb_ls, eqb_lt, eqb_ll, eqb_ld, eqb_dn, eqb_db, eqb_di, eqb_ds, eqb_dt, eqb_dl, eqb_dd, plain_non, plain_lst, plain_dic, eqb_st, eqb_ts, xLen, bip, xIdx, mIdx, index, mItems, mList, xCall, pp_call, xBin, bop_ai, bop_as, bop_at, bop_al, bop_si, bop_mi, bop_ml, bop_mt, bop_ms, bop_mo, bop_fd, bop_pw, SZ, mSlc, mPart, slice, gUnp, gCon, gEnd, mLst, M.bad, mChn, sFor, loopM, xBi, xFz, fLst, mCalk, srcOf, isn_n, isn_b, isn_i, isn_s, isn_t, isn_l, isn_d, isn_r, isn_enc, b_138, c3, c4, hl]
  | box a iha =>
    intro P R h k S hk hh hl
    obtain ⟨k, rfl⟩ : ∃ j, k = j + 1 := ⟨k - 1, by omega⟩
    rw [call_step]
    simp only [hgt] at hk hh
    obtain ⟨h, rfl⟩ : ∃ j, h = j + 1 := ⟨h - 1, by omega⟩
    have c3 : cut (P ++ (txt (box a) ++ R)) (some (P.length : Int)) (some ((P.length : Int) + 3)) = 91 :: ((txt a ++ [93]) ++ R).take 2 := cut_at P (txt (box a) ++ R) 3
    have c4 : cut (P ++ (txt (box a) ++ R)) (some (P.length : Int)) (some ((P.length : Int) + 4)) = 91 :: ((txt a ++ [93]) ++ R).take 3 := cut_at P (txt (box a) ++ R) 4
    have c1 : cut (P ++ (txt (box a) ++ R)) (some (P.length : Int)) (some ((P.length : Int) + 1)) = [91] := cut_at P (txt (box a) ++ R) 1
    have ca : atI (P ++ (txt (box a) ++ R)) (P.length : Int) = some 91 := by
      have e : txt (box a) ++ R = 91 :: ((txt a ++ [93]) ++ R) := rfl
      rw [e]; exact at_at P _ 91
    have t1 : P ++ (txt (box a) ++ R) = (P ++ [91]) ++ (txt a ++ 93 :: R) := by simp [txt]
    have t2 : P ++ (txt (box a) ++ R) = (P ++ 91 :: txt a) ++ 93 :: R := by simp [txt]
    have ea : callT T k 138 [.str (P ++ (txt (box a) ++ R)), .int ((P.length : Int) + 1), .int (h : Int)] S = .ok (.tup [enc a, .int ((P.length : Int) + 1 + (txt a).length)]) S := by
      have e := iha (P ++ [91]) (93 :: R) h k S (by omega) (by omega) (by rw [← t1]; exact hl)
      rw [t1]
      have e1 : ((P ++ [91]).length : Int) = (P.length : Int) + 1 := by simp
      have e2 : (((P ++ [91]) ++ txt a).length : Int) = (P.length : Int) + 1 + (txt a).length := by simp; omega
      rw [e1, e2] at e
      exact e
    have es : callT T k 137 [.str (P ++ (txt (box a) ++ R)), .int ((P.length : Int) + 1 + (txt a).length), .str [93]] S = .ok .non S := by
      have e := want_sign T (P ++ 91 :: txt a) R 93 k S (by omega) (by rw [← t2]; exact hl)
      rw [t2]
      have e1 : ((P ++ 91 :: txt a).length : Int) = (P.length : Int) + 1 + (txt a).length := by simp; omega
      rw [e1] at e
      exact e
    have er : (((P ++ txt (box a)).length : Nat) : Int) = (P.length : Int) + 1 + (txt a).length + 1 := by simp [txt]; omega
    have hz : ¬ ((h : Int) + 1 = 0) := by omega
    have h1 : (h : Int) + 1 - 1 = h := by omega
    rw [er]
    generalize P ++ (txt (box a) ++ R) = TX at c3 c4 c1 ca ea es hl ⊢
    generalize ((txt a ++ [93]) ++ R).take 2 = w2 at c3
    generalize ((txt a ++ [93]) ++ R).take 3 = w3 at c4
    generalize (P.length : Int) = p at c3 c4 c1 ca ea es ⊢
    simp (decide := true) [runD, enc, sSeq, sIf, sRet, sNx, sAsg, sEx, sRai, ↓mb, Res.bind, mp, M.of, mT, xIsi, mBor, mVar, isTy, mTruth, truth, mOr, mAnd, mIte, mNot, xCmp, cop, eqo_nn, eqo_nb, eqo_ni, eqo_ns, eqo_nt, eqo_nl, eqo_nd, eqo_bn, eqo_bb, eqo_bi, eqo_bs, eqo_bt, eqo_bl, eqo_bd, eqo_in, eqo_ib, eqo_ii, eqo_is, eqo_it, eqo_il, eqo_id, eqo_sn, eqo_sb, eqo_si, eqo_ss, eqo_st, eqo_sl, eqo_sd, eqo_tn, eqo_tb, eqo_ti, eqo_ts, eqo_tt, eqo_tl, eqo_td, eqo_ln, eqo_lb, eqo_li, eqo_ls, eqo_lt, eqo_ll, eqo_ld, eqo_dn, eqo_db, eqo_di, eqo_ds, eqo_dt, eqo_dl, eqo_dd, inOk, D.flat, xTup, aNil, aCons, mSet, plain_str, plain_tup, plain_int, plain_bl, plains_nil, plains_cons, eqb_str, eqb_int, eqb_bl, eqb_tup, eqbs_nil, eqbs_cn, eqbs_nc, eqbs_cc, eqb_nn, eqb_nb, eqb_ni, eqb_ns, eqb_nt, eqb_nl, eqb_nd, eqb_bn, eqb_bi, eqb_bs, eqb_bt, eqb_b_l, eqb_bd, eqb_in, eqb_ib, eqb_is, eqb_it, eqb_il, eqb_id, eqb_sn, eqb_sb, eqb_si, eqb_sl, eqb_sd, eqb_tn, eqb_tb, eqb_ti, eqb_tl, eqb_td, eqb_ln, eqb_lb, eqb_li, eqb_ls, eqb_lt, eqb_ll, eqb_ld, eqb_dn, eqb_db, eqb_di, eqb_ds, eqb_dt, eqb_dl, eqb_dd, plain_non, plain_lst, plain_dic, eqb_st, eqb_ts, xLen, bip, xIdx, mIdx, index, mItems, mList, xCall, pp_call, xBin, bop_ai, bop_as, bop_at, bop_al, bop_si, bop_mi, bop_ml, bop_mt, bop_ms, bop_mo, bop_fd, bop_pw, SZ, mSlc, mPart, slice, gUnp, gCon, gEnd, mLst, M.bad, mChn, sFor, loopM, xBi, xFz, fLst, mCalk, srcOf, isn_n, isn_b, isn_i, isn_s, isn_t, isn_l, isn_d, isn_r, isn_enc, b_138, c3, c4, c1, ca, ea, es, hl, hz, h1]
  | deed a b iha ihb =>
    intro P R h k S hk hh hl
    obtain ⟨k, rfl⟩ : ∃ j, k = j + 1 := ⟨k - 1, by omega⟩
    rw [call_step]
    simp only [hgt] at hk hh
    obtain ⟨h, rfl⟩ : ∃ j, h = j + 1 := ⟨h - 1, by omega⟩
    generalize hX : txt a ++ 62 :: (txt b ++ [41]) ++ R = X
    have c3 : cut (P ++ (txt (deed a b) ++ R)) (some (P.length : Int)) (some ((P.length : Int) + 3)) = 40 :: X.take 2 := by rw [← hX]; exact cut_at P (txt (deed a b) ++ R) 3
    have c4 : cut (P ++ (txt (deed a b) ++ R)) (some (P.length : Int)) (some ((P.length : Int) + 4)) = 40 :: X.take 3 := by rw [← hX]; exact cut_at P (txt (deed a b) ++ R) 4
    have c1 : cut (P ++ (txt (deed a b) ++ R)) (some (P.length : Int)) (some ((P.length : Int) + 1)) = [40] := cut_at P (txt (deed a b) ++ R) 1
    have ca : atI (P ++ (txt (deed a b) ++ R)) (P.length : Int) = some 40 := by
      have e : txt (deed a b) ++ R = 40 :: ((txt a ++ 62 :: (txt b ++ [41])) ++ R) := rfl
      rw [e]; exact at_at P _ 40
    have t1 : P ++ (txt (deed a b) ++ R) = (P ++ [40]) ++ (txt a ++ 62 :: (txt b ++ 41 :: R)) := by simp [txt]
    have t2 : P ++ (txt (deed a b) ++ R) = (P ++ 40 :: txt a) ++ 62 :: (txt b ++ 41 :: R) := by simp [txt]
    have t3 : P ++ (txt (deed a b) ++ R) = (P ++ 40 :: (txt a ++ [62])) ++ (txt b ++ 41 :: R) := by simp [txt]
    have t4 : P ++ (txt (deed a b) ++ R) = (P ++ 40 :: (txt a ++ 62 :: txt b)) ++ 41 :: R := by simp [txt]
    have ea : callT T k 138 [.str (P ++ (txt (deed a b) ++ R)), .int ((P.length : Int) + 1), .int (h : Int)] S = .ok (.tup [enc a, .int ((P.length : Int) + 1 + (txt a).length)]) S := by
      have e := iha (P ++ [40]) (62 :: (txt b ++ 41 :: R)) h k S (by omega) (by omega) (by rw [← t1]; exact hl)
      rw [t1]
      have e1 : ((P ++ [40]).length : Int) = (P.length : Int) + 1 := by simp
      have e2 : (((P ++ [40]) ++ txt a).length : Int) = (P.length : Int) + 1 + (txt a).length := by simp; omega
      rw [e1, e2] at e
      exact e
    have es1 : callT T k 137 [.str (P ++ (txt (deed a b) ++ R)), .int ((P.length : Int) + 1 + (txt a).length), .str [62]] S = .ok .non S := by
      have e := want_sign T (P ++ 40 :: txt a) (txt b ++ 41 :: R) 62 k S (by omega) (by rw [← t2]; exact hl)
      rw [t2]
      have e1 : ((P ++ 40 :: txt a).length : Int) = (P.length : Int) + 1 + (txt a).length := by simp; omega
      rw [e1] at e
      exact e
    have eb : callT T k 138 [.str (P ++ (txt (deed a b) ++ R)), .int ((P.length : Int) + 1 + (txt a).length + 1), .int (h : Int)] S = .ok (.tup [enc b, .int ((P.length : Int) + 1 + (txt a).length + 1 + (txt b).length)]) S := by
      have e := ihb (P ++ 40 :: (txt a ++ [62])) (41 :: R) h k S (by omega) (by omega) (by rw [← t3]; exact hl)
      rw [t3]
      have e1 : ((P ++ 40 :: (txt a ++ [62])).length : Int) = (P.length : Int) + 1 + (txt a).length + 1 := by simp; omega
      have e2 : (((P ++ 40 :: (txt a ++ [62])) ++ txt b).length : Int) = (P.length : Int) + 1 + (txt a).length + 1 + (txt b).length := by simp; omega
      rw [e1, e2] at e
      exact e
    have es2 : callT T k 137 [.str (P ++ (txt (deed a b) ++ R)), .int ((P.length : Int) + 1 + (txt a).length + 1 + (txt b).length), .str [41]] S = .ok .non S := by
      have e := want_sign T (P ++ 40 :: (txt a ++ 62 :: txt b)) R 41 k S (by omega) (by rw [← t4]; exact hl)
      rw [t4]
      have e1 : ((P ++ 40 :: (txt a ++ 62 :: txt b)).length : Int) = (P.length : Int) + 1 + (txt a).length + 1 + (txt b).length := by simp; omega
      rw [e1] at e
      exact e
    have er : (((P ++ txt (deed a b)).length : Nat) : Int) = (P.length : Int) + 1 + (txt a).length + 1 + (txt b).length + 1 := by simp [txt]; omega
    have hz : ¬ ((h : Int) + 1 = 0) := by omega
    have h1 : (h : Int) + 1 - 1 = h := by omega
    rw [er]
    generalize P ++ (txt (deed a b) ++ R) = TX at c3 c4 c1 ca ea eb es1 es2 hl ⊢
    generalize X.take 2 = w2 at c3
    generalize X.take 3 = w3 at c4
    generalize (P.length : Int) = p at c3 c4 c1 ca ea eb es1 es2 ⊢
    simp (decide := true) [runD, enc, sSeq, sIf, sRet, sNx, sAsg, sEx, sRai, ↓mb, Res.bind, mp, M.of, mT, xIsi, mBor, mVar, isTy, mTruth, truth, mOr, mAnd, mIte, mNot, xCmp, cop, eqo_nn, eqo_nb, eqo_ni, eqo_ns, eqo_nt, eqo_nl, eqo_nd, eqo_bn, eqo_bb, eqo_bi, eqo_bs, eqo_bt, eqo_bl, eqo_bd, eqo_in, eqo_ib, eqo_ii, eqo_is, eqo_it, eqo_il, eqo_id, eqo_sn, eqo_sb, eqo_si, eqo_ss, eqo_st, eqo_sl, eqo_sd, eqo_tn, eqo_tb, eqo_ti, eqo_ts, eqo_tt, eqo_tl, eqo_td, eqo_ln, eqo_lb, eqo_li, eqo_ls, eqo_lt, eqo_ll, eqo_ld, eqo_dn, eqo_db, eqo_di, eqo_ds, eqo_dt, eqo_dl, eqo_dd, inOk, D.flat, xTup, aNil, aCons, mSet, plain_str, plain_tup, plain_int, plain_bl, plains_nil, plains_cons, eqb_str, eqb_int, eqb_bl, eqb_tup, eqbs_nil, eqbs_cn, eqbs_nc, eqbs_cc, eqb_nn, eqb_nb, eqb_ni, eqb_ns, eqb_nt, eqb_nl, eqb_nd, eqb_bn, eqb_bi, eqb_bs, eqb_bt, eqb_b_l, eqb_bd, eqb_in, eqb_ib, eqb_is, eqb_it, eqb_il, eqb_id, eqb_sn, eqb_sb, eqb_si, eqb_sl, eqb_sd, eqb_tn, eqb_tb, eqb_ti, eqb_tl, eqb_td, eqb_ln, eqb_lb, eqb_li, eqb_ls, eqb_lt, eqb_ll, eqb_ld, eqb_dn, eqb_db, eqb_di, eqb_ds, eqb_dt, eqb_dl, eqb_dd, plain_non, plain_lst, plain_dic, eqb_st, eqb_ts, xLen, bip, xIdx, mIdx, index, mItems, mList, xCall, pp_call, xBin, bop_ai, bop_as, bop_at, bop_al, bop_si, bop_mi, bop_ml, bop_mt, bop_ms, bop_mo, bop_fd, bop_pw, SZ, mSlc, mPart, slice, gUnp, gCon, gEnd, mLst, M.bad, mChn, sFor, loopM, xBi, xFz, fLst, mCalk, srcOf, isn_n, isn_b, isn_i, isn_s, isn_t, isn_l, isn_d, isn_r, isn_enc, b_138, c3, c4, c1, ca, ea, eb, es1, es2, hl, hz, h1]

theorem read_form (T : Tb) [Fn T 137 fd_137] [Fn T 138 fd_138] [Fn T 139 fd_139] (f : Form) (k : Nat) (S : Sto) (hk : 7 < k) (hf : hgt f ≤ 5) : callT T k 139 [.str (txt f)] S = .ok (enc f) S := by
  obtain ⟨k, rfl⟩ : ∃ j, k = j + 1 := ⟨k - 1, by omega⟩
  rw [call_step]
  have hs := txt_small f hf
  have e := form_at T f [] [] 5 k S (by omega) hf (by simp; omega)
  simp only [List.nil_append, List.append_nil, List.length_nil] at e
  have e' : callT T k 138 [.str (txt f), .int 0, .int 5] S = .ok (.tup [enc f, .int ((txt f).length : Nat)]) S := e
  have hl : (txt f).length ≤ 16777216 := by omega
  simp (decide := true) [runD, enc, sSeq, sIf, sRet, sNx, sAsg, sEx, sRai, ↓mb, Res.bind, mp, M.of, mT, xIsi, mBor, mVar, isTy, mTruth, truth, mOr, mAnd, mIte, mNot, xCmp, cop, eqo_nn, eqo_nb, eqo_ni, eqo_ns, eqo_nt, eqo_nl, eqo_nd, eqo_bn, eqo_bb, eqo_bi, eqo_bs, eqo_bt, eqo_bl, eqo_bd, eqo_in, eqo_ib, eqo_ii, eqo_is, eqo_it, eqo_il, eqo_id, eqo_sn, eqo_sb, eqo_si, eqo_ss, eqo_st, eqo_sl, eqo_sd, eqo_tn, eqo_tb, eqo_ti, eqo_ts, eqo_tt, eqo_tl, eqo_td, eqo_ln, eqo_lb, eqo_li, eqo_ls, eqo_lt, eqo_ll, eqo_ld, eqo_dn, eqo_db, eqo_di, eqo_ds, eqo_dt, eqo_dl, eqo_dd, inOk, D.flat, xTup, aNil, aCons, mSet, plain_str, plain_tup, plain_int, plain_bl, plains_nil, plains_cons, eqb_str, eqb_int, eqb_bl, eqb_tup, eqbs_nil, eqbs_cn, eqbs_nc, eqbs_cc, eqb_nn, eqb_nb, eqb_ni, eqb_ns, eqb_nt, eqb_nl, eqb_nd, eqb_bn, eqb_bi, eqb_bs, eqb_bt, eqb_b_l, eqb_bd, eqb_in, eqb_ib, eqb_is, eqb_it, eqb_il, eqb_id, eqb_sn, eqb_sb, eqb_si, eqb_sl, eqb_sd, eqb_tn, eqb_tb, eqb_ti, eqb_tl, eqb_td, eqb_ln, eqb_lb, eqb_li, eqb_ls, eqb_lt, eqb_ll, eqb_ld, eqb_dn, eqb_db, eqb_di, eqb_ds, eqb_dt, eqb_dl, eqb_dd, plain_non, plain_lst, plain_dic, eqb_st, eqb_ts, xLen, bip, xIdx, mIdx, index, mItems, mList, xCall, pp_call, xBin, bop_ai, bop_as, bop_at, bop_al, bop_si, bop_mi, bop_ml, bop_mt, bop_ms, bop_mo, bop_fd, bop_pw, SZ, mSlc, mPart, slice, gUnp, gCon, gEnd, mLst, M.bad, mChn, sFor, loopM, xBi, xFz, fLst, mCalk, srcOf, isn_n, isn_b, isn_i, isn_s, isn_t, isn_l, isn_d, isn_r, isn_enc, b_139, e', hl]

end Ev

set_option Elab.async false
set_option linter.all false
set_option autoImplicit false
set_option maxRecDepth 100000
set_option maxHeartbeats 4000000
namespace Ev
open PySem
/-- how long a thing's repr is -/
def W (d : D) : Nat := (PyData.shown (toPy d)).length
def Ws : List D → Nat
  | [] => 0
  | d :: r => W d + 2 + Ws r
theorem piled_eq : ∀ ds : List D, piled (PyData.shownAll (toPys ds)) = Ws ds
  | [] => rfl
  | d :: r => by
    have ih := piled_eq r
    simp only [toPys, PyData.shownAll, Ws, W, piled_cons, ih]
theorem textFrom_le : ∀ (ts : List Str) (k : Nat) (acc : Str), (textFrom k acc ts).length ≤ acc.length + piled ts
  | [], k, acc => by simp [textFrom, piled]
  | t :: ts, k, acc => by
    have ih := textFrom_le ts (k + 1) (acc ++ (if k > 0 then ", " else "" : String) ++ t)
    rw [strLen_append, strLen_append] at ih
    have e : (((if k > 0 then ", " else "" : String) : Str)).length ≤ 2 := by split <;> decide
    rw [piled_cons]
    show (textFrom (k + 1) _ ts).length ≤ _
    omega
theorem W_lst (xs : List D) : W (.lst xs) ≤ Ws xs + 2 := by
  have h := textFrom_le (PyData.shownAll (toPys xs)) 0 "["
  rw [piled_eq] at h
  show (textFrom 0 "[" (PyData.shownAll (toPys xs)) ++ ("]" : Str)).length ≤ _
  rw [strLen_append]
  have e1 : (("[" : Str)).length = 1 := rfl
  have e2 : (("]" : Str)).length = 1 := rfl
  omega
theorem W_tup (xs : List D) : W (.tup xs) ≤ Ws xs + 3 := by
  show (tupleText (PyData.shownAll (toPys xs))).length ≤ _
  unfold tupleText
  rw [strLen_append, strLen_append]
  have e1 : (("(" : Str)).length = 1 := rfl
  have e3 : (((if (PyData.shownAll (toPys xs)).length == 1 then ",)" else ")" : String) : Str)).length ≤ 2 := by split <;> decide
  rw [e1]
  by_cases h : PyData.shownAll (toPys xs) = []
  · rw [h]
    have : (Str.join ", " []).length = 0 := rfl
    rw [h] at e3
    omega
  · have := join_length_add _ h
    rw [piled_eq] at this
    omega
theorem W_str (x : Txt) (h : ∀ c ∈ x, c < 16 ^ 8) : W (.str x) ≤ 10 * x.length + 2 := by
  have := PySem.StrLaws.reprText_len (toStr x) (by simpa [toStr] using h)
  have e : (toStr x).length = x.length := by simp [toStr, Str.length]
  rw [e] at this
  exact this
def Sb (d : D) : Bool := PyData.showable (toPy d)
def Sbs : List D → Bool
  | [] => true
  | d :: r => Sb d && Sbs r
theorem sbs_eq : ∀ ds : List D, PyData.showableAll (toPys ds) = Sbs ds
  | [] => rfl
  | d :: r => by simp only [toPys, PyData.showableAll, Sbs, Sb, sbs_eq r]
theorem shown_some {d : D} (h1 : D.plain 60 d = true) (h2 : Sb d = true) (h3 : W d ≤ 16777216) : ∃ t, shownD d = some t := by
  unfold shownD
  have h2 : PyData.showable (toPy d) = true := h2
  have h3 : (PyData.shown (toPy d)).length ≤ SZ := h3
  rw [h1, h2]
  simp [h3]
open Form
theorem W_enc (f : Form) : W (enc f) + 60 ≤ 110 * 2 ^ hgt f := by
  induction f with
  | any => have := W_str [97,110,121] (by decide); simp only [enc, hgt]; simp at this; omega
  | num => have := W_str [110,117,109] (by decide); simp only [enc, hgt]; simp at this; omega
  | text => have := W_str [116,101,120,116] (by decide); simp only [enc, hgt]; simp at this; omega
  | deed a b iha ihb =>
    have h := W_tup [.str [100,101,101,100], enc a, enc b]
    have hs := W_str [100,101,101,100] (by decide)
    have h1 : 2 ^ hgt a ≤ 2 ^ max (hgt a) (hgt b) := Nat.pow_le_pow_right (by decide) (Nat.le_max_left _ _)
    have h2 : 2 ^ hgt b ≤ 2 ^ max (hgt a) (hgt b) := Nat.pow_le_pow_right (by decide) (Nat.le_max_right _ _)
    have e : 2 ^ (1 + max (hgt a) (hgt b)) = 2 * 2 ^ max (hgt a) (hgt b) := by rw [Nat.add_comm, Nat.pow_succ, Nat.mul_comm]
    simp only [enc, hgt, Ws] at h ⊢
    simp at hs
    omega
  | box a iha =>
    have h := W_tup [.str [98,111,120], enc a]
    have hs := W_str [98,111,120] (by decide)
    have e : 2 ^ (1 + hgt a) = 2 * 2 ^ hgt a := by rw [Nat.add_comm, Nat.pow_succ, Nat.mul_comm]
    have p : 1 ≤ 2 ^ hgt a := Nat.one_le_two_pow
    simp only [enc, hgt, Ws] at h ⊢
    simp at hs
    omega
theorem W_small (f : Form) (h : hgt f ≤ 6) : W (enc f) ≤ 7040 := by
  have h1 := W_enc f
  have h2 : 2 ^ hgt f ≤ 2 ^ 6 := Nat.pow_le_pow_right (by decide) h
  omega
theorem Sb_enc (f : Form) : Sb (enc f) = true := by
  induction f with
  | any => rfl
  | num => rfl
  | text => rfl
  | deed a b iha ihb =>
    show PyData.showableAll (toPys [.str [100,101,101,100], enc a, enc b]) = true
    rw [sbs_eq]
    simp only [Sbs, iha, ihb]
    rfl
  | box a iha =>
    show PyData.showableAll (toPys [.str [98,111,120], enc a]) = true
    rw [sbs_eq]
    simp only [Sbs, iha]
    rfl
theorem shown_enc (f : Form) (h : hgt f ≤ 6) : ∃ t, shownD (enc f) = some t := shown_some (plain_enc f 60 (by omega)) (Sb_enc f) (by have := W_small f h; omega)

theorem hgt_meet (f : Form) : ∀ g : Form, hgt (meet f g) ≤ max (hgt f) (hgt g) := by
  induction f with
  | any => intro g; simp [meet, hgt]
  | num => intro g; cases g <;> simp [meet, hgt]
  | text => intro g; cases g <;> simp [meet, hgt]
  | deed a b iha ihb =>
    intro g
    cases g with
    | deed c d => have := iha c; have := ihb d; simp only [meet, hgt]; omega
    | _ => simp [meet, hgt] <;> omega
  | box a iha =>
    intro g
    cases g with
    | box c => have := iha c; simp only [meet, hgt]; omega
    | _ => simp [meet, hgt] <;> omega
theorem W_bl (b : Bool) : W (.bl b) ≤ 5 := by cases b <;> decide
theorem W_int (n : Nat) (h : n ≤ 5) : W (.int n) ≤ 5 := by
  rcases (show n = 0 ∨ n = 1 ∨ n = 2 ∨ n = 3 ∨ n = 4 ∨ n = 5 by omega) with rfl | rfl | rfl | rfl | rfl | rfl <;> decide +kernel
theorem Sb_int (n : Nat) (h : n ≤ 5) : Sb (.int n) = true := by
  rcases (show n = 0 ∨ n = 1 ∨ n = 2 ∨ n = 3 ∨ n = 4 ∨ n = 5 by omega) with rfl | rfl | rfl | rfl | rfl | rfl <;> decide +kernel
theorem W_head (f : Form) : W (headD f) ≤ 60 := by
  cases f with
  | any => decide +kernel
  | num => have := W_str [110,117,109] (by decide); simp only [headD]; simp at this; omega
  | text => have := W_str [116,101,120,116] (by decide); simp only [headD]; simp at this; omega
  | deed a b => have := W_str [100,101,101,100] (by decide); simp only [headD]; simp at this; omega
  | box a => have := W_str [98,111,120] (by decide); simp only [headD]; simp at this; omega
theorem Sb_head (f : Form) : Sb (headD f) = true := by cases f <;> rfl
theorem plain_head (f : Form) (n : Nat) : D.plain n (headD f) = true := by cases f <;> cases n <;> rfl
theorem txt_codes (f : Form) : ∀ c ∈ txt f, c < 128 := by
  induction f with
  | any => decide
  | num => decide
  | text => decide
  | deed a b iha ihb =>
    intro c hc
    simp only [txt, List.mem_cons, List.mem_append, List.not_mem_nil, or_false] at hc
    rcases hc with rfl | hc | rfl | hc | rfl
    · decide
    · exact iha c hc
    · decide
    · exact ihb c hc
    · decide
  | box a iha =>
    intro c hc
    simp only [txt, List.mem_cons, List.mem_append, List.not_mem_nil, or_false] at hc
    rcases hc with rfl | hc | rfl
    · decide
    · exact iha c hc
    · decide

end Ev

set_option Elab.async false
set_option linter.all false
set_option autoImplicit false
set_option maxRecDepth 100000
set_option maxHeartbeats 4000000
namespace Ev
open PySem
open Form
/-! ### drawing -/
/-- a pot's cell -/
def Pot (S : Sto) (n : Nat) : Prop := ∃ a b : Int, S[n]? = some (.lst [.int a, .int b]) ∧ 0 ≤ a
theorem pot_set {S : Sto} {n : Nat} (h : n < S.length) {a b : Int} (ha : 0 ≤ a) : Pot (S.set n (.lst [.int a, .int b])) n := ⟨a, b, by simp [h], ha⟩
theorem digit (T : Tb) [Fn T 113 fd_113] {S : Sto} {n : Nat} (h : Pot S n) (m : Nat) (hm : 0 < m) (hm2 : m ≤ 2 ^ 100) (k : Nat) (hk : 0 < k) :
    ∃ (d : Nat) (S' : Sto), callT T k 113 [.ref n, .int m] S = .ok (.int d) S' ∧ d < m ∧ Pot S' n ∧ S'.length = S.length := by
  obtain ⟨a, b, hS, ha⟩ := h
  have hn : n < S.length := (List.getElem?_eq_some_iff.mp hS).1
  obtain ⟨k, rfl⟩ : ∃ j, k = j + 1 := ⟨k - 1, by omega⟩
  rw [call_step]
  have hm0 : (0 : Int) < m := by omega
  have hset : ∀ x : Cell, (S.set n x)[n]? = some x := fun x => by rw [List.getElem?_set_self hn]
  by_cases hp : 0 < a
  · refine ⟨(a % m).toNat, S.set n (.lst [.int (a / m), .int b]), ?_, ?_, pot_set hn (Int.ediv_nonneg ha (by omega)), by simp⟩
    · have e : (((a % m).toNat : Nat) : Int) = a % m := Int.toNat_of_nonneg (Int.emod_nonneg _ (by omega))
      have l2 : m.log2 < 9000 := by
        have h1 : m.log2 < 101 := (Nat.log2_lt (by omega)).mpr (Nat.lt_of_le_of_lt hm2 (by decide))
        omega
      have l : (m : Int).natAbs.log2 < 9000 := by
        have : (m : Int).natAbs = m := by simp
        rw [this]
        exact l2
      rw [e]
      simp (decide := true) [runD, enc, sSeq, sIf, sRet, sNx, sAsg, sEx, sRai, ↓mb, Res.bind, mp, M.of, mT, xIsi, mBor, mVar, isTy, mTruth, truth, mOr, mAnd, mIte, mNot, xCmp, cop, eqo_nn, eqo_nb, eqo_ni, eqo_ns, eqo_nt, eqo_nl, eqo_nd, eqo_bn, eqo_bb, eqo_bi, eqo_bs, eqo_bt, eqo_bl, eqo_bd, eqo_in, eqo_ib, eqo_ii, eqo_is, eqo_it, eqo_il, eqo_id, eqo_sn, eqo_sb, eqo_si, eqo_ss, eqo_st, eqo_sl, eqo_sd, eqo_tn, eqo_tb, eqo_ti, eqo_ts, eqo_tt, eqo_tl, eqo_td, eqo_ln, eqo_lb, eqo_li, eqo_ls, eqo_lt, eqo_ll, eqo_ld, eqo_dn, eqo_db, eqo_di, eqo_ds, eqo_dt, eqo_dl, eqo_dd, inOk, D.flat, xTup, aNil, aCons, mSet, plain_str, plain_tup, plain_int, plain_bl, plains_nil, plains_cons, eqb_str, eqb_int, eqb_bl, eqb_tup, eqbs_nil, eqbs_cn, eqbs_nc, eqbs_cc, eqb_nn, eqb_nb, eqb_ni, eqb_ns, eqb_nt, eqb_nl, eqb_nd, eqb_bn, eqb_bi, eqb_bs, eqb_bt, eqb_b_l, eqb_bd, eqb_in, eqb_ib, eqb_is, eqb_it, eqb_il, eqb_id, eqb_sn, eqb_sb, eqb_si, eqb_sl, eqb_sd, eqb_tn, eqb_tb, eqb_ti, eqb_tl, eqb_td, eqb_ln, eqb_lb, eqb_li, eqb_ls, eqb_lt, eqb_ll, eqb_ld, eqb_dn, eqb_db, eqb_di, eqb_ds, eqb_dt, eqb_dl, eqb_dd, plain_non, plain_lst, plain_dic, eqb_st, eqb_ts, xLen, bip, xIdx, mIdx, index, mItems, mList, xCall, pp_call, xBin, bop_ai, bop_as, bop_at, bop_al, bop_si, bop_mi, bop_ml, bop_mt, bop_ms, bop_mo, bop_fd, bop_pw, SZ, mSlc, mPart, slice, gUnp, gCon, gEnd, mLst, M.bad, mChn, sFor, loopM, xBi, xFz, fLst, mCalk, srcOf, isn_n, isn_b, isn_i, isn_s, isn_t, isn_l, isn_d, isn_r, isn_enc, b_113, hS, hp, hm0, hm, l, l2, xBi, gPut, mPut, atI, hset]
    · have := Int.emod_lt_of_pos a hm0
      have := Int.emod_nonneg a (show (m : Int) ≠ 0 by omega)
      omega
  · have ha0 : a = 0 := by omega
    subst ha0
    generalize hb : (b * 48271 + 10037) % 2147483587 = b1
    have b1l : 0 ≤ b1 := by rw [← hb]; exact Int.emod_nonneg _ (by decide)
    have b1u : b1 < 2147483587 := by rw [← hb]; exact Int.emod_lt_of_pos _ (by decide)
    refine ⟨(b1 * b1 % 2147483563 / 5 % m).toNat, S.set n (.lst [.int 0, .int b1]), ?_, ?_, pot_set hn (by decide), by simp⟩
    · have e : (((b1 * b1 % 2147483563 / 5 % m).toNat : Nat) : Int) = b1 * b1 % 2147483563 / 5 % m := Int.toNat_of_nonneg (Int.emod_nonneg _ (by omega))
      have q1 : -18446744073709551616 < b1 := by omega
      have q2 : b1 < 18446744073709551616 := by omega
      rw [e]
      simp (decide := true) [runD, enc, sSeq, sIf, sRet, sNx, sAsg, sEx, sRai, ↓mb, Res.bind, mp, M.of, mT, xIsi, mBor, mVar, isTy, mTruth, truth, mOr, mAnd, mIte, mNot, xCmp, cop, eqo_nn, eqo_nb, eqo_ni, eqo_ns, eqo_nt, eqo_nl, eqo_nd, eqo_bn, eqo_bb, eqo_bi, eqo_bs, eqo_bt, eqo_bl, eqo_bd, eqo_in, eqo_ib, eqo_ii, eqo_is, eqo_it, eqo_il, eqo_id, eqo_sn, eqo_sb, eqo_si, eqo_ss, eqo_st, eqo_sl, eqo_sd, eqo_tn, eqo_tb, eqo_ti, eqo_ts, eqo_tt, eqo_tl, eqo_td, eqo_ln, eqo_lb, eqo_li, eqo_ls, eqo_lt, eqo_ll, eqo_ld, eqo_dn, eqo_db, eqo_di, eqo_ds, eqo_dt, eqo_dl, eqo_dd, inOk, D.flat, xTup, aNil, aCons, mSet, plain_str, plain_tup, plain_int, plain_bl, plains_nil, plains_cons, eqb_str, eqb_int, eqb_bl, eqb_tup, eqbs_nil, eqbs_cn, eqbs_nc, eqbs_cc, eqb_nn, eqb_nb, eqb_ni, eqb_ns, eqb_nt, eqb_nl, eqb_nd, eqb_bn, eqb_bi, eqb_bs, eqb_bt, eqb_b_l, eqb_bd, eqb_in, eqb_ib, eqb_is, eqb_it, eqb_il, eqb_id, eqb_sn, eqb_sb, eqb_si, eqb_sl, eqb_sd, eqb_tn, eqb_tb, eqb_ti, eqb_tl, eqb_td, eqb_ln, eqb_lb, eqb_li, eqb_ls, eqb_lt, eqb_ll, eqb_ld, eqb_dn, eqb_db, eqb_di, eqb_ds, eqb_dt, eqb_dl, eqb_dd, plain_non, plain_lst, plain_dic, eqb_st, eqb_ts, xLen, bip, xIdx, mIdx, index, mItems, mList, xCall, pp_call, xBin, bop_ai, bop_as, bop_at, bop_al, bop_si, bop_mi, bop_ml, bop_mt, bop_ms, bop_mo, bop_fd, bop_pw, SZ, mSlc, mPart, slice, gUnp, gCon, gEnd, mLst, M.bad, mChn, sFor, loopM, xBi, xFz, fLst, mCalk, srcOf, isn_n, isn_b, isn_i, isn_s, isn_t, isn_l, isn_d, isn_r, isn_enc, b_113, hS, hm0, hm, big64, gPut, mPut, atI, hset, hb, q1, q2]
    · have := Int.emod_lt_of_pos (b1 * b1 % 2147483563 / 5) hm0
      have := Int.emod_nonneg (b1 * b1 % 2147483563 / 5) (show (m : Int) ≠ 0 by omega)
      omega

theorem potRun (z : Int) (i : Nat) (hi : i ≤ 100) (S : Sto) (ρ : Env) (k : Nat) (r0 r1 : Option SV) :
    ∃ a b : Int, 0 ≤ a ∧ xCel (aCons (xBi .max2 (aCons (M.pure (.int 0)) (aCons (xBin .sub (xBi .abs (aCons (mVar 2) aNil)) (xBin .pow (M.pure (.int 10)) (M.pure (.int 18)))) aNil))) (aCons (xBin .add (xBin .mod (xBin .pow (xBin .add (xBin .add (xBin .mod (xBi .abs (aCons (mVar 2) aNil)) (M.pure (.int 2147483477))) (xBin .mul (M.pure (.int 101)) (mVar 1))) (M.pure (.int 3))) (M.pure (.int 2))) (M.pure (.int 2147483399))) (M.pure (.int 1))) aNil)) [r0, some (.fz (.int i)), some (.fz (.int z))] S =
      .ok (.ref S.length) [r0, some (.fz (.int i)), some (.fz (.int z))] (S ++ [.lst [.int a, .int b]]) := by
  generalize hA : (if z < 0 then -z else z) = A
  have hA0 : 0 ≤ A := by rw [← hA]; split <;> omega
  generalize hr : A % 2147483477 = r
  have r0' : 0 ≤ r := by rw [← hr]; exact Int.emod_nonneg _ (by decide)
  have r1' : r < 2147483477 := by rw [← hr]; exact Int.emod_lt_of_pos _ (by decide)
  have hb : (r + 101 * (i : Int) + 3).natAbs < 18446744073709551616 := by omega
  refine ⟨if A - 10 ^ 18 > 0 then A - 10 ^ 18 else 0, (r + 101 * (i : Int) + 3) ^ 2 % 2147483399 + 1, by split <;> omega, ?_⟩
  simp (decide := true) [xCel, mCell, runD, enc, sSeq, sIf, sRet, sNx, sAsg, sEx, sRai, ↓mb, Res.bind, mp, M.of, mT, xIsi, mBor, mVar, isTy, mTruth, truth, mOr, mAnd, mIte, mNot, xCmp, cop, eqo_nn, eqo_nb, eqo_ni, eqo_ns, eqo_nt, eqo_nl, eqo_nd, eqo_bn, eqo_bb, eqo_bi, eqo_bs, eqo_bt, eqo_bl, eqo_bd, eqo_in, eqo_ib, eqo_ii, eqo_is, eqo_it, eqo_il, eqo_id, eqo_sn, eqo_sb, eqo_si, eqo_ss, eqo_st, eqo_sl, eqo_sd, eqo_tn, eqo_tb, eqo_ti, eqo_ts, eqo_tt, eqo_tl, eqo_td, eqo_ln, eqo_lb, eqo_li, eqo_ls, eqo_lt, eqo_ll, eqo_ld, eqo_dn, eqo_db, eqo_di, eqo_ds, eqo_dt, eqo_dl, eqo_dd, inOk, D.flat, xTup, aNil, aCons, mSet, plain_str, plain_tup, plain_int, plain_bl, plains_nil, plains_cons, eqb_str, eqb_int, eqb_bl, eqb_tup, eqbs_nil, eqbs_cn, eqbs_nc, eqbs_cc, eqb_nn, eqb_nb, eqb_ni, eqb_ns, eqb_nt, eqb_nl, eqb_nd, eqb_bn, eqb_bi, eqb_bs, eqb_bt, eqb_b_l, eqb_bd, eqb_in, eqb_ib, eqb_is, eqb_it, eqb_il, eqb_id, eqb_sn, eqb_sb, eqb_si, eqb_sl, eqb_sd, eqb_tn, eqb_tb, eqb_ti, eqb_tl, eqb_td, eqb_ln, eqb_lb, eqb_li, eqb_ls, eqb_lt, eqb_ll, eqb_ld, eqb_dn, eqb_db, eqb_di, eqb_ds, eqb_dt, eqb_dl, eqb_dd, plain_non, plain_lst, plain_dic, eqb_st, eqb_ts, xLen, bip, xIdx, mIdx, index, mItems, mList, xCall, pp_call, xBin, bop_ai, bop_as, bop_at, bop_al, bop_si, bop_mi, bop_ml, bop_mt, bop_ms, bop_mo, bop_fd, bop_pw, SZ, mSlc, mPart, slice, gUnp, gCon, gEnd, mLst, M.bad, mChn, sFor, loopM, xBi, xFz, fLst, mCalk, srcOf, isn_n, isn_b, isn_i, isn_s, isn_t, isn_l, isn_d, isn_r, isn_enc, xBi, big64, hA, hr, hb]
theorem pot (T : Tb) [Fn T 112 fd_112] (ns : List Int) (i : Nat) (hi : i ≤ 100) (k : Nat) (S : Sto) (hk : 0 < k) : ∃ S', callT T k 112 [.scr ns, .int i] S = .ok (.ref S.length) S' ∧ Pot S' S.length := by
  obtain ⟨k, rfl⟩ : ∃ j, k = j + 1 := ⟨k - 1, by omega⟩
  rw [call_step]
  have fin : ∀ a b : Int, 0 ≤ a → Pot (S ++ [.lst [.int a, .int b]]) S.length := fun a b h => ⟨a, b, by simp, h⟩
  by_cases h : (i : Int) < (ns.length : Int)
  · have hi2 : i < ns.length := by omega
    have ha : atI ns (i : Int) = some ns[i] := by
      unfold atI
      rw [if_pos (by omega)]
      simp [hi2]
    obtain ⟨a, b, p, e⟩ := potRun ns[i] i hi S [] k (some (.fz (.scr ns))) none
    refine ⟨_, ?_, fin a b p⟩
    have e1 : (mIte (xCmp .lt (mVar 1) (xLen (mBor 0))) (xIdx (mBor 0) (mVar 1)) (M.pure (.int 0))) [some (.fz (.scr ns)), some (.fz (.int i)), none] S = .ok (.int ns[i]) [some (.fz (.scr ns)), some (.fz (.int i)), none] S := by
      simp (decide := true) [runD, enc, sSeq, sIf, sRet, sNx, sAsg, sEx, sRai, ↓mb, Res.bind, mp, M.of, mT, xIsi, mBor, mVar, isTy, mTruth, truth, mOr, mAnd, mIte, mNot, xCmp, cop, eqo_nn, eqo_nb, eqo_ni, eqo_ns, eqo_nt, eqo_nl, eqo_nd, eqo_bn, eqo_bb, eqo_bi, eqo_bs, eqo_bt, eqo_bl, eqo_bd, eqo_in, eqo_ib, eqo_ii, eqo_is, eqo_it, eqo_il, eqo_id, eqo_sn, eqo_sb, eqo_si, eqo_ss, eqo_st, eqo_sl, eqo_sd, eqo_tn, eqo_tb, eqo_ti, eqo_ts, eqo_tt, eqo_tl, eqo_td, eqo_ln, eqo_lb, eqo_li, eqo_ls, eqo_lt, eqo_ll, eqo_ld, eqo_dn, eqo_db, eqo_di, eqo_ds, eqo_dt, eqo_dl, eqo_dd, inOk, D.flat, xTup, aNil, aCons, mSet, plain_str, plain_tup, plain_int, plain_bl, plains_nil, plains_cons, eqb_str, eqb_int, eqb_bl, eqb_tup, eqbs_nil, eqbs_cn, eqbs_nc, eqbs_cc, eqb_nn, eqb_nb, eqb_ni, eqb_ns, eqb_nt, eqb_nl, eqb_nd, eqb_bn, eqb_bi, eqb_bs, eqb_bt, eqb_b_l, eqb_bd, eqb_in, eqb_ib, eqb_is, eqb_it, eqb_il, eqb_id, eqb_sn, eqb_sb, eqb_si, eqb_sl, eqb_sd, eqb_tn, eqb_tb, eqb_ti, eqb_tl, eqb_td, eqb_ln, eqb_lb, eqb_li, eqb_ls, eqb_lt, eqb_ll, eqb_ld, eqb_dn, eqb_db, eqb_di, eqb_ds, eqb_dt, eqb_dl, eqb_dd, plain_non, plain_lst, plain_dic, eqb_st, eqb_ts, xLen, bip, xIdx, mIdx, index, mItems, mList, xCall, pp_call, xBin, bop_ai, bop_as, bop_at, bop_al, bop_si, bop_mi, bop_ml, bop_mt, bop_ms, bop_mo, bop_fd, bop_pw, SZ, mSlc, mPart, slice, gUnp, gCon, gEnd, mLst, M.bad, mChn, sFor, loopM, xBi, xFz, fLst, mCalk, srcOf, isn_n, isn_b, isn_i, isn_s, isn_t, isn_l, isn_d, isn_r, isn_enc, mIte, h, hi2, ha]
    simp only [runD, b_112, sSeq, sAsg, sRet, sNx, mb, e1, rb_ok, mSet, mp, List.map, List.length, List.replicate, List.append, List.set, List.cons_append, List.nil_append]
    simp [mb, mp, e]
  · have hi2 : ¬ i < ns.length := by omega
    obtain ⟨a, b, p, e⟩ := potRun 0 i hi S [] k (some (.fz (.scr ns))) none
    refine ⟨_, ?_, fin a b p⟩
    have e1 : (mIte (xCmp .lt (mVar 1) (xLen (mBor 0))) (xIdx (mBor 0) (mVar 1)) (M.pure (.int 0))) [some (.fz (.scr ns)), some (.fz (.int i)), none] S = .ok (.int 0) [some (.fz (.scr ns)), some (.fz (.int i)), none] S := by
      simp (decide := true) [runD, enc, sSeq, sIf, sRet, sNx, sAsg, sEx, sRai, ↓mb, Res.bind, mp, M.of, mT, xIsi, mBor, mVar, isTy, mTruth, truth, mOr, mAnd, mIte, mNot, xCmp, cop, eqo_nn, eqo_nb, eqo_ni, eqo_ns, eqo_nt, eqo_nl, eqo_nd, eqo_bn, eqo_bb, eqo_bi, eqo_bs, eqo_bt, eqo_bl, eqo_bd, eqo_in, eqo_ib, eqo_ii, eqo_is, eqo_it, eqo_il, eqo_id, eqo_sn, eqo_sb, eqo_si, eqo_ss, eqo_st, eqo_sl, eqo_sd, eqo_tn, eqo_tb, eqo_ti, eqo_ts, eqo_tt, eqo_tl, eqo_td, eqo_ln, eqo_lb, eqo_li, eqo_ls, eqo_lt, eqo_ll, eqo_ld, eqo_dn, eqo_db, eqo_di, eqo_ds, eqo_dt, eqo_dl, eqo_dd, inOk, D.flat, xTup, aNil, aCons, mSet, plain_str, plain_tup, plain_int, plain_bl, plains_nil, plains_cons, eqb_str, eqb_int, eqb_bl, eqb_tup, eqbs_nil, eqbs_cn, eqbs_nc, eqbs_cc, eqb_nn, eqb_nb, eqb_ni, eqb_ns, eqb_nt, eqb_nl, eqb_nd, eqb_bn, eqb_bi, eqb_bs, eqb_bt, eqb_b_l, eqb_bd, eqb_in, eqb_ib, eqb_is, eqb_it, eqb_il, eqb_id, eqb_sn, eqb_sb, eqb_si, eqb_sl, eqb_sd, eqb_tn, eqb_tb, eqb_ti, eqb_tl, eqb_td, eqb_ln, eqb_lb, eqb_li, eqb_ls, eqb_lt, eqb_ll, eqb_ld, eqb_dn, eqb_db, eqb_di, eqb_ds, eqb_dt, eqb_dl, eqb_dd, plain_non, plain_lst, plain_dic, eqb_st, eqb_ts, xLen, bip, xIdx, mIdx, index, mItems, mList, xCall, pp_call, xBin, bop_ai, bop_as, bop_at, bop_al, bop_si, bop_mi, bop_ml, bop_mt, bop_ms, bop_mo, bop_fd, bop_pw, SZ, mSlc, mPart, slice, gUnp, gCon, gEnd, mLst, M.bad, mChn, sFor, loopM, xBi, xFz, fLst, mCalk, srcOf, isn_n, isn_b, isn_i, isn_s, isn_t, isn_l, isn_d, isn_r, isn_enc, mIte, h, hi2]
    simp only [runD, b_112, sSeq, sAsg, sRet, sNx, mb, e1, rb_ok, mSet, mp, List.map, List.length, List.replicate, List.append, List.set, List.cons_append, List.nil_append]
    simp [mb, mp, e]


end Ev

set_option Elab.async false
set_option linter.all false
set_option autoImplicit false
set_option maxRecDepth 100000
set_option maxHeartbeats 4000000
namespace Ev
open PySem
open Form
/-! ### forms, once more -/
theorem eqb_enc (f : Form) : ∀ g : Form, D.eqb (enc f) (enc g) = decide (f = g) := by
  induction f with
  | any => intro g; cases g <;> simp [enc, eqb_str, eqb_st]
  | num => intro g; cases g <;> simp [enc, eqb_str, eqb_st]
  | text => intro g; cases g <;> simp [enc, eqb_str, eqb_st]
  | deed a b iha ihb => intro g; cases g <;> simp [enc, eqb_tup, eqbs_cc, eqbs_nil, eqb_str, eqb_ts, eqbs_cn, eqbs_nc, iha, ihb]
  | box a iha => intro g; cases g <;> simp [enc, eqb_tup, eqbs_cc, eqbs_nil, eqb_str, eqb_ts, eqbs_cn, eqbs_nc, iha]
theorem eqo_enc (f g : Form) (hf : hgt f ≤ 50) (hg : hgt g ≤ 50) : eqo (enc f) (enc g) = some (decide (f = g)) := by
  have h1 := plain_enc f 60 (by omega)
  have h2 := plain_enc g 60 (by omega)
  have h3 := eqb_enc f g
  cases f <;> cases g <;> simp only [enc] at h1 h2 h3 ⊢ <;> simp [eqo, h1, h2, h3]
theorem near_refl (f : Form) : near f f = true := by induction f <;> simp [near, *]
theorem loose_refl (f : Form) : loose f f = true := by induction f <;> simp [loose, *]
theorem near_any (f : Form) : near f any = true := by cases f <;> rfl
theorem near_comm (f : Form) : ∀ g, near f g = near g f := by
  induction f with
  | deed a b iha ihb => intro g; cases g <;> simp [near]; rename_i c d; rw [iha, ihb]
  | box a iha => intro g; cases g <;> simp [near]; rename_i c; rw [iha]
  | _ => intro g; cases g <;> rfl
theorem meet_comm (f : Form) : ∀ g, near f g = true → meet f g = meet g f := by
  induction f with
  | deed a b iha ihb => intro g h; cases g <;> simp [near] at h <;> simp [meet]; rename_i c d; exact ⟨iha c h.1, ihb d h.2⟩
  | box a iha => intro g h; cases g <;> simp [near] at h <;> simp [meet]; rename_i c; exact iha c h
  | _ => intro g h; cases g <;> first | rfl | simp [near] at h
theorem loose_near (f : Form) : ∀ g, loose f g = true → near f g = true := by
  induction f with
  | deed a b iha ihb => intro g h; cases g <;> simp [loose] at h <;> simp [near]; exact ⟨iha _ h.1, ihb _ h.2⟩
  | box a iha => intro g h; cases g <;> simp [loose] at h <;> simp [near]; exact iha _ h
  | _ => intro g h; cases g <;> first | rfl | simp [loose] at h
theorem loose_anti (f : Form) : ∀ g, loose f g = true → loose g f = true → f = g := by
  induction f with
  | deed a b iha ihb => intro g h1 h2; cases g <;> simp [loose] at h1 h2; rw [iha _ h1.1 h2.1, ihb _ h1.2 h2.2]
  | box a iha => intro g h1 h2; cases g <;> simp [loose] at h1 h2; rw [iha _ h1 h2]
  | _ => intro g h1 h2; cases g <;> first | rfl | simp [loose] at h1 h2
theorem loose_trans (f : Form) : ∀ g h, loose f g = true → loose g h = true → loose f h = true := by
  induction f with
  | any => intro g h _ _; rfl
  | num => intro g h h1 h2; cases g <;> simp [loose] at h1; exact h2
  | text => intro g h h1 h2; cases g <;> simp [loose] at h1; exact h2
  | deed a b iha ihb => intro g h h1 h2; cases g <;> simp [loose] at h1; cases h <;> simp [loose] at h2; simp [loose]; exact ⟨iha _ _ h1.1 h2.1, ihb _ _ h1.2 h2.2⟩
  | box a iha => intro g h h1 h2; cases g <;> simp [loose] at h1; cases h <;> simp [loose] at h2; simp [loose]; exact iha _ _ h1 h2
theorem any_loose (g : Form) : loose any g = true := by cases g <;> rfl
theorem loose_meet_l (f : Form) : ∀ g, near f g = true → loose f (meet f g) = true := by
  induction f with
  | any => intro g _; exact any_loose _
  | deed a b iha ihb => intro g h; cases g <;> simp [near] at h <;> simp [meet, loose, loose_refl]; exact ⟨iha _ h.1, ihb _ h.2⟩
  | box a iha => intro g h; cases g <;> simp [near] at h <;> simp [meet, loose, loose_refl]; exact iha _ h
  | _ => intro g h; cases g <;> first | rfl | simp [near] at h
theorem loose_meet_r (f g : Form) (h : near f g = true) : loose g (meet f g) = true := by
  rw [meet_comm f g h]
  exact loose_meet_l g f (by rw [near_comm]; exact h)
/-- what two are looser than, they meet below -/
theorem meet_least (f : Form) : ∀ g x, loose f x = true → loose g x = true → near f g = true ∧ loose (meet f g) x = true := by
  induction f with
  | any => intro g x _ h; cases g <;> exact ⟨rfl, h⟩
  | num => intro g x h1 h2; cases x <;> simp [loose] at h1; cases g <;> simp [loose] at h2 <;> simp [near, meet, loose]
  | text => intro g x h1 h2; cases x <;> simp [loose] at h1; cases g <;> simp [loose] at h2 <;> simp [near, meet, loose]
  | deed a b iha ihb =>
    intro g x h1 h2
    cases x <;> simp [loose] at h1
    rename_i c d
    cases g <;> simp [loose] at h2
    · simp [near, meet, loose, h1]
    · rename_i e f
      have p := iha e c h1.1 h2.1
      have q := ihb f d h1.2 h2.2
      simp [near, meet, loose, p, q]
  | box a iha =>
    intro g x h1 h2
    cases x <;> simp [loose] at h1
    rename_i c
    cases g <;> simp [loose] at h2
    · simp [near, meet, loose, h1]
    · rename_i e
      have p := iha e c h1 h2
      simp [near, meet, loose, p]
theorem meet_self (f : Form) : meet f f = f := by induction f <;> simp [meet, *]
theorem loose_hgt (f : Form) : ∀ g, loose f g = true → hgt f ≤ hgt g := by
  induction f with
  | deed a b iha ihb => intro g h; cases g <;> simp [loose] at h; have := iha _ h.1; have := ihb _ h.2; simp only [hgt]; omega
  | box a iha => intro g h; cases g <;> simp [loose] at h; have := iha _ h; simp only [hgt]; omega
  | _ => intro g h; simp [hgt]
/-! ### drawn forms -/
theorem three {d : Nat} (h : d < 3) : d = 0 ∨ d = 1 ∨ d = 2 := by omega
theorem form_drawn (T : Tb) [Fn T 113 fd_113] [Fn T 114 fd_114] (h : Nat) : ∀ (S : Sto) (n k : Nat), Pot S n → h + 1 < k → ∃ (f : Form) (S' : Sto), callT T k 114 [.ref n, .int h] S = .ok (enc f) S' ∧ hgt f ≤ h ∧ Pot S' n ∧ S'.length = S.length := by
  have low : ∀ (h : Nat) (S : Sto) (n k : Nat) (d : Nat) (S1 : Sto), callT T k 113 [.ref n, .int 6] S = .ok (.int d) S1 → (h = 0 ∨ (d : Int) < 3) → Pot S1 n → 0 < k →
      ∃ (f : Form) (S' : Sto), runD (T.prm (callT T k)) fd_114 [.ref n, .int h] S = .ok (enc f) S' ∧ hgt f ≤ h ∧ Pot S' n ∧ S'.length = S1.length := by
    intro h S n k d S1 e1 hd p1 hk
    obtain ⟨d2, S2, e2, hd2, p2, l2⟩ := digit T p1 3 (by omega) (by omega) k hk
    have e2 : callT T k 113 [.ref n, .int 3] S1 = .ok (.int d2) S2 := e2
    have hz : ((h : Int) = 0) ↔ h = 0 := by omega
    by_cases h0 : h = 0
    · subst h0
      rcases three hd2 with rfl | rfl | rfl
      · exact ⟨any, S2, by simp (decide := true) [runD, enc, sSeq, sIf, sRet, sNx, sAsg, sEx, sRai, ↓mb, Res.bind, mp, M.of, mT, xIsi, mBor, mVar, isTy, mTruth, truth, mOr, mAnd, mIte, mNot, xCmp, cop, eqo_nn, eqo_nb, eqo_ni, eqo_ns, eqo_nt, eqo_nl, eqo_nd, eqo_bn, eqo_bb, eqo_bi, eqo_bs, eqo_bt, eqo_bl, eqo_bd, eqo_in, eqo_ib, eqo_ii, eqo_is, eqo_it, eqo_il, eqo_id, eqo_sn, eqo_sb, eqo_si, eqo_ss, eqo_st, eqo_sl, eqo_sd, eqo_tn, eqo_tb, eqo_ti, eqo_ts, eqo_tt, eqo_tl, eqo_td, eqo_ln, eqo_lb, eqo_li, eqo_ls, eqo_lt, eqo_ll, eqo_ld, eqo_dn, eqo_db, eqo_di, eqo_ds, eqo_dt, eqo_dl, eqo_dd, inOk, D.flat, xTup, aNil, aCons, mSet, plain_str, plain_tup, plain_int, plain_bl, plains_nil, plains_cons, eqb_str, eqb_int, eqb_bl, eqb_tup, eqbs_nil, eqbs_cn, eqbs_nc, eqbs_cc, eqb_nn, eqb_nb, eqb_ni, eqb_ns, eqb_nt, eqb_nl, eqb_nd, eqb_bn, eqb_bi, eqb_bs, eqb_bt, eqb_b_l, eqb_bd, eqb_in, eqb_ib, eqb_is, eqb_it, eqb_il, eqb_id, eqb_sn, eqb_sb, eqb_si, eqb_sl, eqb_sd, eqb_tn, eqb_tb, eqb_ti, eqb_tl, eqb_td, eqb_ln, eqb_lb, eqb_li, eqb_ls, eqb_lt, eqb_ll, eqb_ld, eqb_dn, eqb_db, eqb_di, eqb_ds, eqb_dt, eqb_dl, eqb_dd, plain_non, plain_lst, plain_dic, eqb_st, eqb_ts, xLen, bip, xIdx, mIdx, index, mItems, mList, xCall, pp_call, xBin, bop_ai, bop_as, bop_at, bop_al, bop_si, bop_mi, bop_ml, bop_mt, bop_ms, bop_mo, bop_fd, bop_pw, SZ, mSlc, mPart, slice, gUnp, gCon, gEnd, mLst, M.bad, mChn, sFor, loopM, xBi, xFz, fLst, mCalk, srcOf, isn_n, isn_b, isn_i, isn_s, isn_t, isn_l, isn_d, isn_r, isn_enc, b_114, e1, e2, atI], by simp [hgt], p2, l2⟩
      · exact ⟨num, S2, by simp (decide := true) [runD, enc, sSeq, sIf, sRet, sNx, sAsg, sEx, sRai, ↓mb, Res.bind, mp, M.of, mT, xIsi, mBor, mVar, isTy, mTruth, truth, mOr, mAnd, mIte, mNot, xCmp, cop, eqo_nn, eqo_nb, eqo_ni, eqo_ns, eqo_nt, eqo_nl, eqo_nd, eqo_bn, eqo_bb, eqo_bi, eqo_bs, eqo_bt, eqo_bl, eqo_bd, eqo_in, eqo_ib, eqo_ii, eqo_is, eqo_it, eqo_il, eqo_id, eqo_sn, eqo_sb, eqo_si, eqo_ss, eqo_st, eqo_sl, eqo_sd, eqo_tn, eqo_tb, eqo_ti, eqo_ts, eqo_tt, eqo_tl, eqo_td, eqo_ln, eqo_lb, eqo_li, eqo_ls, eqo_lt, eqo_ll, eqo_ld, eqo_dn, eqo_db, eqo_di, eqo_ds, eqo_dt, eqo_dl, eqo_dd, inOk, D.flat, xTup, aNil, aCons, mSet, plain_str, plain_tup, plain_int, plain_bl, plains_nil, plains_cons, eqb_str, eqb_int, eqb_bl, eqb_tup, eqbs_nil, eqbs_cn, eqbs_nc, eqbs_cc, eqb_nn, eqb_nb, eqb_ni, eqb_ns, eqb_nt, eqb_nl, eqb_nd, eqb_bn, eqb_bi, eqb_bs, eqb_bt, eqb_b_l, eqb_bd, eqb_in, eqb_ib, eqb_is, eqb_it, eqb_il, eqb_id, eqb_sn, eqb_sb, eqb_si, eqb_sl, eqb_sd, eqb_tn, eqb_tb, eqb_ti, eqb_tl, eqb_td, eqb_ln, eqb_lb, eqb_li, eqb_ls, eqb_lt, eqb_ll, eqb_ld, eqb_dn, eqb_db, eqb_di, eqb_ds, eqb_dt, eqb_dl, eqb_dd, plain_non, plain_lst, plain_dic, eqb_st, eqb_ts, xLen, bip, xIdx, mIdx, index, mItems, mList, xCall, pp_call, xBin, bop_ai, bop_as, bop_at, bop_al, bop_si, bop_mi, bop_ml, bop_mt, bop_ms, bop_mo, bop_fd, bop_pw, SZ, mSlc, mPart, slice, gUnp, gCon, gEnd, mLst, M.bad, mChn, sFor, loopM, xBi, xFz, fLst, mCalk, srcOf, isn_n, isn_b, isn_i, isn_s, isn_t, isn_l, isn_d, isn_r, isn_enc, b_114, e1, e2, atI], by simp [hgt], p2, l2⟩
      · exact ⟨text, S2, by simp (decide := true) [runD, enc, sSeq, sIf, sRet, sNx, sAsg, sEx, sRai, ↓mb, Res.bind, mp, M.of, mT, xIsi, mBor, mVar, isTy, mTruth, truth, mOr, mAnd, mIte, mNot, xCmp, cop, eqo_nn, eqo_nb, eqo_ni, eqo_ns, eqo_nt, eqo_nl, eqo_nd, eqo_bn, eqo_bb, eqo_bi, eqo_bs, eqo_bt, eqo_bl, eqo_bd, eqo_in, eqo_ib, eqo_ii, eqo_is, eqo_it, eqo_il, eqo_id, eqo_sn, eqo_sb, eqo_si, eqo_ss, eqo_st, eqo_sl, eqo_sd, eqo_tn, eqo_tb, eqo_ti, eqo_ts, eqo_tt, eqo_tl, eqo_td, eqo_ln, eqo_lb, eqo_li, eqo_ls, eqo_lt, eqo_ll, eqo_ld, eqo_dn, eqo_db, eqo_di, eqo_ds, eqo_dt, eqo_dl, eqo_dd, inOk, D.flat, xTup, aNil, aCons, mSet, plain_str, plain_tup, plain_int, plain_bl, plains_nil, plains_cons, eqb_str, eqb_int, eqb_bl, eqb_tup, eqbs_nil, eqbs_cn, eqbs_nc, eqbs_cc, eqb_nn, eqb_nb, eqb_ni, eqb_ns, eqb_nt, eqb_nl, eqb_nd, eqb_bn, eqb_bi, eqb_bs, eqb_bt, eqb_b_l, eqb_bd, eqb_in, eqb_ib, eqb_is, eqb_it, eqb_il, eqb_id, eqb_sn, eqb_sb, eqb_si, eqb_sl, eqb_sd, eqb_tn, eqb_tb, eqb_ti, eqb_tl, eqb_td, eqb_ln, eqb_lb, eqb_li, eqb_ls, eqb_lt, eqb_ll, eqb_ld, eqb_dn, eqb_db, eqb_di, eqb_ds, eqb_dt, eqb_dl, eqb_dd, plain_non, plain_lst, plain_dic, eqb_st, eqb_ts, xLen, bip, xIdx, mIdx, index, mItems, mList, xCall, pp_call, xBin, bop_ai, bop_as, bop_at, bop_al, bop_si, bop_mi, bop_ml, bop_mt, bop_ms, bop_mo, bop_fd, bop_pw, SZ, mSlc, mPart, slice, gUnp, gCon, gEnd, mLst, M.bad, mChn, sFor, loopM, xBi, xFz, fLst, mCalk, srcOf, isn_n, isn_b, isn_i, isn_s, isn_t, isn_l, isn_d, isn_r, isn_enc, b_114, e1, e2, atI], by simp [hgt], p2, l2⟩
    · have h3 : (d : Int) < 3 := by omega
      rcases three hd2 with rfl | rfl | rfl
      · exact ⟨any, S2, by simp (decide := true) [runD, enc, sSeq, sIf, sRet, sNx, sAsg, sEx, sRai, ↓mb, Res.bind, mp, M.of, mT, xIsi, mBor, mVar, isTy, mTruth, truth, mOr, mAnd, mIte, mNot, xCmp, cop, eqo_nn, eqo_nb, eqo_ni, eqo_ns, eqo_nt, eqo_nl, eqo_nd, eqo_bn, eqo_bb, eqo_bi, eqo_bs, eqo_bt, eqo_bl, eqo_bd, eqo_in, eqo_ib, eqo_ii, eqo_is, eqo_it, eqo_il, eqo_id, eqo_sn, eqo_sb, eqo_si, eqo_ss, eqo_st, eqo_sl, eqo_sd, eqo_tn, eqo_tb, eqo_ti, eqo_ts, eqo_tt, eqo_tl, eqo_td, eqo_ln, eqo_lb, eqo_li, eqo_ls, eqo_lt, eqo_ll, eqo_ld, eqo_dn, eqo_db, eqo_di, eqo_ds, eqo_dt, eqo_dl, eqo_dd, inOk, D.flat, xTup, aNil, aCons, mSet, plain_str, plain_tup, plain_int, plain_bl, plains_nil, plains_cons, eqb_str, eqb_int, eqb_bl, eqb_tup, eqbs_nil, eqbs_cn, eqbs_nc, eqbs_cc, eqb_nn, eqb_nb, eqb_ni, eqb_ns, eqb_nt, eqb_nl, eqb_nd, eqb_bn, eqb_bi, eqb_bs, eqb_bt, eqb_b_l, eqb_bd, eqb_in, eqb_ib, eqb_is, eqb_it, eqb_il, eqb_id, eqb_sn, eqb_sb, eqb_si, eqb_sl, eqb_sd, eqb_tn, eqb_tb, eqb_ti, eqb_tl, eqb_td, eqb_ln, eqb_lb, eqb_li, eqb_ls, eqb_lt, eqb_ll, eqb_ld, eqb_dn, eqb_db, eqb_di, eqb_ds, eqb_dt, eqb_dl, eqb_dd, plain_non, plain_lst, plain_dic, eqb_st, eqb_ts, xLen, bip, xIdx, mIdx, index, mItems, mList, xCall, pp_call, xBin, bop_ai, bop_as, bop_at, bop_al, bop_si, bop_mi, bop_ml, bop_mt, bop_ms, bop_mo, bop_fd, bop_pw, SZ, mSlc, mPart, slice, gUnp, gCon, gEnd, mLst, M.bad, mChn, sFor, loopM, xBi, xFz, fLst, mCalk, srcOf, isn_n, isn_b, isn_i, isn_s, isn_t, isn_l, isn_d, isn_r, isn_enc, b_114, e1, e2, atI, h0, h3], by simp [hgt], p2, l2⟩
      · exact ⟨num, S2, by simp (decide := true) [runD, enc, sSeq, sIf, sRet, sNx, sAsg, sEx, sRai, ↓mb, Res.bind, mp, M.of, mT, xIsi, mBor, mVar, isTy, mTruth, truth, mOr, mAnd, mIte, mNot, xCmp, cop, eqo_nn, eqo_nb, eqo_ni, eqo_ns, eqo_nt, eqo_nl, eqo_nd, eqo_bn, eqo_bb, eqo_bi, eqo_bs, eqo_bt, eqo_bl, eqo_bd, eqo_in, eqo_ib, eqo_ii, eqo_is, eqo_it, eqo_il, eqo_id, eqo_sn, eqo_sb, eqo_si, eqo_ss, eqo_st, eqo_sl, eqo_sd, eqo_tn, eqo_tb, eqo_ti, eqo_ts, eqo_tt, eqo_tl, eqo_td, eqo_ln, eqo_lb, eqo_li, eqo_ls, eqo_lt, eqo_ll, eqo_ld, eqo_dn, eqo_db, eqo_di, eqo_ds, eqo_dt, eqo_dl, eqo_dd, inOk, D.flat, xTup, aNil, aCons, mSet, plain_str, plain_tup, plain_int, plain_bl, plains_nil, plains_cons, eqb_str, eqb_int, eqb_bl, eqb_tup, eqbs_nil, eqbs_cn, eqbs_nc, eqbs_cc, eqb_nn, eqb_nb, eqb_ni, eqb_ns, eqb_nt, eqb_nl, eqb_nd, eqb_bn, eqb_bi, eqb_bs, eqb_bt, eqb_b_l, eqb_bd, eqb_in, eqb_ib, eqb_is, eqb_it, eqb_il, eqb_id, eqb_sn, eqb_sb, eqb_si, eqb_sl, eqb_sd, eqb_tn, eqb_tb, eqb_ti, eqb_tl, eqb_td, eqb_ln, eqb_lb, eqb_li, eqb_ls, eqb_lt, eqb_ll, eqb_ld, eqb_dn, eqb_db, eqb_di, eqb_ds, eqb_dt, eqb_dl, eqb_dd, plain_non, plain_lst, plain_dic, eqb_st, eqb_ts, xLen, bip, xIdx, mIdx, index, mItems, mList, xCall, pp_call, xBin, bop_ai, bop_as, bop_at, bop_al, bop_si, bop_mi, bop_ml, bop_mt, bop_ms, bop_mo, bop_fd, bop_pw, SZ, mSlc, mPart, slice, gUnp, gCon, gEnd, mLst, M.bad, mChn, sFor, loopM, xBi, xFz, fLst, mCalk, srcOf, isn_n, isn_b, isn_i, isn_s, isn_t, isn_l, isn_d, isn_r, isn_enc, b_114, e1, e2, atI, h0, h3], by simp [hgt], p2, l2⟩
      · exact ⟨text, S2, by simp (decide := true) [runD, enc, sSeq, sIf, sRet, sNx, sAsg, sEx, sRai, ↓mb, Res.bind, mp, M.of, mT, xIsi, mBor, mVar, isTy, mTruth, truth, mOr, mAnd, mIte, mNot, xCmp, cop, eqo_nn, eqo_nb, eqo_ni, eqo_ns, eqo_nt, eqo_nl, eqo_nd, eqo_bn, eqo_bb, eqo_bi, eqo_bs, eqo_bt, eqo_bl, eqo_bd, eqo_in, eqo_ib, eqo_ii, eqo_is, eqo_it, eqo_il, eqo_id, eqo_sn, eqo_sb, eqo_si, eqo_ss, eqo_st, eqo_sl, eqo_sd, eqo_tn, eqo_tb, eqo_ti, eqo_ts, eqo_tt, eqo_tl, eqo_td, eqo_ln, eqo_lb, eqo_li, eqo_ls, eqo_lt, eqo_ll, eqo_ld, eqo_dn, eqo_db, eqo_di, eqo_ds, eqo_dt, eqo_dl, eqo_dd, inOk, D.flat, xTup, aNil, aCons, mSet, plain_str, plain_tup, plain_int, plain_bl, plains_nil, plains_cons, eqb_str, eqb_int, eqb_bl, eqb_tup, eqbs_nil, eqbs_cn, eqbs_nc, eqbs_cc, eqb_nn, eqb_nb, eqb_ni, eqb_ns, eqb_nt, eqb_nl, eqb_nd, eqb_bn, eqb_bi, eqb_bs, eqb_bt, eqb_b_l, eqb_bd, eqb_in, eqb_ib, eqb_is, eqb_it, eqb_il, eqb_id, eqb_sn, eqb_sb, eqb_si, eqb_sl, eqb_sd, eqb_tn, eqb_tb, eqb_ti, eqb_tl, eqb_td, eqb_ln, eqb_lb, eqb_li, eqb_ls, eqb_lt, eqb_ll, eqb_ld, eqb_dn, eqb_db, eqb_di, eqb_ds, eqb_dt, eqb_dl, eqb_dd, plain_non, plain_lst, plain_dic, eqb_st, eqb_ts, xLen, bip, xIdx, mIdx, index, mItems, mList, xCall, pp_call, xBin, bop_ai, bop_as, bop_at, bop_al, bop_si, bop_mi, bop_ml, bop_mt, bop_ms, bop_mo, bop_fd, bop_pw, SZ, mSlc, mPart, slice, gUnp, gCon, gEnd, mLst, M.bad, mChn, sFor, loopM, xBi, xFz, fLst, mCalk, srcOf, isn_n, isn_b, isn_i, isn_s, isn_t, isn_l, isn_d, isn_r, isn_enc, b_114, e1, e2, atI, h0, h3], by simp [hgt], p2, l2⟩
  induction h with
  | zero =>
    intro S n k hp hk
    obtain ⟨k, rfl⟩ : ∃ j, k = j + 1 := ⟨k - 1, by omega⟩
    rw [call_step]
    obtain ⟨d, S1, e1, hd, p1, l1⟩ := digit T hp 6 (by omega) (by omega) k (by omega)
    obtain ⟨f, S2, q⟩ := low 0 S n k d S1 e1 (.inl rfl) p1 (by omega)
    exact ⟨f, S2, q.1, q.2.1, q.2.2.1, q.2.2.2.trans l1⟩
  | succ h ih =>
    intro S n k hp hk
    obtain ⟨k, rfl⟩ : ∃ j, k = j + 1 := ⟨k - 1, by omega⟩
    rw [call_step]
    obtain ⟨d, S1, e1, hd, p1, l1⟩ := digit T hp 6 (by omega) (by omega) k (by omega)
    by_cases h3 : (d : Int) < 3
    · obtain ⟨f, S2, q⟩ := low (h + 1) S n k d S1 e1 (.inr h3) p1 (by omega)
      exact ⟨f, S2, q.1, q.2.1, q.2.2.1, q.2.2.2.trans l1⟩
    · have e1 : callT T k 113 [.ref n, .int 6] S = .ok (.int d) S1 := e1
      have hz : ¬ ((h : Int) + 1 = 0) := by omega
      have hh : (h : Int) + 1 - 1 = h := by omega
      by_cases h5 : (d : Int) < 5
      · obtain ⟨f, S2, e2, hf, p2, l2⟩ := ih S1 n k p1 (by omega)
        obtain ⟨g, S3, e3, hg, p3, l3⟩ := ih S2 n k p2 (by omega)
        exact ⟨deed f g, S3, by simp (decide := true) [runD, enc, sSeq, sIf, sRet, sNx, sAsg, sEx, sRai, ↓mb, Res.bind, mp, M.of, mT, xIsi, mBor, mVar, isTy, mTruth, truth, mOr, mAnd, mIte, mNot, xCmp, cop, eqo_nn, eqo_nb, eqo_ni, eqo_ns, eqo_nt, eqo_nl, eqo_nd, eqo_bn, eqo_bb, eqo_bi, eqo_bs, eqo_bt, eqo_bl, eqo_bd, eqo_in, eqo_ib, eqo_ii, eqo_is, eqo_it, eqo_il, eqo_id, eqo_sn, eqo_sb, eqo_si, eqo_ss, eqo_st, eqo_sl, eqo_sd, eqo_tn, eqo_tb, eqo_ti, eqo_ts, eqo_tt, eqo_tl, eqo_td, eqo_ln, eqo_lb, eqo_li, eqo_ls, eqo_lt, eqo_ll, eqo_ld, eqo_dn, eqo_db, eqo_di, eqo_ds, eqo_dt, eqo_dl, eqo_dd, inOk, D.flat, xTup, aNil, aCons, mSet, plain_str, plain_tup, plain_int, plain_bl, plains_nil, plains_cons, eqb_str, eqb_int, eqb_bl, eqb_tup, eqbs_nil, eqbs_cn, eqbs_nc, eqbs_cc, eqb_nn, eqb_nb, eqb_ni, eqb_ns, eqb_nt, eqb_nl, eqb_nd, eqb_bn, eqb_bi, eqb_bs, eqb_bt, eqb_b_l, eqb_bd, eqb_in, eqb_ib, eqb_is, eqb_it, eqb_il, eqb_id, eqb_sn, eqb_sb, eqb_si, eqb_sl, eqb_sd, eqb_tn, eqb_tb, eqb_ti, eqb_tl, eqb_td, eqb_ln, eqb_lb, eqb_li, eqb_ls, eqb_lt, eqb_ll, eqb_ld, eqb_dn, eqb_db, eqb_di, eqb_ds, eqb_dt, eqb_dl, eqb_dd, plain_non, plain_lst, plain_dic, eqb_st, eqb_ts, xLen, bip, xIdx, mIdx, index, mItems, mList, xCall, pp_call, xBin, bop_ai, bop_as, bop_at, bop_al, bop_si, bop_mi, bop_ml, bop_mt, bop_ms, bop_mo, bop_fd, bop_pw, SZ, mSlc, mPart, slice, gUnp, gCon, gEnd, mLst, M.bad, mChn, sFor, loopM, xBi, xFz, fLst, mCalk, srcOf, isn_n, isn_b, isn_i, isn_s, isn_t, isn_l, isn_d, isn_r, isn_enc, b_114, e1, e2, e3, hz, hh, h3, h5], by simp only [hgt]; omega, p3, l3.trans (l2.trans l1)⟩
      · obtain ⟨f, S2, e2, hf, p2, l2⟩ := ih S1 n k p1 (by omega)
        exact ⟨box f, S2, by simp (decide := true) [runD, enc, sSeq, sIf, sRet, sNx, sAsg, sEx, sRai, ↓mb, Res.bind, mp, M.of, mT, xIsi, mBor, mVar, isTy, mTruth, truth, mOr, mAnd, mIte, mNot, xCmp, cop, eqo_nn, eqo_nb, eqo_ni, eqo_ns, eqo_nt, eqo_nl, eqo_nd, eqo_bn, eqo_bb, eqo_bi, eqo_bs, eqo_bt, eqo_bl, eqo_bd, eqo_in, eqo_ib, eqo_ii, eqo_is, eqo_it, eqo_il, eqo_id, eqo_sn, eqo_sb, eqo_si, eqo_ss, eqo_st, eqo_sl, eqo_sd, eqo_tn, eqo_tb, eqo_ti, eqo_ts, eqo_tt, eqo_tl, eqo_td, eqo_ln, eqo_lb, eqo_li, eqo_ls, eqo_lt, eqo_ll, eqo_ld, eqo_dn, eqo_db, eqo_di, eqo_ds, eqo_dt, eqo_dl, eqo_dd, inOk, D.flat, xTup, aNil, aCons, mSet, plain_str, plain_tup, plain_int, plain_bl, plains_nil, plains_cons, eqb_str, eqb_int, eqb_bl, eqb_tup, eqbs_nil, eqbs_cn, eqbs_nc, eqbs_cc, eqb_nn, eqb_nb, eqb_ni, eqb_ns, eqb_nt, eqb_nl, eqb_nd, eqb_bn, eqb_bi, eqb_bs, eqb_bt, eqb_b_l, eqb_bd, eqb_in, eqb_ib, eqb_is, eqb_it, eqb_il, eqb_id, eqb_sn, eqb_sb, eqb_si, eqb_sl, eqb_sd, eqb_tn, eqb_tb, eqb_ti, eqb_tl, eqb_td, eqb_ln, eqb_lb, eqb_li, eqb_ls, eqb_lt, eqb_ll, eqb_ld, eqb_dn, eqb_db, eqb_di, eqb_ds, eqb_dt, eqb_dl, eqb_dd, plain_non, plain_lst, plain_dic, eqb_st, eqb_ts, xLen, bip, xIdx, mIdx, index, mItems, mList, xCall, pp_call, xBin, bop_ai, bop_as, bop_at, bop_al, bop_si, bop_mi, bop_ml, bop_mt, bop_ms, bop_mo, bop_fd, bop_pw, SZ, mSlc, mPart, slice, gUnp, gCon, gEnd, mLst, M.bad, mChn, sFor, loopM, xBi, xFz, fLst, mCalk, srcOf, isn_n, isn_b, isn_i, isn_s, isn_t, isn_l, isn_d, isn_r, isn_enc, b_114, e1, e2, hz, hh, h3, h5], by simp only [hgt]; omega, p2, l2.trans l1⟩
theorem near_drawn (T : Tb) [Fn T 113 fd_113] [Fn T 114 fd_114] [Fn T 115 fd_115] (f : Form) : ∀ (h : Nat) (S : Sto) (n k : Nat), Pot S n → hgt f + h + 2 < k → hgt f ≤ 50 → ∃ (g : Form) (S' : Sto), callT T k 115 [.ref n, enc f, .int h] S = .ok (enc g) S' ∧ near f g = true ∧ hgt g ≤ max (hgt f) h ∧ Pot S' n ∧ S'.length = S.length := by
  induction f with
  | any =>
    intro h S n k hp hk h50
    obtain ⟨k, rfl⟩ : ∃ j, k = j + 1 := ⟨k - 1, by omega⟩
    rw [call_step]
    obtain ⟨d, S1, e1, hd, p1, l1⟩ := digit T hp 4 (by omega) (by omega) k (by omega)
    have e1 : callT T k 113 [.ref n, .int 4] S = .ok (.int d) S1 := e1
    by_cases hz : d = 0
    · subst hz; exact ⟨any, S1, by simp (decide := true) [runD, enc, sSeq, sIf, sRet, sNx, sAsg, sEx, sRai, ↓mb, Res.bind, mp, M.of, mT, xIsi, mBor, mVar, isTy, mTruth, truth, mOr, mAnd, mIte, mNot, xCmp, cop, eqo_nn, eqo_nb, eqo_ni, eqo_ns, eqo_nt, eqo_nl, eqo_nd, eqo_bn, eqo_bb, eqo_bi, eqo_bs, eqo_bt, eqo_bl, eqo_bd, eqo_in, eqo_ib, eqo_ii, eqo_is, eqo_it, eqo_il, eqo_id, eqo_sn, eqo_sb, eqo_si, eqo_ss, eqo_st, eqo_sl, eqo_sd, eqo_tn, eqo_tb, eqo_ti, eqo_ts, eqo_tt, eqo_tl, eqo_td, eqo_ln, eqo_lb, eqo_li, eqo_ls, eqo_lt, eqo_ll, eqo_ld, eqo_dn, eqo_db, eqo_di, eqo_ds, eqo_dt, eqo_dl, eqo_dd, inOk, D.flat, xTup, aNil, aCons, mSet, plain_str, plain_tup, plain_int, plain_bl, plains_nil, plains_cons, eqb_str, eqb_int, eqb_bl, eqb_tup, eqbs_nil, eqbs_cn, eqbs_nc, eqbs_cc, eqb_nn, eqb_nb, eqb_ni, eqb_ns, eqb_nt, eqb_nl, eqb_nd, eqb_bn, eqb_bi, eqb_bs, eqb_bt, eqb_b_l, eqb_bd, eqb_in, eqb_ib, eqb_is, eqb_it, eqb_il, eqb_id, eqb_sn, eqb_sb, eqb_si, eqb_sl, eqb_sd, eqb_tn, eqb_tb, eqb_ti, eqb_tl, eqb_td, eqb_ln, eqb_lb, eqb_li, eqb_ls, eqb_lt, eqb_ll, eqb_ld, eqb_dn, eqb_db, eqb_di, eqb_ds, eqb_dt, eqb_dl, eqb_dd, plain_non, plain_lst, plain_dic, eqb_st, eqb_ts, xLen, bip, xIdx, mIdx, index, mItems, mList, xCall, pp_call, xBin, bop_ai, bop_as, bop_at, bop_al, bop_si, bop_mi, bop_ml, bop_mt, bop_ms, bop_mo, bop_fd, bop_pw, SZ, mSlc, mPart, slice, gUnp, gCon, gEnd, mLst, M.bad, mChn, sFor, loopM, xBi, xFz, fLst, mCalk, srcOf, isn_n, isn_b, isn_i, isn_s, isn_t, isn_l, isn_d, isn_r, isn_enc, b_115, e1], rfl, by simp [hgt], p1, l1⟩
    · obtain ⟨g, S2, e2, hg, p2, l2⟩ := form_drawn T h S1 n k p1 (by simp only [hgt] at hk; omega)
      exact ⟨g, S2, by simp (decide := true) [runD, enc, sSeq, sIf, sRet, sNx, sAsg, sEx, sRai, ↓mb, Res.bind, mp, M.of, mT, xIsi, mBor, mVar, isTy, mTruth, truth, mOr, mAnd, mIte, mNot, xCmp, cop, eqo_nn, eqo_nb, eqo_ni, eqo_ns, eqo_nt, eqo_nl, eqo_nd, eqo_bn, eqo_bb, eqo_bi, eqo_bs, eqo_bt, eqo_bl, eqo_bd, eqo_in, eqo_ib, eqo_ii, eqo_is, eqo_it, eqo_il, eqo_id, eqo_sn, eqo_sb, eqo_si, eqo_ss, eqo_st, eqo_sl, eqo_sd, eqo_tn, eqo_tb, eqo_ti, eqo_ts, eqo_tt, eqo_tl, eqo_td, eqo_ln, eqo_lb, eqo_li, eqo_ls, eqo_lt, eqo_ll, eqo_ld, eqo_dn, eqo_db, eqo_di, eqo_ds, eqo_dt, eqo_dl, eqo_dd, inOk, D.flat, xTup, aNil, aCons, mSet, plain_str, plain_tup, plain_int, plain_bl, plains_nil, plains_cons, eqb_str, eqb_int, eqb_bl, eqb_tup, eqbs_nil, eqbs_cn, eqbs_nc, eqbs_cc, eqb_nn, eqb_nb, eqb_ni, eqb_ns, eqb_nt, eqb_nl, eqb_nd, eqb_bn, eqb_bi, eqb_bs, eqb_bt, eqb_b_l, eqb_bd, eqb_in, eqb_ib, eqb_is, eqb_it, eqb_il, eqb_id, eqb_sn, eqb_sb, eqb_si, eqb_sl, eqb_sd, eqb_tn, eqb_tb, eqb_ti, eqb_tl, eqb_td, eqb_ln, eqb_lb, eqb_li, eqb_ls, eqb_lt, eqb_ll, eqb_ld, eqb_dn, eqb_db, eqb_di, eqb_ds, eqb_dt, eqb_dl, eqb_dd, plain_non, plain_lst, plain_dic, eqb_st, eqb_ts, xLen, bip, xIdx, mIdx, index, mItems, mList, xCall, pp_call, xBin, bop_ai, bop_as, bop_at, bop_al, bop_si, bop_mi, bop_ml, bop_mt, bop_ms, bop_mo, bop_fd, bop_pw, SZ, mSlc, mPart, slice, gUnp, gCon, gEnd, mLst, M.bad, mChn, sFor, loopM, xBi, xFz, fLst, mCalk, srcOf, isn_n, isn_b, isn_i, isn_s, isn_t, isn_l, isn_d, isn_r, isn_enc, b_115, e1, e2, hz], rfl, by simp only [hgt]; omega, p2, l2.trans l1⟩
  | num =>
    intro h S n k hp hk h50
    obtain ⟨k, rfl⟩ : ∃ j, k = j + 1 := ⟨k - 1, by omega⟩
    rw [call_step]
    obtain ⟨d, S1, e1, hd, p1, l1⟩ := digit T hp 4 (by omega) (by omega) k (by omega)
    have e1 : callT T k 113 [.ref n, .int 4] S = .ok (.int d) S1 := e1
    by_cases hz : d = 0
    · subst hz; exact ⟨any, S1, by simp (decide := true) [runD, enc, sSeq, sIf, sRet, sNx, sAsg, sEx, sRai, ↓mb, Res.bind, mp, M.of, mT, xIsi, mBor, mVar, isTy, mTruth, truth, mOr, mAnd, mIte, mNot, xCmp, cop, eqo_nn, eqo_nb, eqo_ni, eqo_ns, eqo_nt, eqo_nl, eqo_nd, eqo_bn, eqo_bb, eqo_bi, eqo_bs, eqo_bt, eqo_bl, eqo_bd, eqo_in, eqo_ib, eqo_ii, eqo_is, eqo_it, eqo_il, eqo_id, eqo_sn, eqo_sb, eqo_si, eqo_ss, eqo_st, eqo_sl, eqo_sd, eqo_tn, eqo_tb, eqo_ti, eqo_ts, eqo_tt, eqo_tl, eqo_td, eqo_ln, eqo_lb, eqo_li, eqo_ls, eqo_lt, eqo_ll, eqo_ld, eqo_dn, eqo_db, eqo_di, eqo_ds, eqo_dt, eqo_dl, eqo_dd, inOk, D.flat, xTup, aNil, aCons, mSet, plain_str, plain_tup, plain_int, plain_bl, plains_nil, plains_cons, eqb_str, eqb_int, eqb_bl, eqb_tup, eqbs_nil, eqbs_cn, eqbs_nc, eqbs_cc, eqb_nn, eqb_nb, eqb_ni, eqb_ns, eqb_nt, eqb_nl, eqb_nd, eqb_bn, eqb_bi, eqb_bs, eqb_bt, eqb_b_l, eqb_bd, eqb_in, eqb_ib, eqb_is, eqb_it, eqb_il, eqb_id, eqb_sn, eqb_sb, eqb_si, eqb_sl, eqb_sd, eqb_tn, eqb_tb, eqb_ti, eqb_tl, eqb_td, eqb_ln, eqb_lb, eqb_li, eqb_ls, eqb_lt, eqb_ll, eqb_ld, eqb_dn, eqb_db, eqb_di, eqb_ds, eqb_dt, eqb_dl, eqb_dd, plain_non, plain_lst, plain_dic, eqb_st, eqb_ts, xLen, bip, xIdx, mIdx, index, mItems, mList, xCall, pp_call, xBin, bop_ai, bop_as, bop_at, bop_al, bop_si, bop_mi, bop_ml, bop_mt, bop_ms, bop_mo, bop_fd, bop_pw, SZ, mSlc, mPart, slice, gUnp, gCon, gEnd, mLst, M.bad, mChn, sFor, loopM, xBi, xFz, fLst, mCalk, srcOf, isn_n, isn_b, isn_i, isn_s, isn_t, isn_l, isn_d, isn_r, isn_enc, b_115, e1], rfl, by simp [hgt], p1, l1⟩
    · exact ⟨num, S1, by simp (decide := true) [runD, enc, sSeq, sIf, sRet, sNx, sAsg, sEx, sRai, ↓mb, Res.bind, mp, M.of, mT, xIsi, mBor, mVar, isTy, mTruth, truth, mOr, mAnd, mIte, mNot, xCmp, cop, eqo_nn, eqo_nb, eqo_ni, eqo_ns, eqo_nt, eqo_nl, eqo_nd, eqo_bn, eqo_bb, eqo_bi, eqo_bs, eqo_bt, eqo_bl, eqo_bd, eqo_in, eqo_ib, eqo_ii, eqo_is, eqo_it, eqo_il, eqo_id, eqo_sn, eqo_sb, eqo_si, eqo_ss, eqo_st, eqo_sl, eqo_sd, eqo_tn, eqo_tb, eqo_ti, eqo_ts, eqo_tt, eqo_tl, eqo_td, eqo_ln, eqo_lb, eqo_li, eqo_ls, eqo_lt, eqo_ll, eqo_ld, eqo_dn, eqo_db, eqo_di, eqo_ds, eqo_dt, eqo_dl, eqo_dd, inOk, D.flat, xTup, aNil, aCons, mSet, plain_str, plain_tup, plain_int, plain_bl, plains_nil, plains_cons, eqb_str, eqb_int, eqb_bl, eqb_tup, eqbs_nil, eqbs_cn, eqbs_nc, eqbs_cc, eqb_nn, eqb_nb, eqb_ni, eqb_ns, eqb_nt, eqb_nl, eqb_nd, eqb_bn, eqb_bi, eqb_bs, eqb_bt, eqb_b_l, eqb_bd, eqb_in, eqb_ib, eqb_is, eqb_it, eqb_il, eqb_id, eqb_sn, eqb_sb, eqb_si, eqb_sl, eqb_sd, eqb_tn, eqb_tb, eqb_ti, eqb_tl, eqb_td, eqb_ln, eqb_lb, eqb_li, eqb_ls, eqb_lt, eqb_ll, eqb_ld, eqb_dn, eqb_db, eqb_di, eqb_ds, eqb_dt, eqb_dl, eqb_dd, plain_non, plain_lst, plain_dic, eqb_st, eqb_ts, xLen, bip, xIdx, mIdx, index, mItems, mList, xCall, pp_call, xBin, bop_ai, bop_as, bop_at, bop_al, bop_si, bop_mi, bop_ml, bop_mt, bop_ms, bop_mo, bop_fd, bop_pw, SZ, mSlc, mPart, slice, gUnp, gCon, gEnd, mLst, M.bad, mChn, sFor, loopM, xBi, xFz, fLst, mCalk, srcOf, isn_n, isn_b, isn_i, isn_s, isn_t, isn_l, isn_d, isn_r, isn_enc, b_115, e1, hz], rfl, by simp only [hgt]; omega, p1, l1⟩
  | text =>
    intro h S n k hp hk h50
    obtain ⟨k, rfl⟩ : ∃ j, k = j + 1 := ⟨k - 1, by omega⟩
    rw [call_step]
    obtain ⟨d, S1, e1, hd, p1, l1⟩ := digit T hp 4 (by omega) (by omega) k (by omega)
    have e1 : callT T k 113 [.ref n, .int 4] S = .ok (.int d) S1 := e1
    by_cases hz : d = 0
    · subst hz; exact ⟨any, S1, by simp (decide := true) [runD, enc, sSeq, sIf, sRet, sNx, sAsg, sEx, sRai, ↓mb, Res.bind, mp, M.of, mT, xIsi, mBor, mVar, isTy, mTruth, truth, mOr, mAnd, mIte, mNot, xCmp, cop, eqo_nn, eqo_nb, eqo_ni, eqo_ns, eqo_nt, eqo_nl, eqo_nd, eqo_bn, eqo_bb, eqo_bi, eqo_bs, eqo_bt, eqo_bl, eqo_bd, eqo_in, eqo_ib, eqo_ii, eqo_is, eqo_it, eqo_il, eqo_id, eqo_sn, eqo_sb, eqo_si, eqo_ss, eqo_st, eqo_sl, eqo_sd, eqo_tn, eqo_tb, eqo_ti, eqo_ts, eqo_tt, eqo_tl, eqo_td, eqo_ln, eqo_lb, eqo_li, eqo_ls, eqo_lt, eqo_ll, eqo_ld, eqo_dn, eqo_db, eqo_di, eqo_ds, eqo_dt, eqo_dl, eqo_dd, inOk, D.flat, xTup, aNil, aCons, mSet, plain_str, plain_tup, plain_int, plain_bl, plains_nil, plains_cons, eqb_str, eqb_int, eqb_bl, eqb_tup, eqbs_nil, eqbs_cn, eqbs_nc, eqbs_cc, eqb_nn, eqb_nb, eqb_ni, eqb_ns, eqb_nt, eqb_nl, eqb_nd, eqb_bn, eqb_bi, eqb_bs, eqb_bt, eqb_b_l, eqb_bd, eqb_in, eqb_ib, eqb_is, eqb_it, eqb_il, eqb_id, eqb_sn, eqb_sb, eqb_si, eqb_sl, eqb_sd, eqb_tn, eqb_tb, eqb_ti, eqb_tl, eqb_td, eqb_ln, eqb_lb, eqb_li, eqb_ls, eqb_lt, eqb_ll, eqb_ld, eqb_dn, eqb_db, eqb_di, eqb_ds, eqb_dt, eqb_dl, eqb_dd, plain_non, plain_lst, plain_dic, eqb_st, eqb_ts, xLen, bip, xIdx, mIdx, index, mItems, mList, xCall, pp_call, xBin, bop_ai, bop_as, bop_at, bop_al, bop_si, bop_mi, bop_ml, bop_mt, bop_ms, bop_mo, bop_fd, bop_pw, SZ, mSlc, mPart, slice, gUnp, gCon, gEnd, mLst, M.bad, mChn, sFor, loopM, xBi, xFz, fLst, mCalk, srcOf, isn_n, isn_b, isn_i, isn_s, isn_t, isn_l, isn_d, isn_r, isn_enc, b_115, e1], rfl, by simp [hgt], p1, l1⟩
    · exact ⟨text, S1, by simp (decide := true) [runD, enc, sSeq, sIf, sRet, sNx, sAsg, sEx, sRai, ↓mb, Res.bind, mp, M.of, mT, xIsi, mBor, mVar, isTy, mTruth, truth, mOr, mAnd, mIte, mNot, xCmp, cop, eqo_nn, eqo_nb, eqo_ni, eqo_ns, eqo_nt, eqo_nl, eqo_nd, eqo_bn, eqo_bb, eqo_bi, eqo_bs, eqo_bt, eqo_bl, eqo_bd, eqo_in, eqo_ib, eqo_ii, eqo_is, eqo_it, eqo_il, eqo_id, eqo_sn, eqo_sb, eqo_si, eqo_ss, eqo_st, eqo_sl, eqo_sd, eqo_tn, eqo_tb, eqo_ti, eqo_ts, eqo_tt, eqo_tl, eqo_td, eqo_ln, eqo_lb, eqo_li, eqo_ls, eqo_lt, eqo_ll, eqo_ld, eqo_dn, eqo_db, eqo_di, eqo_ds, eqo_dt, eqo_dl, eqo_dd, inOk, D.flat, xTup, aNil, aCons, mSet, plain_str, plain_tup, plain_int, plain_bl, plains_nil, plains_cons, eqb_str, eqb_int, eqb_bl, eqb_tup, eqbs_nil, eqbs_cn, eqbs_nc, eqbs_cc, eqb_nn, eqb_nb, eqb_ni, eqb_ns, eqb_nt, eqb_nl, eqb_nd, eqb_bn, eqb_bi, eqb_bs, eqb_bt, eqb_b_l, eqb_bd, eqb_in, eqb_ib, eqb_is, eqb_it, eqb_il, eqb_id, eqb_sn, eqb_sb, eqb_si, eqb_sl, eqb_sd, eqb_tn, eqb_tb, eqb_ti, eqb_tl, eqb_td, eqb_ln, eqb_lb, eqb_li, eqb_ls, eqb_lt, eqb_ll, eqb_ld, eqb_dn, eqb_db, eqb_di, eqb_ds, eqb_dt, eqb_dl, eqb_dd, plain_non, plain_lst, plain_dic, eqb_st, eqb_ts, xLen, bip, xIdx, mIdx, index, mItems, mList, xCall, pp_call, xBin, bop_ai, bop_as, bop_at, bop_al, bop_si, bop_mi, bop_ml, bop_mt, bop_ms, bop_mo, bop_fd, bop_pw, SZ, mSlc, mPart, slice, gUnp, gCon, gEnd, mLst, M.bad, mChn, sFor, loopM, xBi, xFz, fLst, mCalk, srcOf, isn_n, isn_b, isn_i, isn_s, isn_t, isn_l, isn_d, isn_r, isn_enc, b_115, e1, hz], rfl, by simp only [hgt]; omega, p1, l1⟩
  | deed a b iha ihb =>
    intro h S n k hp hk h50
    obtain ⟨k, rfl⟩ : ∃ j, k = j + 1 := ⟨k - 1, by omega⟩
    rw [call_step]
    have hp1 := plain_deed 60 a b (by omega)
    obtain ⟨d, S1, e1, hd, p1, l1⟩ := digit T hp 4 (by omega) (by omega) k (by omega)
    have e1 : callT T k 113 [.ref n, .int 4] S = .ok (.int d) S1 := e1
    by_cases hz : d = 0
    · subst hz; exact ⟨any, S1, by simp (decide := true) [runD, enc, sSeq, sIf, sRet, sNx, sAsg, sEx, sRai, ↓mb, Res.bind, mp, M.of, mT, xIsi, mBor, mVar, isTy, mTruth, truth, mOr, mAnd, mIte, mNot, xCmp, cop, eqo_nn, eqo_nb, eqo_ni, eqo_ns, eqo_nt, eqo_nl, eqo_nd, eqo_bn, eqo_bb, eqo_bi, eqo_bs, eqo_bt, eqo_bl, eqo_bd, eqo_in, eqo_ib, eqo_ii, eqo_is, eqo_it, eqo_il, eqo_id, eqo_sn, eqo_sb, eqo_si, eqo_ss, eqo_st, eqo_sl, eqo_sd, eqo_tn, eqo_tb, eqo_ti, eqo_ts, eqo_tt, eqo_tl, eqo_td, eqo_ln, eqo_lb, eqo_li, eqo_ls, eqo_lt, eqo_ll, eqo_ld, eqo_dn, eqo_db, eqo_di, eqo_ds, eqo_dt, eqo_dl, eqo_dd, inOk, D.flat, xTup, aNil, aCons, mSet, plain_str, plain_tup, plain_int, plain_bl, plains_nil, plains_cons, eqb_str, eqb_int, eqb_bl, eqb_tup, eqbs_nil, eqbs_cn, eqbs_nc, eqbs_cc, eqb_nn, eqb_nb, eqb_ni, eqb_ns, eqb_nt, eqb_nl, eqb_nd, eqb_bn, eqb_bi, eqb_bs, eqb_bt, eqb_b_l, eqb_bd, eqb_in, eqb_ib, eqb_is, eqb_it, eqb_il, eqb_id, eqb_sn, eqb_sb, eqb_si, eqb_sl, eqb_sd, eqb_tn, eqb_tb, eqb_ti, eqb_tl, eqb_td, eqb_ln, eqb_lb, eqb_li, eqb_ls, eqb_lt, eqb_ll, eqb_ld, eqb_dn, eqb_db, eqb_di, eqb_ds, eqb_dt, eqb_dl, eqb_dd, plain_non, plain_lst, plain_dic, eqb_st, eqb_ts, xLen, bip, xIdx, mIdx, index, mItems, mList, xCall, pp_call, xBin, bop_ai, bop_as, bop_at, bop_al, bop_si, bop_mi, bop_ml, bop_mt, bop_ms, bop_mo, bop_fd, bop_pw, SZ, mSlc, mPart, slice, gUnp, gCon, gEnd, mLst, M.bad, mChn, sFor, loopM, xBi, xFz, fLst, mCalk, srcOf, isn_n, isn_b, isn_i, isn_s, isn_t, isn_l, isn_d, isn_r, isn_enc, b_115, e1], rfl, by simp [hgt], p1, l1⟩
    · simp only [hgt] at hk h50
      obtain ⟨f, S2, e2, n2, hf, p2, l2⟩ := iha (h - 1) S1 n k p1 (by omega) (by omega)
      obtain ⟨g, S3, e3, n3, hg, p3, l3⟩ := ihb (h - 1) S2 n k p2 (by omega) (by omega)
      have hm : (if 1 < (h : Int) then (h : Int) - 1 else 0) = ((h - 1 : Nat) : Int) := by split <;> omega
      exact ⟨deed f g, S3, by simp (decide := true) [runD, enc, sSeq, sIf, sRet, sNx, sAsg, sEx, sRai, ↓mb, Res.bind, mp, M.of, mT, xIsi, mBor, mVar, isTy, mTruth, truth, mOr, mAnd, mIte, mNot, xCmp, cop, eqo_nn, eqo_nb, eqo_ni, eqo_ns, eqo_nt, eqo_nl, eqo_nd, eqo_bn, eqo_bb, eqo_bi, eqo_bs, eqo_bt, eqo_bl, eqo_bd, eqo_in, eqo_ib, eqo_ii, eqo_is, eqo_it, eqo_il, eqo_id, eqo_sn, eqo_sb, eqo_si, eqo_ss, eqo_st, eqo_sl, eqo_sd, eqo_tn, eqo_tb, eqo_ti, eqo_ts, eqo_tt, eqo_tl, eqo_td, eqo_ln, eqo_lb, eqo_li, eqo_ls, eqo_lt, eqo_ll, eqo_ld, eqo_dn, eqo_db, eqo_di, eqo_ds, eqo_dt, eqo_dl, eqo_dd, inOk, D.flat, xTup, aNil, aCons, mSet, plain_str, plain_tup, plain_int, plain_bl, plains_nil, plains_cons, eqb_str, eqb_int, eqb_bl, eqb_tup, eqbs_nil, eqbs_cn, eqbs_nc, eqbs_cc, eqb_nn, eqb_nb, eqb_ni, eqb_ns, eqb_nt, eqb_nl, eqb_nd, eqb_bn, eqb_bi, eqb_bs, eqb_bt, eqb_b_l, eqb_bd, eqb_in, eqb_ib, eqb_is, eqb_it, eqb_il, eqb_id, eqb_sn, eqb_sb, eqb_si, eqb_sl, eqb_sd, eqb_tn, eqb_tb, eqb_ti, eqb_tl, eqb_td, eqb_ln, eqb_lb, eqb_li, eqb_ls, eqb_lt, eqb_ll, eqb_ld, eqb_dn, eqb_db, eqb_di, eqb_ds, eqb_dt, eqb_dl, eqb_dd, plain_non, plain_lst, plain_dic, eqb_st, eqb_ts, xLen, bip, xIdx, mIdx, index, mItems, mList, xCall, pp_call, xBin, bop_ai, bop_as, bop_at, bop_al, bop_si, bop_mi, bop_ml, bop_mt, bop_ms, bop_mo, bop_fd, bop_pw, SZ, mSlc, mPart, slice, gUnp, gCon, gEnd, mLst, M.bad, mChn, sFor, loopM, xBi, xFz, fLst, mCalk, srcOf, isn_n, isn_b, isn_i, isn_s, isn_t, isn_l, isn_d, isn_r, isn_enc, gStar, dget, atI, fComp, noX, Res.noX, mWipe, cmpR, wipeE, blsOf, intsOf, txtsOf, cut, sIx, mZs, zsOf, zipD, mZip, zipOf, mRng1, mRng2, rngD, mCount, mIndexL, mMt, tyIs, mtp, findD, sTryAs, mIsE, noEx, sPar, sPar3, xRev, revD, sTry, reps, b_115, e1, e2, e3, hz, hp1, hm], by simp [near, n2, n3], by simp only [hgt]; omega, p3, l3.trans (l2.trans l1)⟩
  | box a iha =>
    intro h S n k hp hk h50
    obtain ⟨k, rfl⟩ : ∃ j, k = j + 1 := ⟨k - 1, by omega⟩
    rw [call_step]
    have hp1 := plain_box 60 a (by omega)
    obtain ⟨d, S1, e1, hd, p1, l1⟩ := digit T hp 4 (by omega) (by omega) k (by omega)
    have e1 : callT T k 113 [.ref n, .int 4] S = .ok (.int d) S1 := e1
    by_cases hz : d = 0
    · subst hz; exact ⟨any, S1, by simp (decide := true) [runD, enc, sSeq, sIf, sRet, sNx, sAsg, sEx, sRai, ↓mb, Res.bind, mp, M.of, mT, xIsi, mBor, mVar, isTy, mTruth, truth, mOr, mAnd, mIte, mNot, xCmp, cop, eqo_nn, eqo_nb, eqo_ni, eqo_ns, eqo_nt, eqo_nl, eqo_nd, eqo_bn, eqo_bb, eqo_bi, eqo_bs, eqo_bt, eqo_bl, eqo_bd, eqo_in, eqo_ib, eqo_ii, eqo_is, eqo_it, eqo_il, eqo_id, eqo_sn, eqo_sb, eqo_si, eqo_ss, eqo_st, eqo_sl, eqo_sd, eqo_tn, eqo_tb, eqo_ti, eqo_ts, eqo_tt, eqo_tl, eqo_td, eqo_ln, eqo_lb, eqo_li, eqo_ls, eqo_lt, eqo_ll, eqo_ld, eqo_dn, eqo_db, eqo_di, eqo_ds, eqo_dt, eqo_dl, eqo_dd, inOk, D.flat, xTup, aNil, aCons, mSet, plain_str, plain_tup, plain_int, plain_bl, plains_nil, plains_cons, eqb_str, eqb_int, eqb_bl, eqb_tup, eqbs_nil, eqbs_cn, eqbs_nc, eqbs_cc, eqb_nn, eqb_nb, eqb_ni, eqb_ns, eqb_nt, eqb_nl, eqb_nd, eqb_bn, eqb_bi, eqb_bs, eqb_bt, eqb_b_l, eqb_bd, eqb_in, eqb_ib, eqb_is, eqb_it, eqb_il, eqb_id, eqb_sn, eqb_sb, eqb_si, eqb_sl, eqb_sd, eqb_tn, eqb_tb, eqb_ti, eqb_tl, eqb_td, eqb_ln, eqb_lb, eqb_li, eqb_ls, eqb_lt, eqb_ll, eqb_ld, eqb_dn, eqb_db, eqb_di, eqb_ds, eqb_dt, eqb_dl, eqb_dd, plain_non, plain_lst, plain_dic, eqb_st, eqb_ts, xLen, bip, xIdx, mIdx, index, mItems, mList, xCall, pp_call, xBin, bop_ai, bop_as, bop_at, bop_al, bop_si, bop_mi, bop_ml, bop_mt, bop_ms, bop_mo, bop_fd, bop_pw, SZ, mSlc, mPart, slice, gUnp, gCon, gEnd, mLst, M.bad, mChn, sFor, loopM, xBi, xFz, fLst, mCalk, srcOf, isn_n, isn_b, isn_i, isn_s, isn_t, isn_l, isn_d, isn_r, isn_enc, b_115, e1], rfl, by simp [hgt], p1, l1⟩
    · simp only [hgt] at hk h50
      obtain ⟨f, S2, e2, n2, hf, p2, l2⟩ := iha (h - 1) S1 n k p1 (by omega) (by omega)
      have hm : (if 1 < (h : Int) then (h : Int) - 1 else 0) = ((h - 1 : Nat) : Int) := by split <;> omega
      exact ⟨box f, S2, by simp (decide := true) [runD, enc, sSeq, sIf, sRet, sNx, sAsg, sEx, sRai, ↓mb, Res.bind, mp, M.of, mT, xIsi, mBor, mVar, isTy, mTruth, truth, mOr, mAnd, mIte, mNot, xCmp, cop, eqo_nn, eqo_nb, eqo_ni, eqo_ns, eqo_nt, eqo_nl, eqo_nd, eqo_bn, eqo_bb, eqo_bi, eqo_bs, eqo_bt, eqo_bl, eqo_bd, eqo_in, eqo_ib, eqo_ii, eqo_is, eqo_it, eqo_il, eqo_id, eqo_sn, eqo_sb, eqo_si, eqo_ss, eqo_st, eqo_sl, eqo_sd, eqo_tn, eqo_tb, eqo_ti, eqo_ts, eqo_tt, eqo_tl, eqo_td, eqo_ln, eqo_lb, eqo_li, eqo_ls, eqo_lt, eqo_ll, eqo_ld, eqo_dn, eqo_db, eqo_di, eqo_ds, eqo_dt, eqo_dl, eqo_dd, inOk, D.flat, xTup, aNil, aCons, mSet, plain_str, plain_tup, plain_int, plain_bl, plains_nil, plains_cons, eqb_str, eqb_int, eqb_bl, eqb_tup, eqbs_nil, eqbs_cn, eqbs_nc, eqbs_cc, eqb_nn, eqb_nb, eqb_ni, eqb_ns, eqb_nt, eqb_nl, eqb_nd, eqb_bn, eqb_bi, eqb_bs, eqb_bt, eqb_b_l, eqb_bd, eqb_in, eqb_ib, eqb_is, eqb_it, eqb_il, eqb_id, eqb_sn, eqb_sb, eqb_si, eqb_sl, eqb_sd, eqb_tn, eqb_tb, eqb_ti, eqb_tl, eqb_td, eqb_ln, eqb_lb, eqb_li, eqb_ls, eqb_lt, eqb_ll, eqb_ld, eqb_dn, eqb_db, eqb_di, eqb_ds, eqb_dt, eqb_dl, eqb_dd, plain_non, plain_lst, plain_dic, eqb_st, eqb_ts, xLen, bip, xIdx, mIdx, index, mItems, mList, xCall, pp_call, xBin, bop_ai, bop_as, bop_at, bop_al, bop_si, bop_mi, bop_ml, bop_mt, bop_ms, bop_mo, bop_fd, bop_pw, SZ, mSlc, mPart, slice, gUnp, gCon, gEnd, mLst, M.bad, mChn, sFor, loopM, xBi, xFz, fLst, mCalk, srcOf, isn_n, isn_b, isn_i, isn_s, isn_t, isn_l, isn_d, isn_r, isn_enc, gStar, dget, atI, fComp, noX, Res.noX, mWipe, cmpR, wipeE, blsOf, intsOf, txtsOf, cut, sIx, mZs, zsOf, zipD, mZip, zipOf, mRng1, mRng2, rngD, mCount, mIndexL, mMt, tyIs, mtp, findD, sTryAs, mIsE, noEx, sPar, sPar3, xRev, revD, sTry, reps, b_115, e1, e2, hz, hp1, hm], by simp [near, n2], by simp only [hgt]; omega, p2, l2.trans l1⟩
theorem looser_drawn (T : Tb) [Fn T 113 fd_113] [Fn T 128 fd_128] (f : Form) : ∀ (S : Sto) (n k : Nat), Pot S n → hgt f + 2 < k → hgt f ≤ 50 → ∃ (g : Form) (S' : Sto), callT T k 128 [.ref n, enc f] S = .ok (enc g) S' ∧ loose g f = true ∧ Pot S' n ∧ S'.length = S.length := by
  induction f with
  | deed a b iha ihb =>
    intro S n k hp hk h50
    obtain ⟨k, rfl⟩ : ∃ j, k = j + 1 := ⟨k - 1, by omega⟩
    rw [call_step]
    have hp1 := plain_deed 60 a b (by omega)
    obtain ⟨d, S1, e1, hd, p1, l1⟩ := digit T hp 4 (by omega) (by omega) k (by omega)
    have e1 : callT T k 113 [.ref n, .int 4] S = .ok (.int d) S1 := e1
    by_cases hz : d = 0
    · subst hz; exact ⟨any, S1, by simp (decide := true) [runD, enc, sSeq, sIf, sRet, sNx, sAsg, sEx, sRai, ↓mb, Res.bind, mp, M.of, mT, xIsi, mBor, mVar, isTy, mTruth, truth, mOr, mAnd, mIte, mNot, xCmp, cop, eqo_nn, eqo_nb, eqo_ni, eqo_ns, eqo_nt, eqo_nl, eqo_nd, eqo_bn, eqo_bb, eqo_bi, eqo_bs, eqo_bt, eqo_bl, eqo_bd, eqo_in, eqo_ib, eqo_ii, eqo_is, eqo_it, eqo_il, eqo_id, eqo_sn, eqo_sb, eqo_si, eqo_ss, eqo_st, eqo_sl, eqo_sd, eqo_tn, eqo_tb, eqo_ti, eqo_ts, eqo_tt, eqo_tl, eqo_td, eqo_ln, eqo_lb, eqo_li, eqo_ls, eqo_lt, eqo_ll, eqo_ld, eqo_dn, eqo_db, eqo_di, eqo_ds, eqo_dt, eqo_dl, eqo_dd, inOk, D.flat, xTup, aNil, aCons, mSet, plain_str, plain_tup, plain_int, plain_bl, plains_nil, plains_cons, eqb_str, eqb_int, eqb_bl, eqb_tup, eqbs_nil, eqbs_cn, eqbs_nc, eqbs_cc, eqb_nn, eqb_nb, eqb_ni, eqb_ns, eqb_nt, eqb_nl, eqb_nd, eqb_bn, eqb_bi, eqb_bs, eqb_bt, eqb_b_l, eqb_bd, eqb_in, eqb_ib, eqb_is, eqb_it, eqb_il, eqb_id, eqb_sn, eqb_sb, eqb_si, eqb_sl, eqb_sd, eqb_tn, eqb_tb, eqb_ti, eqb_tl, eqb_td, eqb_ln, eqb_lb, eqb_li, eqb_ls, eqb_lt, eqb_ll, eqb_ld, eqb_dn, eqb_db, eqb_di, eqb_ds, eqb_dt, eqb_dl, eqb_dd, plain_non, plain_lst, plain_dic, eqb_st, eqb_ts, xLen, bip, xIdx, mIdx, index, mItems, mList, xCall, pp_call, xBin, bop_ai, bop_as, bop_at, bop_al, bop_si, bop_mi, bop_ml, bop_mt, bop_ms, bop_mo, bop_fd, bop_pw, SZ, mSlc, mPart, slice, gUnp, gCon, gEnd, mLst, M.bad, mChn, sFor, loopM, xBi, xFz, fLst, mCalk, srcOf, isn_n, isn_b, isn_i, isn_s, isn_t, isn_l, isn_d, isn_r, isn_enc, b_128, e1], rfl, p1, l1⟩
    · simp only [hgt] at hk h50
      obtain ⟨f, S2, e2, n2, p2, l2⟩ := iha S1 n k p1 (by omega) (by omega)
      obtain ⟨g, S3, e3, n3, p3, l3⟩ := ihb S2 n k p2 (by omega) (by omega)
      exact ⟨deed f g, S3, by simp (decide := true) [runD, enc, sSeq, sIf, sRet, sNx, sAsg, sEx, sRai, ↓mb, Res.bind, mp, M.of, mT, xIsi, mBor, mVar, isTy, mTruth, truth, mOr, mAnd, mIte, mNot, xCmp, cop, eqo_nn, eqo_nb, eqo_ni, eqo_ns, eqo_nt, eqo_nl, eqo_nd, eqo_bn, eqo_bb, eqo_bi, eqo_bs, eqo_bt, eqo_bl, eqo_bd, eqo_in, eqo_ib, eqo_ii, eqo_is, eqo_it, eqo_il, eqo_id, eqo_sn, eqo_sb, eqo_si, eqo_ss, eqo_st, eqo_sl, eqo_sd, eqo_tn, eqo_tb, eqo_ti, eqo_ts, eqo_tt, eqo_tl, eqo_td, eqo_ln, eqo_lb, eqo_li, eqo_ls, eqo_lt, eqo_ll, eqo_ld, eqo_dn, eqo_db, eqo_di, eqo_ds, eqo_dt, eqo_dl, eqo_dd, inOk, D.flat, xTup, aNil, aCons, mSet, plain_str, plain_tup, plain_int, plain_bl, plains_nil, plains_cons, eqb_str, eqb_int, eqb_bl, eqb_tup, eqbs_nil, eqbs_cn, eqbs_nc, eqbs_cc, eqb_nn, eqb_nb, eqb_ni, eqb_ns, eqb_nt, eqb_nl, eqb_nd, eqb_bn, eqb_bi, eqb_bs, eqb_bt, eqb_b_l, eqb_bd, eqb_in, eqb_ib, eqb_is, eqb_it, eqb_il, eqb_id, eqb_sn, eqb_sb, eqb_si, eqb_sl, eqb_sd, eqb_tn, eqb_tb, eqb_ti, eqb_tl, eqb_td, eqb_ln, eqb_lb, eqb_li, eqb_ls, eqb_lt, eqb_ll, eqb_ld, eqb_dn, eqb_db, eqb_di, eqb_ds, eqb_dt, eqb_dl, eqb_dd, plain_non, plain_lst, plain_dic, eqb_st, eqb_ts, xLen, bip, xIdx, mIdx, index, mItems, mList, xCall, pp_call, xBin, bop_ai, bop_as, bop_at, bop_al, bop_si, bop_mi, bop_ml, bop_mt, bop_ms, bop_mo, bop_fd, bop_pw, SZ, mSlc, mPart, slice, gUnp, gCon, gEnd, mLst, M.bad, mChn, sFor, loopM, xBi, xFz, fLst, mCalk, srcOf, isn_n, isn_b, isn_i, isn_s, isn_t, isn_l, isn_d, isn_r, isn_enc, gStar, dget, atI, fComp, noX, Res.noX, mWipe, cmpR, wipeE, blsOf, intsOf, txtsOf, cut, sIx, mZs, zsOf, zipD, mZip, zipOf, mRng1, mRng2, rngD, mCount, mIndexL, mMt, tyIs, mtp, findD, sTryAs, mIsE, noEx, sPar, sPar3, xRev, revD, sTry, reps, b_128, e1, e2, e3, hz, hp1], by simp [loose, n2, n3], p3, l3.trans (l2.trans l1)⟩
  | box a iha =>
    intro S n k hp hk h50
    obtain ⟨k, rfl⟩ : ∃ j, k = j + 1 := ⟨k - 1, by omega⟩
    rw [call_step]
    have hp1 := plain_box 60 a (by omega)
    obtain ⟨d, S1, e1, hd, p1, l1⟩ := digit T hp 4 (by omega) (by omega) k (by omega)
    have e1 : callT T k 113 [.ref n, .int 4] S = .ok (.int d) S1 := e1
    by_cases hz : d = 0
    · subst hz; exact ⟨any, S1, by simp (decide := true) [runD, enc, sSeq, sIf, sRet, sNx, sAsg, sEx, sRai, ↓mb, Res.bind, mp, M.of, mT, xIsi, mBor, mVar, isTy, mTruth, truth, mOr, mAnd, mIte, mNot, xCmp, cop, eqo_nn, eqo_nb, eqo_ni, eqo_ns, eqo_nt, eqo_nl, eqo_nd, eqo_bn, eqo_bb, eqo_bi, eqo_bs, eqo_bt, eqo_bl, eqo_bd, eqo_in, eqo_ib, eqo_ii, eqo_is, eqo_it, eqo_il, eqo_id, eqo_sn, eqo_sb, eqo_si, eqo_ss, eqo_st, eqo_sl, eqo_sd, eqo_tn, eqo_tb, eqo_ti, eqo_ts, eqo_tt, eqo_tl, eqo_td, eqo_ln, eqo_lb, eqo_li, eqo_ls, eqo_lt, eqo_ll, eqo_ld, eqo_dn, eqo_db, eqo_di, eqo_ds, eqo_dt, eqo_dl, eqo_dd, inOk, D.flat, xTup, aNil, aCons, mSet, plain_str, plain_tup, plain_int, plain_bl, plains_nil, plains_cons, eqb_str, eqb_int, eqb_bl, eqb_tup, eqbs_nil, eqbs_cn, eqbs_nc, eqbs_cc, eqb_nn, eqb_nb, eqb_ni, eqb_ns, eqb_nt, eqb_nl, eqb_nd, eqb_bn, eqb_bi, eqb_bs, eqb_bt, eqb_b_l, eqb_bd, eqb_in, eqb_ib, eqb_is, eqb_it, eqb_il, eqb_id, eqb_sn, eqb_sb, eqb_si, eqb_sl, eqb_sd, eqb_tn, eqb_tb, eqb_ti, eqb_tl, eqb_td, eqb_ln, eqb_lb, eqb_li, eqb_ls, eqb_lt, eqb_ll, eqb_ld, eqb_dn, eqb_db, eqb_di, eqb_ds, eqb_dt, eqb_dl, eqb_dd, plain_non, plain_lst, plain_dic, eqb_st, eqb_ts, xLen, bip, xIdx, mIdx, index, mItems, mList, xCall, pp_call, xBin, bop_ai, bop_as, bop_at, bop_al, bop_si, bop_mi, bop_ml, bop_mt, bop_ms, bop_mo, bop_fd, bop_pw, SZ, mSlc, mPart, slice, gUnp, gCon, gEnd, mLst, M.bad, mChn, sFor, loopM, xBi, xFz, fLst, mCalk, srcOf, isn_n, isn_b, isn_i, isn_s, isn_t, isn_l, isn_d, isn_r, isn_enc, b_128, e1], rfl, p1, l1⟩
    · simp only [hgt] at hk h50
      obtain ⟨f, S2, e2, n2, p2, l2⟩ := iha S1 n k p1 (by omega) (by omega)
      exact ⟨box f, S2, by simp (decide := true) [runD, enc, sSeq, sIf, sRet, sNx, sAsg, sEx, sRai, ↓mb, Res.bind, mp, M.of, mT, xIsi, mBor, mVar, isTy, mTruth, truth, mOr, mAnd, mIte, mNot, xCmp, cop, eqo_nn, eqo_nb, eqo_ni, eqo_ns, eqo_nt, eqo_nl, eqo_nd, eqo_bn, eqo_bb, eqo_bi, eqo_bs, eqo_bt, eqo_bl, eqo_bd, eqo_in, eqo_ib, eqo_ii, eqo_is, eqo_it, eqo_il, eqo_id, eqo_sn, eqo_sb, eqo_si, eqo_ss, eqo_st, eqo_sl, eqo_sd, eqo_tn, eqo_tb, eqo_ti, eqo_ts, eqo_tt, eqo_tl, eqo_td, eqo_ln, eqo_lb, eqo_li, eqo_ls, eqo_lt, eqo_ll, eqo_ld, eqo_dn, eqo_db, eqo_di, eqo_ds, eqo_dt, eqo_dl, eqo_dd, inOk, D.flat, xTup, aNil, aCons, mSet, plain_str, plain_tup, plain_int, plain_bl, plains_nil, plains_cons, eqb_str, eqb_int, eqb_bl, eqb_tup, eqbs_nil, eqbs_cn, eqbs_nc, eqbs_cc, eqb_nn, eqb_nb, eqb_ni, eqb_ns, eqb_nt, eqb_nl, eqb_nd, eqb_bn, eqb_bi, eqb_bs, eqb_bt, eqb_b_l, eqb_bd, eqb_in, eqb_ib, eqb_is, eqb_it, eqb_il, eqb_id, eqb_sn, eqb_sb, eqb_si, eqb_sl, eqb_sd, eqb_tn, eqb_tb, eqb_ti, eqb_tl, eqb_td, eqb_ln, eqb_lb, eqb_li, eqb_ls, eqb_lt, eqb_ll, eqb_ld, eqb_dn, eqb_db, eqb_di, eqb_ds, eqb_dt, eqb_dl, eqb_dd, plain_non, plain_lst, plain_dic, eqb_st, eqb_ts, xLen, bip, xIdx, mIdx, index, mItems, mList, xCall, pp_call, xBin, bop_ai, bop_as, bop_at, bop_al, bop_si, bop_mi, bop_ml, bop_mt, bop_ms, bop_mo, bop_fd, bop_pw, SZ, mSlc, mPart, slice, gUnp, gCon, gEnd, mLst, M.bad, mChn, sFor, loopM, xBi, xFz, fLst, mCalk, srcOf, isn_n, isn_b, isn_i, isn_s, isn_t, isn_l, isn_d, isn_r, isn_enc, gStar, dget, atI, fComp, noX, Res.noX, mWipe, cmpR, wipeE, blsOf, intsOf, txtsOf, cut, sIx, mZs, zsOf, zipD, mZip, zipOf, mRng1, mRng2, rngD, mCount, mIndexL, mMt, tyIs, mtp, findD, sTryAs, mIsE, noEx, sPar, sPar3, xRev, revD, sTry, reps, b_128, e1, e2, hz, hp1], by simp [loose, n2], p2, l2.trans l1⟩
  | any =>
    intro S n k hp hk h50
    obtain ⟨k, rfl⟩ : ∃ j, k = j + 1 := ⟨k - 1, by omega⟩
    rw [call_step]
    obtain ⟨d, S1, e1, hd, p1, l1⟩ := digit T hp 4 (by omega) (by omega) k (by omega)
    have e1 : callT T k 113 [.ref n, .int 4] S = .ok (.int d) S1 := e1
    by_cases hz : d = 0
    · subst hz; exact ⟨any, S1, by simp (decide := true) [runD, enc, sSeq, sIf, sRet, sNx, sAsg, sEx, sRai, ↓mb, Res.bind, mp, M.of, mT, xIsi, mBor, mVar, isTy, mTruth, truth, mOr, mAnd, mIte, mNot, xCmp, cop, eqo_nn, eqo_nb, eqo_ni, eqo_ns, eqo_nt, eqo_nl, eqo_nd, eqo_bn, eqo_bb, eqo_bi, eqo_bs, eqo_bt, eqo_bl, eqo_bd, eqo_in, eqo_ib, eqo_ii, eqo_is, eqo_it, eqo_il, eqo_id, eqo_sn, eqo_sb, eqo_si, eqo_ss, eqo_st, eqo_sl, eqo_sd, eqo_tn, eqo_tb, eqo_ti, eqo_ts, eqo_tt, eqo_tl, eqo_td, eqo_ln, eqo_lb, eqo_li, eqo_ls, eqo_lt, eqo_ll, eqo_ld, eqo_dn, eqo_db, eqo_di, eqo_ds, eqo_dt, eqo_dl, eqo_dd, inOk, D.flat, xTup, aNil, aCons, mSet, plain_str, plain_tup, plain_int, plain_bl, plains_nil, plains_cons, eqb_str, eqb_int, eqb_bl, eqb_tup, eqbs_nil, eqbs_cn, eqbs_nc, eqbs_cc, eqb_nn, eqb_nb, eqb_ni, eqb_ns, eqb_nt, eqb_nl, eqb_nd, eqb_bn, eqb_bi, eqb_bs, eqb_bt, eqb_b_l, eqb_bd, eqb_in, eqb_ib, eqb_is, eqb_it, eqb_il, eqb_id, eqb_sn, eqb_sb, eqb_si, eqb_sl, eqb_sd, eqb_tn, eqb_tb, eqb_ti, eqb_tl, eqb_td, eqb_ln, eqb_lb, eqb_li, eqb_ls, eqb_lt, eqb_ll, eqb_ld, eqb_dn, eqb_db, eqb_di, eqb_ds, eqb_dt, eqb_dl, eqb_dd, plain_non, plain_lst, plain_dic, eqb_st, eqb_ts, xLen, bip, xIdx, mIdx, index, mItems, mList, xCall, pp_call, xBin, bop_ai, bop_as, bop_at, bop_al, bop_si, bop_mi, bop_ml, bop_mt, bop_ms, bop_mo, bop_fd, bop_pw, SZ, mSlc, mPart, slice, gUnp, gCon, gEnd, mLst, M.bad, mChn, sFor, loopM, xBi, xFz, fLst, mCalk, srcOf, isn_n, isn_b, isn_i, isn_s, isn_t, isn_l, isn_d, isn_r, isn_enc, b_128, e1], rfl, p1, l1⟩
    · exact ⟨any, S1, by simp (decide := true) [runD, enc, sSeq, sIf, sRet, sNx, sAsg, sEx, sRai, ↓mb, Res.bind, mp, M.of, mT, xIsi, mBor, mVar, isTy, mTruth, truth, mOr, mAnd, mIte, mNot, xCmp, cop, eqo_nn, eqo_nb, eqo_ni, eqo_ns, eqo_nt, eqo_nl, eqo_nd, eqo_bn, eqo_bb, eqo_bi, eqo_bs, eqo_bt, eqo_bl, eqo_bd, eqo_in, eqo_ib, eqo_ii, eqo_is, eqo_it, eqo_il, eqo_id, eqo_sn, eqo_sb, eqo_si, eqo_ss, eqo_st, eqo_sl, eqo_sd, eqo_tn, eqo_tb, eqo_ti, eqo_ts, eqo_tt, eqo_tl, eqo_td, eqo_ln, eqo_lb, eqo_li, eqo_ls, eqo_lt, eqo_ll, eqo_ld, eqo_dn, eqo_db, eqo_di, eqo_ds, eqo_dt, eqo_dl, eqo_dd, inOk, D.flat, xTup, aNil, aCons, mSet, plain_str, plain_tup, plain_int, plain_bl, plains_nil, plains_cons, eqb_str, eqb_int, eqb_bl, eqb_tup, eqbs_nil, eqbs_cn, eqbs_nc, eqbs_cc, eqb_nn, eqb_nb, eqb_ni, eqb_ns, eqb_nt, eqb_nl, eqb_nd, eqb_bn, eqb_bi, eqb_bs, eqb_bt, eqb_b_l, eqb_bd, eqb_in, eqb_ib, eqb_is, eqb_it, eqb_il, eqb_id, eqb_sn, eqb_sb, eqb_si, eqb_sl, eqb_sd, eqb_tn, eqb_tb, eqb_ti, eqb_tl, eqb_td, eqb_ln, eqb_lb, eqb_li, eqb_ls, eqb_lt, eqb_ll, eqb_ld, eqb_dn, eqb_db, eqb_di, eqb_ds, eqb_dt, eqb_dl, eqb_dd, plain_non, plain_lst, plain_dic, eqb_st, eqb_ts, xLen, bip, xIdx, mIdx, index, mItems, mList, xCall, pp_call, xBin, bop_ai, bop_as, bop_at, bop_al, bop_si, bop_mi, bop_ml, bop_mt, bop_ms, bop_mo, bop_fd, bop_pw, SZ, mSlc, mPart, slice, gUnp, gCon, gEnd, mLst, M.bad, mChn, sFor, loopM, xBi, xFz, fLst, mCalk, srcOf, isn_n, isn_b, isn_i, isn_s, isn_t, isn_l, isn_d, isn_r, isn_enc, b_128, e1, hz], rfl, p1, l1⟩
  | num =>
    intro S n k hp hk h50
    obtain ⟨k, rfl⟩ : ∃ j, k = j + 1 := ⟨k - 1, by omega⟩
    rw [call_step]
    obtain ⟨d, S1, e1, hd, p1, l1⟩ := digit T hp 4 (by omega) (by omega) k (by omega)
    have e1 : callT T k 113 [.ref n, .int 4] S = .ok (.int d) S1 := e1
    by_cases hz : d = 0
    · subst hz; exact ⟨any, S1, by simp (decide := true) [runD, enc, sSeq, sIf, sRet, sNx, sAsg, sEx, sRai, ↓mb, Res.bind, mp, M.of, mT, xIsi, mBor, mVar, isTy, mTruth, truth, mOr, mAnd, mIte, mNot, xCmp, cop, eqo_nn, eqo_nb, eqo_ni, eqo_ns, eqo_nt, eqo_nl, eqo_nd, eqo_bn, eqo_bb, eqo_bi, eqo_bs, eqo_bt, eqo_bl, eqo_bd, eqo_in, eqo_ib, eqo_ii, eqo_is, eqo_it, eqo_il, eqo_id, eqo_sn, eqo_sb, eqo_si, eqo_ss, eqo_st, eqo_sl, eqo_sd, eqo_tn, eqo_tb, eqo_ti, eqo_ts, eqo_tt, eqo_tl, eqo_td, eqo_ln, eqo_lb, eqo_li, eqo_ls, eqo_lt, eqo_ll, eqo_ld, eqo_dn, eqo_db, eqo_di, eqo_ds, eqo_dt, eqo_dl, eqo_dd, inOk, D.flat, xTup, aNil, aCons, mSet, plain_str, plain_tup, plain_int, plain_bl, plains_nil, plains_cons, eqb_str, eqb_int, eqb_bl, eqb_tup, eqbs_nil, eqbs_cn, eqbs_nc, eqbs_cc, eqb_nn, eqb_nb, eqb_ni, eqb_ns, eqb_nt, eqb_nl, eqb_nd, eqb_bn, eqb_bi, eqb_bs, eqb_bt, eqb_b_l, eqb_bd, eqb_in, eqb_ib, eqb_is, eqb_it, eqb_il, eqb_id, eqb_sn, eqb_sb, eqb_si, eqb_sl, eqb_sd, eqb_tn, eqb_tb, eqb_ti, eqb_tl, eqb_td, eqb_ln, eqb_lb, eqb_li, eqb_ls, eqb_lt, eqb_ll, eqb_ld, eqb_dn, eqb_db, eqb_di, eqb_ds, eqb_dt, eqb_dl, eqb_dd, plain_non, plain_lst, plain_dic, eqb_st, eqb_ts, xLen, bip, xIdx, mIdx, index, mItems, mList, xCall, pp_call, xBin, bop_ai, bop_as, bop_at, bop_al, bop_si, bop_mi, bop_ml, bop_mt, bop_ms, bop_mo, bop_fd, bop_pw, SZ, mSlc, mPart, slice, gUnp, gCon, gEnd, mLst, M.bad, mChn, sFor, loopM, xBi, xFz, fLst, mCalk, srcOf, isn_n, isn_b, isn_i, isn_s, isn_t, isn_l, isn_d, isn_r, isn_enc, b_128, e1], rfl, p1, l1⟩
    · exact ⟨num, S1, by simp (decide := true) [runD, enc, sSeq, sIf, sRet, sNx, sAsg, sEx, sRai, ↓mb, Res.bind, mp, M.of, mT, xIsi, mBor, mVar, isTy, mTruth, truth, mOr, mAnd, mIte, mNot, xCmp, cop, eqo_nn, eqo_nb, eqo_ni, eqo_ns, eqo_nt, eqo_nl, eqo_nd, eqo_bn, eqo_bb, eqo_bi, eqo_bs, eqo_bt, eqo_bl, eqo_bd, eqo_in, eqo_ib, eqo_ii, eqo_is, eqo_it, eqo_il, eqo_id, eqo_sn, eqo_sb, eqo_si, eqo_ss, eqo_st, eqo_sl, eqo_sd, eqo_tn, eqo_tb, eqo_ti, eqo_ts, eqo_tt, eqo_tl, eqo_td, eqo_ln, eqo_lb, eqo_li, eqo_ls, eqo_lt, eqo_ll, eqo_ld, eqo_dn, eqo_db, eqo_di, eqo_ds, eqo_dt, eqo_dl, eqo_dd, inOk, D.flat, xTup, aNil, aCons, mSet, plain_str, plain_tup, plain_int, plain_bl, plains_nil, plains_cons, eqb_str, eqb_int, eqb_bl, eqb_tup, eqbs_nil, eqbs_cn, eqbs_nc, eqbs_cc, eqb_nn, eqb_nb, eqb_ni, eqb_ns, eqb_nt, eqb_nl, eqb_nd, eqb_bn, eqb_bi, eqb_bs, eqb_bt, eqb_b_l, eqb_bd, eqb_in, eqb_ib, eqb_is, eqb_it, eqb_il, eqb_id, eqb_sn, eqb_sb, eqb_si, eqb_sl, eqb_sd, eqb_tn, eqb_tb, eqb_ti, eqb_tl, eqb_td, eqb_ln, eqb_lb, eqb_li, eqb_ls, eqb_lt, eqb_ll, eqb_ld, eqb_dn, eqb_db, eqb_di, eqb_ds, eqb_dt, eqb_dl, eqb_dd, plain_non, plain_lst, plain_dic, eqb_st, eqb_ts, xLen, bip, xIdx, mIdx, index, mItems, mList, xCall, pp_call, xBin, bop_ai, bop_as, bop_at, bop_al, bop_si, bop_mi, bop_ml, bop_mt, bop_ms, bop_mo, bop_fd, bop_pw, SZ, mSlc, mPart, slice, gUnp, gCon, gEnd, mLst, M.bad, mChn, sFor, loopM, xBi, xFz, fLst, mCalk, srcOf, isn_n, isn_b, isn_i, isn_s, isn_t, isn_l, isn_d, isn_r, isn_enc, b_128, e1, hz], rfl, p1, l1⟩
  | text =>
    intro S n k hp hk h50
    obtain ⟨k, rfl⟩ : ∃ j, k = j + 1 := ⟨k - 1, by omega⟩
    rw [call_step]
    obtain ⟨d, S1, e1, hd, p1, l1⟩ := digit T hp 4 (by omega) (by omega) k (by omega)
    have e1 : callT T k 113 [.ref n, .int 4] S = .ok (.int d) S1 := e1
    by_cases hz : d = 0
    · subst hz; exact ⟨any, S1, by simp (decide := true) [runD, enc, sSeq, sIf, sRet, sNx, sAsg, sEx, sRai, ↓mb, Res.bind, mp, M.of, mT, xIsi, mBor, mVar, isTy, mTruth, truth, mOr, mAnd, mIte, mNot, xCmp, cop, eqo_nn, eqo_nb, eqo_ni, eqo_ns, eqo_nt, eqo_nl, eqo_nd, eqo_bn, eqo_bb, eqo_bi, eqo_bs, eqo_bt, eqo_bl, eqo_bd, eqo_in, eqo_ib, eqo_ii, eqo_is, eqo_it, eqo_il, eqo_id, eqo_sn, eqo_sb, eqo_si, eqo_ss, eqo_st, eqo_sl, eqo_sd, eqo_tn, eqo_tb, eqo_ti, eqo_ts, eqo_tt, eqo_tl, eqo_td, eqo_ln, eqo_lb, eqo_li, eqo_ls, eqo_lt, eqo_ll, eqo_ld, eqo_dn, eqo_db, eqo_di, eqo_ds, eqo_dt, eqo_dl, eqo_dd, inOk, D.flat, xTup, aNil, aCons, mSet, plain_str, plain_tup, plain_int, plain_bl, plains_nil, plains_cons, eqb_str, eqb_int, eqb_bl, eqb_tup, eqbs_nil, eqbs_cn, eqbs_nc, eqbs_cc, eqb_nn, eqb_nb, eqb_ni, eqb_ns, eqb_nt, eqb_nl, eqb_nd, eqb_bn, eqb_bi, eqb_bs, eqb_bt, eqb_b_l, eqb_bd, eqb_in, eqb_ib, eqb_is, eqb_it, eqb_il, eqb_id, eqb_sn, eqb_sb, eqb_si, eqb_sl, eqb_sd, eqb_tn, eqb_tb, eqb_ti, eqb_tl, eqb_td, eqb_ln, eqb_lb, eqb_li, eqb_ls, eqb_lt, eqb_ll, eqb_ld, eqb_dn, eqb_db, eqb_di, eqb_ds, eqb_dt, eqb_dl, eqb_dd, plain_non, plain_lst, plain_dic, eqb_st, eqb_ts, xLen, bip, xIdx, mIdx, index, mItems, mList, xCall, pp_call, xBin, bop_ai, bop_as, bop_at, bop_al, bop_si, bop_mi, bop_ml, bop_mt, bop_ms, bop_mo, bop_fd, bop_pw, SZ, mSlc, mPart, slice, gUnp, gCon, gEnd, mLst, M.bad, mChn, sFor, loopM, xBi, xFz, fLst, mCalk, srcOf, isn_n, isn_b, isn_i, isn_s, isn_t, isn_l, isn_d, isn_r, isn_enc, b_128, e1], rfl, p1, l1⟩
    · exact ⟨text, S1, by simp (decide := true) [runD, enc, sSeq, sIf, sRet, sNx, sAsg, sEx, sRai, ↓mb, Res.bind, mp, M.of, mT, xIsi, mBor, mVar, isTy, mTruth, truth, mOr, mAnd, mIte, mNot, xCmp, cop, eqo_nn, eqo_nb, eqo_ni, eqo_ns, eqo_nt, eqo_nl, eqo_nd, eqo_bn, eqo_bb, eqo_bi, eqo_bs, eqo_bt, eqo_bl, eqo_bd, eqo_in, eqo_ib, eqo_ii, eqo_is, eqo_it, eqo_il, eqo_id, eqo_sn, eqo_sb, eqo_si, eqo_ss, eqo_st, eqo_sl, eqo_sd, eqo_tn, eqo_tb, eqo_ti, eqo_ts, eqo_tt, eqo_tl, eqo_td, eqo_ln, eqo_lb, eqo_li, eqo_ls, eqo_lt, eqo_ll, eqo_ld, eqo_dn, eqo_db, eqo_di, eqo_ds, eqo_dt, eqo_dl, eqo_dd, inOk, D.flat, xTup, aNil, aCons, mSet, plain_str, plain_tup, plain_int, plain_bl, plains_nil, plains_cons, eqb_str, eqb_int, eqb_bl, eqb_tup, eqbs_nil, eqbs_cn, eqbs_nc, eqbs_cc, eqb_nn, eqb_nb, eqb_ni, eqb_ns, eqb_nt, eqb_nl, eqb_nd, eqb_bn, eqb_bi, eqb_bs, eqb_bt, eqb_b_l, eqb_bd, eqb_in, eqb_ib, eqb_is, eqb_it, eqb_il, eqb_id, eqb_sn, eqb_sb, eqb_si, eqb_sl, eqb_sd, eqb_tn, eqb_tb, eqb_ti, eqb_tl, eqb_td, eqb_ln, eqb_lb, eqb_li, eqb_ls, eqb_lt, eqb_ll, eqb_ld, eqb_dn, eqb_db, eqb_di, eqb_ds, eqb_dt, eqb_dl, eqb_dd, plain_non, plain_lst, plain_dic, eqb_st, eqb_ts, xLen, bip, xIdx, mIdx, index, mItems, mList, xCall, pp_call, xBin, bop_ai, bop_as, bop_at, bop_al, bop_si, bop_mi, bop_ml, bop_mt, bop_ms, bop_mo, bop_fd, bop_pw, SZ, mSlc, mPart, slice, gUnp, gCon, gEnd, mLst, M.bad, mChn, sFor, loopM, xBi, xFz, fLst, mCalk, srcOf, isn_n, isn_b, isn_i, isn_s, isn_t, isn_l, isn_d, isn_r, isn_enc, b_128, e1, hz], rfl, p1, l1⟩
/-! ### the laws' own ways -/
theorem law_is_near (T : Tb) [Fn T 116 fd_116] (f : Form) : ∀ (g : Form) (k : Nat) (S : Sto), hgt f < k → hgt f ≤ 50 → hgt g ≤ 50 → callT T k 116 [enc f, enc g] S = .ok (.bl (near f g)) S := by
  induction f with
  | deed a b iha ihb =>
    intro g k S hk hf hg
    obtain ⟨k, rfl⟩ : ∃ j, k = j + 1 := ⟨k - 1, by omega⟩
    rw [call_step]
    have hp1 := plain_deed 60 a b (by omega)
    have hp := plain_enc g 60 (by omega)
    simp only [hgt] at hk hf
    cases g with
    | deed c d =>
      simp only [hgt] at hg
      have ea := iha c k S (by omega) (by omega) (by omega)
      have eb := ihb d k S (by omega) (by omega) (by omega)
      simp only [enc] at hp
      by_cases hq : a = c ∧ b = d
      · obtain ⟨rfl, rfl⟩ := hq
        simp (decide := true) [runD, enc, sSeq, sIf, sRet, sNx, sAsg, sEx, sRai, ↓mb, Res.bind, mp, M.of, mT, xIsi, mBor, mVar, isTy, mTruth, truth, mOr, mAnd, mIte, mNot, xCmp, cop, eqo_nn, eqo_nb, eqo_ni, eqo_ns, eqo_nt, eqo_nl, eqo_nd, eqo_bn, eqo_bb, eqo_bi, eqo_bs, eqo_bt, eqo_bl, eqo_bd, eqo_in, eqo_ib, eqo_ii, eqo_is, eqo_it, eqo_il, eqo_id, eqo_sn, eqo_sb, eqo_si, eqo_ss, eqo_st, eqo_sl, eqo_sd, eqo_tn, eqo_tb, eqo_ti, eqo_ts, eqo_tt, eqo_tl, eqo_td, eqo_ln, eqo_lb, eqo_li, eqo_ls, eqo_lt, eqo_ll, eqo_ld, eqo_dn, eqo_db, eqo_di, eqo_ds, eqo_dt, eqo_dl, eqo_dd, inOk, D.flat, xTup, aNil, aCons, mSet, plain_str, plain_tup, plain_int, plain_bl, plains_nil, plains_cons, eqb_str, eqb_int, eqb_bl, eqb_tup, eqbs_nil, eqbs_cn, eqbs_nc, eqbs_cc, eqb_nn, eqb_nb, eqb_ni, eqb_ns, eqb_nt, eqb_nl, eqb_nd, eqb_bn, eqb_bi, eqb_bs, eqb_bt, eqb_b_l, eqb_bd, eqb_in, eqb_ib, eqb_is, eqb_it, eqb_il, eqb_id, eqb_sn, eqb_sb, eqb_si, eqb_sl, eqb_sd, eqb_tn, eqb_tb, eqb_ti, eqb_tl, eqb_td, eqb_ln, eqb_lb, eqb_li, eqb_ls, eqb_lt, eqb_ll, eqb_ld, eqb_dn, eqb_db, eqb_di, eqb_ds, eqb_dt, eqb_dl, eqb_dd, plain_non, plain_lst, plain_dic, eqb_st, eqb_ts, xLen, bip, xIdx, mIdx, index, mItems, mList, xCall, pp_call, xBin, bop_ai, bop_as, bop_at, bop_al, bop_si, bop_mi, bop_ml, bop_mt, bop_ms, bop_mo, bop_fd, bop_pw, SZ, mSlc, mPart, slice, gUnp, gCon, gEnd, mLst, M.bad, mChn, sFor, loopM, xBi, xFz, fLst, mCalk, srcOf, isn_n, isn_b, isn_i, isn_s, isn_t, isn_l, isn_d, isn_r, isn_enc, gStar, dget, atI, fComp, noX, Res.noX, mWipe, cmpR, wipeE, blsOf, intsOf, txtsOf, cut, sIx, mZs, zsOf, zipD, mZip, zipOf, mRng1, mRng2, rngD, mCount, mIndexL, mMt, tyIs, mtp, findD, sTryAs, mIsE, noEx, sPar, sPar3, xRev, revD, sTry, reps, b_116, near, hp1, hp, eqb_enc, near_refl]
      · simp (decide := true) [runD, enc, sSeq, sIf, sRet, sNx, sAsg, sEx, sRai, ↓mb, Res.bind, mp, M.of, mT, xIsi, mBor, mVar, isTy, mTruth, truth, mOr, mAnd, mIte, mNot, xCmp, cop, eqo_nn, eqo_nb, eqo_ni, eqo_ns, eqo_nt, eqo_nl, eqo_nd, eqo_bn, eqo_bb, eqo_bi, eqo_bs, eqo_bt, eqo_bl, eqo_bd, eqo_in, eqo_ib, eqo_ii, eqo_is, eqo_it, eqo_il, eqo_id, eqo_sn, eqo_sb, eqo_si, eqo_ss, eqo_st, eqo_sl, eqo_sd, eqo_tn, eqo_tb, eqo_ti, eqo_ts, eqo_tt, eqo_tl, eqo_td, eqo_ln, eqo_lb, eqo_li, eqo_ls, eqo_lt, eqo_ll, eqo_ld, eqo_dn, eqo_db, eqo_di, eqo_ds, eqo_dt, eqo_dl, eqo_dd, inOk, D.flat, xTup, aNil, aCons, mSet, plain_str, plain_tup, plain_int, plain_bl, plains_nil, plains_cons, eqb_str, eqb_int, eqb_bl, eqb_tup, eqbs_nil, eqbs_cn, eqbs_nc, eqbs_cc, eqb_nn, eqb_nb, eqb_ni, eqb_ns, eqb_nt, eqb_nl, eqb_nd, eqb_bn, eqb_bi, eqb_bs, eqb_bt, eqb_b_l, eqb_bd, eqb_in, eqb_ib, eqb_is, eqb_it, eqb_il, eqb_id, eqb_sn, eqb_sb, eqb_si, eqb_sl, eqb_sd, eqb_tn, eqb_tb, eqb_ti, eqb_tl, eqb_td, eqb_ln, eqb_lb, eqb_li, eqb_ls, eqb_lt, eqb_ll, eqb_ld, eqb_dn, eqb_db, eqb_di, eqb_ds, eqb_dt, eqb_dl, eqb_dd, plain_non, plain_lst, plain_dic, eqb_st, eqb_ts, xLen, bip, xIdx, mIdx, index, mItems, mList, xCall, pp_call, xBin, bop_ai, bop_as, bop_at, bop_al, bop_si, bop_mi, bop_ml, bop_mt, bop_ms, bop_mo, bop_fd, bop_pw, SZ, mSlc, mPart, slice, gUnp, gCon, gEnd, mLst, M.bad, mChn, sFor, loopM, xBi, xFz, fLst, mCalk, srcOf, isn_n, isn_b, isn_i, isn_s, isn_t, isn_l, isn_d, isn_r, isn_enc, gStar, dget, atI, fComp, noX, Res.noX, mWipe, cmpR, wipeE, blsOf, intsOf, txtsOf, cut, sIx, mZs, zsOf, zipD, mZip, zipOf, mRng1, mRng2, rngD, mCount, mIndexL, mMt, tyIs, mtp, findD, sTryAs, mIsE, noEx, sPar, sPar3, xRev, revD, sTry, reps, b_116, near, hp1, hp, ea, eb, eqb_enc, mZip, hq]
    | _ => simp only [enc] at hp; simp (decide := true) [runD, enc, sSeq, sIf, sRet, sNx, sAsg, sEx, sRai, ↓mb, Res.bind, mp, M.of, mT, xIsi, mBor, mVar, isTy, mTruth, truth, mOr, mAnd, mIte, mNot, xCmp, cop, eqo_nn, eqo_nb, eqo_ni, eqo_ns, eqo_nt, eqo_nl, eqo_nd, eqo_bn, eqo_bb, eqo_bi, eqo_bs, eqo_bt, eqo_bl, eqo_bd, eqo_in, eqo_ib, eqo_ii, eqo_is, eqo_it, eqo_il, eqo_id, eqo_sn, eqo_sb, eqo_si, eqo_ss, eqo_st, eqo_sl, eqo_sd, eqo_tn, eqo_tb, eqo_ti, eqo_ts, eqo_tt, eqo_tl, eqo_td, eqo_ln, eqo_lb, eqo_li, eqo_ls, eqo_lt, eqo_ll, eqo_ld, eqo_dn, eqo_db, eqo_di, eqo_ds, eqo_dt, eqo_dl, eqo_dd, inOk, D.flat, xTup, aNil, aCons, mSet, plain_str, plain_tup, plain_int, plain_bl, plains_nil, plains_cons, eqb_str, eqb_int, eqb_bl, eqb_tup, eqbs_nil, eqbs_cn, eqbs_nc, eqbs_cc, eqb_nn, eqb_nb, eqb_ni, eqb_ns, eqb_nt, eqb_nl, eqb_nd, eqb_bn, eqb_bi, eqb_bs, eqb_bt, eqb_b_l, eqb_bd, eqb_in, eqb_ib, eqb_is, eqb_it, eqb_il, eqb_id, eqb_sn, eqb_sb, eqb_si, eqb_sl, eqb_sd, eqb_tn, eqb_tb, eqb_ti, eqb_tl, eqb_td, eqb_ln, eqb_lb, eqb_li, eqb_ls, eqb_lt, eqb_ll, eqb_ld, eqb_dn, eqb_db, eqb_di, eqb_ds, eqb_dt, eqb_dl, eqb_dd, plain_non, plain_lst, plain_dic, eqb_st, eqb_ts, xLen, bip, xIdx, mIdx, index, mItems, mList, xCall, pp_call, xBin, bop_ai, bop_as, bop_at, bop_al, bop_si, bop_mi, bop_ml, bop_mt, bop_ms, bop_mo, bop_fd, bop_pw, SZ, mSlc, mPart, slice, gUnp, gCon, gEnd, mLst, M.bad, mChn, sFor, loopM, xBi, xFz, fLst, mCalk, srcOf, isn_n, isn_b, isn_i, isn_s, isn_t, isn_l, isn_d, isn_r, isn_enc, gStar, dget, atI, fComp, noX, Res.noX, mWipe, cmpR, wipeE, blsOf, intsOf, txtsOf, cut, sIx, mZs, zsOf, zipD, mZip, zipOf, mRng1, mRng2, rngD, mCount, mIndexL, mMt, tyIs, mtp, findD, sTryAs, mIsE, noEx, sPar, sPar3, xRev, revD, sTry, reps, b_116, near, hp1, hp]
  | box a iha =>
    intro g k S hk hf hg
    obtain ⟨k, rfl⟩ : ∃ j, k = j + 1 := ⟨k - 1, by omega⟩
    rw [call_step]
    have hp1 := plain_box 60 a (by omega)
    have hp := plain_enc g 60 (by omega)
    simp only [hgt] at hk hf
    cases g with
    | box c =>
      simp only [hgt] at hg
      have ea := iha c k S (by omega) (by omega) (by omega)
      simp only [enc] at hp
      by_cases hq : a = c
      · subst hq
        simp (decide := true) [runD, enc, sSeq, sIf, sRet, sNx, sAsg, sEx, sRai, ↓mb, Res.bind, mp, M.of, mT, xIsi, mBor, mVar, isTy, mTruth, truth, mOr, mAnd, mIte, mNot, xCmp, cop, eqo_nn, eqo_nb, eqo_ni, eqo_ns, eqo_nt, eqo_nl, eqo_nd, eqo_bn, eqo_bb, eqo_bi, eqo_bs, eqo_bt, eqo_bl, eqo_bd, eqo_in, eqo_ib, eqo_ii, eqo_is, eqo_it, eqo_il, eqo_id, eqo_sn, eqo_sb, eqo_si, eqo_ss, eqo_st, eqo_sl, eqo_sd, eqo_tn, eqo_tb, eqo_ti, eqo_ts, eqo_tt, eqo_tl, eqo_td, eqo_ln, eqo_lb, eqo_li, eqo_ls, eqo_lt, eqo_ll, eqo_ld, eqo_dn, eqo_db, eqo_di, eqo_ds, eqo_dt, eqo_dl, eqo_dd, inOk, D.flat, xTup, aNil, aCons, mSet, plain_str, plain_tup, plain_int, plain_bl, plains_nil, plains_cons, eqb_str, eqb_int, eqb_bl, eqb_tup, eqbs_nil, eqbs_cn, eqbs_nc, eqbs_cc, eqb_nn, eqb_nb, eqb_ni, eqb_ns, eqb_nt, eqb_nl, eqb_nd, eqb_bn, eqb_bi, eqb_bs, eqb_bt, eqb_b_l, eqb_bd, eqb_in, eqb_ib, eqb_is, eqb_it, eqb_il, eqb_id, eqb_sn, eqb_sb, eqb_si, eqb_sl, eqb_sd, eqb_tn, eqb_tb, eqb_ti, eqb_tl, eqb_td, eqb_ln, eqb_lb, eqb_li, eqb_ls, eqb_lt, eqb_ll, eqb_ld, eqb_dn, eqb_db, eqb_di, eqb_ds, eqb_dt, eqb_dl, eqb_dd, plain_non, plain_lst, plain_dic, eqb_st, eqb_ts, xLen, bip, xIdx, mIdx, index, mItems, mList, xCall, pp_call, xBin, bop_ai, bop_as, bop_at, bop_al, bop_si, bop_mi, bop_ml, bop_mt, bop_ms, bop_mo, bop_fd, bop_pw, SZ, mSlc, mPart, slice, gUnp, gCon, gEnd, mLst, M.bad, mChn, sFor, loopM, xBi, xFz, fLst, mCalk, srcOf, isn_n, isn_b, isn_i, isn_s, isn_t, isn_l, isn_d, isn_r, isn_enc, gStar, dget, atI, fComp, noX, Res.noX, mWipe, cmpR, wipeE, blsOf, intsOf, txtsOf, cut, sIx, mZs, zsOf, zipD, mZip, zipOf, mRng1, mRng2, rngD, mCount, mIndexL, mMt, tyIs, mtp, findD, sTryAs, mIsE, noEx, sPar, sPar3, xRev, revD, sTry, reps, b_116, near, hp1, hp, eqb_enc, near_refl]
      · simp (decide := true) [runD, enc, sSeq, sIf, sRet, sNx, sAsg, sEx, sRai, ↓mb, Res.bind, mp, M.of, mT, xIsi, mBor, mVar, isTy, mTruth, truth, mOr, mAnd, mIte, mNot, xCmp, cop, eqo_nn, eqo_nb, eqo_ni, eqo_ns, eqo_nt, eqo_nl, eqo_nd, eqo_bn, eqo_bb, eqo_bi, eqo_bs, eqo_bt, eqo_bl, eqo_bd, eqo_in, eqo_ib, eqo_ii, eqo_is, eqo_it, eqo_il, eqo_id, eqo_sn, eqo_sb, eqo_si, eqo_ss, eqo_st, eqo_sl, eqo_sd, eqo_tn, eqo_tb, eqo_ti, eqo_ts, eqo_tt, eqo_tl, eqo_td, eqo_ln, eqo_lb, eqo_li, eqo_ls, eqo_lt, eqo_ll, eqo_ld, eqo_dn, eqo_db, eqo_di, eqo_ds, eqo_dt, eqo_dl, eqo_dd, inOk, D.flat, xTup, aNil, aCons, mSet, plain_str, plain_tup, plain_int, plain_bl, plains_nil, plains_cons, eqb_str, eqb_int, eqb_bl, eqb_tup, eqbs_nil, eqbs_cn, eqbs_nc, eqbs_cc, eqb_nn, eqb_nb, eqb_ni, eqb_ns, eqb_nt, eqb_nl, eqb_nd, eqb_bn, eqb_bi, eqb_bs, eqb_bt, eqb_b_l, eqb_bd, eqb_in, eqb_ib, eqb_is, eqb_it, eqb_il, eqb_id, eqb_sn, eqb_sb, eqb_si, eqb_sl, eqb_sd, eqb_tn, eqb_tb, eqb_ti, eqb_tl, eqb_td, eqb_ln, eqb_lb, eqb_li, eqb_ls, eqb_lt, eqb_ll, eqb_ld, eqb_dn, eqb_db, eqb_di, eqb_ds, eqb_dt, eqb_dl, eqb_dd, plain_non, plain_lst, plain_dic, eqb_st, eqb_ts, xLen, bip, xIdx, mIdx, index, mItems, mList, xCall, pp_call, xBin, bop_ai, bop_as, bop_at, bop_al, bop_si, bop_mi, bop_ml, bop_mt, bop_ms, bop_mo, bop_fd, bop_pw, SZ, mSlc, mPart, slice, gUnp, gCon, gEnd, mLst, M.bad, mChn, sFor, loopM, xBi, xFz, fLst, mCalk, srcOf, isn_n, isn_b, isn_i, isn_s, isn_t, isn_l, isn_d, isn_r, isn_enc, gStar, dget, atI, fComp, noX, Res.noX, mWipe, cmpR, wipeE, blsOf, intsOf, txtsOf, cut, sIx, mZs, zsOf, zipD, mZip, zipOf, mRng1, mRng2, rngD, mCount, mIndexL, mMt, tyIs, mtp, findD, sTryAs, mIsE, noEx, sPar, sPar3, xRev, revD, sTry, reps, b_116, near, hp1, hp, ea, eqb_enc, mZip, hq]
    | _ => simp only [enc] at hp; simp (decide := true) [runD, enc, sSeq, sIf, sRet, sNx, sAsg, sEx, sRai, ↓mb, Res.bind, mp, M.of, mT, xIsi, mBor, mVar, isTy, mTruth, truth, mOr, mAnd, mIte, mNot, xCmp, cop, eqo_nn, eqo_nb, eqo_ni, eqo_ns, eqo_nt, eqo_nl, eqo_nd, eqo_bn, eqo_bb, eqo_bi, eqo_bs, eqo_bt, eqo_bl, eqo_bd, eqo_in, eqo_ib, eqo_ii, eqo_is, eqo_it, eqo_il, eqo_id, eqo_sn, eqo_sb, eqo_si, eqo_ss, eqo_st, eqo_sl, eqo_sd, eqo_tn, eqo_tb, eqo_ti, eqo_ts, eqo_tt, eqo_tl, eqo_td, eqo_ln, eqo_lb, eqo_li, eqo_ls, eqo_lt, eqo_ll, eqo_ld, eqo_dn, eqo_db, eqo_di, eqo_ds, eqo_dt, eqo_dl, eqo_dd, inOk, D.flat, xTup, aNil, aCons, mSet, plain_str, plain_tup, plain_int, plain_bl, plains_nil, plains_cons, eqb_str, eqb_int, eqb_bl, eqb_tup, eqbs_nil, eqbs_cn, eqbs_nc, eqbs_cc, eqb_nn, eqb_nb, eqb_ni, eqb_ns, eqb_nt, eqb_nl, eqb_nd, eqb_bn, eqb_bi, eqb_bs, eqb_bt, eqb_b_l, eqb_bd, eqb_in, eqb_ib, eqb_is, eqb_it, eqb_il, eqb_id, eqb_sn, eqb_sb, eqb_si, eqb_sl, eqb_sd, eqb_tn, eqb_tb, eqb_ti, eqb_tl, eqb_td, eqb_ln, eqb_lb, eqb_li, eqb_ls, eqb_lt, eqb_ll, eqb_ld, eqb_dn, eqb_db, eqb_di, eqb_ds, eqb_dt, eqb_dl, eqb_dd, plain_non, plain_lst, plain_dic, eqb_st, eqb_ts, xLen, bip, xIdx, mIdx, index, mItems, mList, xCall, pp_call, xBin, bop_ai, bop_as, bop_at, bop_al, bop_si, bop_mi, bop_ml, bop_mt, bop_ms, bop_mo, bop_fd, bop_pw, SZ, mSlc, mPart, slice, gUnp, gCon, gEnd, mLst, M.bad, mChn, sFor, loopM, xBi, xFz, fLst, mCalk, srcOf, isn_n, isn_b, isn_i, isn_s, isn_t, isn_l, isn_d, isn_r, isn_enc, gStar, dget, atI, fComp, noX, Res.noX, mWipe, cmpR, wipeE, blsOf, intsOf, txtsOf, cut, sIx, mZs, zsOf, zipD, mZip, zipOf, mRng1, mRng2, rngD, mCount, mIndexL, mMt, tyIs, mtp, findD, sTryAs, mIsE, noEx, sPar, sPar3, xRev, revD, sTry, reps, b_116, near, hp1, hp]
  | _ =>
    intro g k S hk hf hg
    obtain ⟨k, rfl⟩ : ∃ j, k = j + 1 := ⟨k - 1, by omega⟩
    rw [call_step]
    have hp := plain_enc g 60 (by omega)
    cases g <;> (simp only [enc] at hp; simp (decide := true) [runD, enc, sSeq, sIf, sRet, sNx, sAsg, sEx, sRai, ↓mb, Res.bind, mp, M.of, mT, xIsi, mBor, mVar, isTy, mTruth, truth, mOr, mAnd, mIte, mNot, xCmp, cop, eqo_nn, eqo_nb, eqo_ni, eqo_ns, eqo_nt, eqo_nl, eqo_nd, eqo_bn, eqo_bb, eqo_bi, eqo_bs, eqo_bt, eqo_bl, eqo_bd, eqo_in, eqo_ib, eqo_ii, eqo_is, eqo_it, eqo_il, eqo_id, eqo_sn, eqo_sb, eqo_si, eqo_ss, eqo_st, eqo_sl, eqo_sd, eqo_tn, eqo_tb, eqo_ti, eqo_ts, eqo_tt, eqo_tl, eqo_td, eqo_ln, eqo_lb, eqo_li, eqo_ls, eqo_lt, eqo_ll, eqo_ld, eqo_dn, eqo_db, eqo_di, eqo_ds, eqo_dt, eqo_dl, eqo_dd, inOk, D.flat, xTup, aNil, aCons, mSet, plain_str, plain_tup, plain_int, plain_bl, plains_nil, plains_cons, eqb_str, eqb_int, eqb_bl, eqb_tup, eqbs_nil, eqbs_cn, eqbs_nc, eqbs_cc, eqb_nn, eqb_nb, eqb_ni, eqb_ns, eqb_nt, eqb_nl, eqb_nd, eqb_bn, eqb_bi, eqb_bs, eqb_bt, eqb_b_l, eqb_bd, eqb_in, eqb_ib, eqb_is, eqb_it, eqb_il, eqb_id, eqb_sn, eqb_sb, eqb_si, eqb_sl, eqb_sd, eqb_tn, eqb_tb, eqb_ti, eqb_tl, eqb_td, eqb_ln, eqb_lb, eqb_li, eqb_ls, eqb_lt, eqb_ll, eqb_ld, eqb_dn, eqb_db, eqb_di, eqb_ds, eqb_dt, eqb_dl, eqb_dd, plain_non, plain_lst, plain_dic, eqb_st, eqb_ts, xLen, bip, xIdx, mIdx, index, mItems, mList, xCall, pp_call, xBin, bop_ai, bop_as, bop_at, bop_al, bop_si, bop_mi, bop_ml, bop_mt, bop_ms, bop_mo, bop_fd, bop_pw, SZ, mSlc, mPart, slice, gUnp, gCon, gEnd, mLst, M.bad, mChn, sFor, loopM, xBi, xFz, fLst, mCalk, srcOf, isn_n, isn_b, isn_i, isn_s, isn_t, isn_l, isn_d, isn_r, isn_enc, gStar, dget, atI, fComp, noX, Res.noX, mWipe, cmpR, wipeE, blsOf, intsOf, txtsOf, cut, sIx, mZs, zsOf, zipD, mZip, zipOf, mRng1, mRng2, rngD, mCount, mIndexL, mMt, tyIs, mtp, findD, sTryAs, mIsE, noEx, sPar, sPar3, xRev, revD, sTry, reps, b_116, near, hp])
theorem law_met (T : Tb) [Fn T 118 fd_118] (f : Form) : ∀ (g : Form) (k : Nat) (S : Sto), hgt f < k → hgt f ≤ 50 → hgt g ≤ 50 → near f g = true → callT T k 118 [enc f, enc g] S = .ok (enc (meet f g)) S := by
  induction f with
  | any =>
    intro g k S hk hf hg hn
    obtain ⟨k, rfl⟩ : ∃ j, k = j + 1 := ⟨k - 1, by omega⟩
    rw [call_step]
    simp (decide := true) [runD, enc, sSeq, sIf, sRet, sNx, sAsg, sEx, sRai, ↓mb, Res.bind, mp, M.of, mT, xIsi, mBor, mVar, isTy, mTruth, truth, mOr, mAnd, mIte, mNot, xCmp, cop, eqo_nn, eqo_nb, eqo_ni, eqo_ns, eqo_nt, eqo_nl, eqo_nd, eqo_bn, eqo_bb, eqo_bi, eqo_bs, eqo_bt, eqo_bl, eqo_bd, eqo_in, eqo_ib, eqo_ii, eqo_is, eqo_it, eqo_il, eqo_id, eqo_sn, eqo_sb, eqo_si, eqo_ss, eqo_st, eqo_sl, eqo_sd, eqo_tn, eqo_tb, eqo_ti, eqo_ts, eqo_tt, eqo_tl, eqo_td, eqo_ln, eqo_lb, eqo_li, eqo_ls, eqo_lt, eqo_ll, eqo_ld, eqo_dn, eqo_db, eqo_di, eqo_ds, eqo_dt, eqo_dl, eqo_dd, inOk, D.flat, xTup, aNil, aCons, mSet, plain_str, plain_tup, plain_int, plain_bl, plains_nil, plains_cons, eqb_str, eqb_int, eqb_bl, eqb_tup, eqbs_nil, eqbs_cn, eqbs_nc, eqbs_cc, eqb_nn, eqb_nb, eqb_ni, eqb_ns, eqb_nt, eqb_nl, eqb_nd, eqb_bn, eqb_bi, eqb_bs, eqb_bt, eqb_b_l, eqb_bd, eqb_in, eqb_ib, eqb_is, eqb_it, eqb_il, eqb_id, eqb_sn, eqb_sb, eqb_si, eqb_sl, eqb_sd, eqb_tn, eqb_tb, eqb_ti, eqb_tl, eqb_td, eqb_ln, eqb_lb, eqb_li, eqb_ls, eqb_lt, eqb_ll, eqb_ld, eqb_dn, eqb_db, eqb_di, eqb_ds, eqb_dt, eqb_dl, eqb_dd, plain_non, plain_lst, plain_dic, eqb_st, eqb_ts, xLen, bip, xIdx, mIdx, index, mItems, mList, xCall, pp_call, xBin, bop_ai, bop_as, bop_at, bop_al, bop_si, bop_mi, bop_ml, bop_mt, bop_ms, bop_mo, bop_fd, bop_pw, SZ, mSlc, mPart, slice, gUnp, gCon, gEnd, mLst, M.bad, mChn, sFor, loopM, xBi, xFz, fLst, mCalk, srcOf, isn_n, isn_b, isn_i, isn_s, isn_t, isn_l, isn_d, isn_r, isn_enc, gStar, dget, atI, fComp, noX, Res.noX, mWipe, cmpR, wipeE, blsOf, intsOf, txtsOf, cut, sIx, mZs, zsOf, zipD, mZip, zipOf, mRng1, mRng2, rngD, mCount, mIndexL, mMt, tyIs, mtp, findD, sTryAs, mIsE, noEx, sPar, sPar3, xRev, revD, sTry, reps, b_118, meet]
  | deed a b iha ihb =>
    intro g k S hk hf hg hn
    obtain ⟨k, rfl⟩ : ∃ j, k = j + 1 := ⟨k - 1, by omega⟩
    rw [call_step]
    have hp1 := plain_deed 60 a b (by omega)
    have hp := plain_enc g 60 (by omega)
    simp only [hgt] at hk hf
    cases g with
    | deed c d =>
      simp only [hgt] at hg
      simp only [near, Bool.and_eq_true] at hn
      have ea := iha c k S (by omega) (by omega) (by omega) hn.1
      have eb := ihb d k S (by omega) (by omega) (by omega) hn.2
      simp only [enc] at hp
      simp (decide := true) [runD, enc, sSeq, sIf, sRet, sNx, sAsg, sEx, sRai, ↓mb, Res.bind, mp, M.of, mT, xIsi, mBor, mVar, isTy, mTruth, truth, mOr, mAnd, mIte, mNot, xCmp, cop, eqo_nn, eqo_nb, eqo_ni, eqo_ns, eqo_nt, eqo_nl, eqo_nd, eqo_bn, eqo_bb, eqo_bi, eqo_bs, eqo_bt, eqo_bl, eqo_bd, eqo_in, eqo_ib, eqo_ii, eqo_is, eqo_it, eqo_il, eqo_id, eqo_sn, eqo_sb, eqo_si, eqo_ss, eqo_st, eqo_sl, eqo_sd, eqo_tn, eqo_tb, eqo_ti, eqo_ts, eqo_tt, eqo_tl, eqo_td, eqo_ln, eqo_lb, eqo_li, eqo_ls, eqo_lt, eqo_ll, eqo_ld, eqo_dn, eqo_db, eqo_di, eqo_ds, eqo_dt, eqo_dl, eqo_dd, inOk, D.flat, xTup, aNil, aCons, mSet, plain_str, plain_tup, plain_int, plain_bl, plains_nil, plains_cons, eqb_str, eqb_int, eqb_bl, eqb_tup, eqbs_nil, eqbs_cn, eqbs_nc, eqbs_cc, eqb_nn, eqb_nb, eqb_ni, eqb_ns, eqb_nt, eqb_nl, eqb_nd, eqb_bn, eqb_bi, eqb_bs, eqb_bt, eqb_b_l, eqb_bd, eqb_in, eqb_ib, eqb_is, eqb_it, eqb_il, eqb_id, eqb_sn, eqb_sb, eqb_si, eqb_sl, eqb_sd, eqb_tn, eqb_tb, eqb_ti, eqb_tl, eqb_td, eqb_ln, eqb_lb, eqb_li, eqb_ls, eqb_lt, eqb_ll, eqb_ld, eqb_dn, eqb_db, eqb_di, eqb_ds, eqb_dt, eqb_dl, eqb_dd, plain_non, plain_lst, plain_dic, eqb_st, eqb_ts, xLen, bip, xIdx, mIdx, index, mItems, mList, xCall, pp_call, xBin, bop_ai, bop_as, bop_at, bop_al, bop_si, bop_mi, bop_ml, bop_mt, bop_ms, bop_mo, bop_fd, bop_pw, SZ, mSlc, mPart, slice, gUnp, gCon, gEnd, mLst, M.bad, mChn, sFor, loopM, xBi, xFz, fLst, mCalk, srcOf, isn_n, isn_b, isn_i, isn_s, isn_t, isn_l, isn_d, isn_r, isn_enc, gStar, dget, atI, fComp, noX, Res.noX, mWipe, cmpR, wipeE, blsOf, intsOf, txtsOf, cut, sIx, mZs, zsOf, zipD, mZip, zipOf, mRng1, mRng2, rngD, mCount, mIndexL, mMt, tyIs, mtp, findD, sTryAs, mIsE, noEx, sPar, sPar3, xRev, revD, sTry, reps, b_118, meet, hp1, hp, ea, eb]
    | any => simp (decide := true) [runD, enc, sSeq, sIf, sRet, sNx, sAsg, sEx, sRai, ↓mb, Res.bind, mp, M.of, mT, xIsi, mBor, mVar, isTy, mTruth, truth, mOr, mAnd, mIte, mNot, xCmp, cop, eqo_nn, eqo_nb, eqo_ni, eqo_ns, eqo_nt, eqo_nl, eqo_nd, eqo_bn, eqo_bb, eqo_bi, eqo_bs, eqo_bt, eqo_bl, eqo_bd, eqo_in, eqo_ib, eqo_ii, eqo_is, eqo_it, eqo_il, eqo_id, eqo_sn, eqo_sb, eqo_si, eqo_ss, eqo_st, eqo_sl, eqo_sd, eqo_tn, eqo_tb, eqo_ti, eqo_ts, eqo_tt, eqo_tl, eqo_td, eqo_ln, eqo_lb, eqo_li, eqo_ls, eqo_lt, eqo_ll, eqo_ld, eqo_dn, eqo_db, eqo_di, eqo_ds, eqo_dt, eqo_dl, eqo_dd, inOk, D.flat, xTup, aNil, aCons, mSet, plain_str, plain_tup, plain_int, plain_bl, plains_nil, plains_cons, eqb_str, eqb_int, eqb_bl, eqb_tup, eqbs_nil, eqbs_cn, eqbs_nc, eqbs_cc, eqb_nn, eqb_nb, eqb_ni, eqb_ns, eqb_nt, eqb_nl, eqb_nd, eqb_bn, eqb_bi, eqb_bs, eqb_bt, eqb_b_l, eqb_bd, eqb_in, eqb_ib, eqb_is, eqb_it, eqb_il, eqb_id, eqb_sn, eqb_sb, eqb_si, eqb_sl, eqb_sd, eqb_tn, eqb_tb, eqb_ti, eqb_tl, eqb_td, eqb_ln, eqb_lb, eqb_li, eqb_ls, eqb_lt, eqb_ll, eqb_ld, eqb_dn, eqb_db, eqb_di, eqb_ds, eqb_dt, eqb_dl, eqb_dd, plain_non, plain_lst, plain_dic, eqb_st, eqb_ts, xLen, bip, xIdx, mIdx, index, mItems, mList, xCall, pp_call, xBin, bop_ai, bop_as, bop_at, bop_al, bop_si, bop_mi, bop_ml, bop_mt, bop_ms, bop_mo, bop_fd, bop_pw, SZ, mSlc, mPart, slice, gUnp, gCon, gEnd, mLst, M.bad, mChn, sFor, loopM, xBi, xFz, fLst, mCalk, srcOf, isn_n, isn_b, isn_i, isn_s, isn_t, isn_l, isn_d, isn_r, isn_enc, gStar, dget, atI, fComp, noX, Res.noX, mWipe, cmpR, wipeE, blsOf, intsOf, txtsOf, cut, sIx, mZs, zsOf, zipD, mZip, zipOf, mRng1, mRng2, rngD, mCount, mIndexL, mMt, tyIs, mtp, findD, sTryAs, mIsE, noEx, sPar, sPar3, xRev, revD, sTry, reps, b_118, meet, hp1]
    | _ => simp [near] at hn
  | box a iha =>
    intro g k S hk hf hg hn
    obtain ⟨k, rfl⟩ : ∃ j, k = j + 1 := ⟨k - 1, by omega⟩
    rw [call_step]
    have hp1 := plain_box 60 a (by omega)
    have hp := plain_enc g 60 (by omega)
    simp only [hgt] at hk hf
    cases g with
    | box c =>
      simp only [hgt] at hg
      simp only [near] at hn
      have ea := iha c k S (by omega) (by omega) (by omega) hn
      simp only [enc] at hp
      simp (decide := true) [runD, enc, sSeq, sIf, sRet, sNx, sAsg, sEx, sRai, ↓mb, Res.bind, mp, M.of, mT, xIsi, mBor, mVar, isTy, mTruth, truth, mOr, mAnd, mIte, mNot, xCmp, cop, eqo_nn, eqo_nb, eqo_ni, eqo_ns, eqo_nt, eqo_nl, eqo_nd, eqo_bn, eqo_bb, eqo_bi, eqo_bs, eqo_bt, eqo_bl, eqo_bd, eqo_in, eqo_ib, eqo_ii, eqo_is, eqo_it, eqo_il, eqo_id, eqo_sn, eqo_sb, eqo_si, eqo_ss, eqo_st, eqo_sl, eqo_sd, eqo_tn, eqo_tb, eqo_ti, eqo_ts, eqo_tt, eqo_tl, eqo_td, eqo_ln, eqo_lb, eqo_li, eqo_ls, eqo_lt, eqo_ll, eqo_ld, eqo_dn, eqo_db, eqo_di, eqo_ds, eqo_dt, eqo_dl, eqo_dd, inOk, D.flat, xTup, aNil, aCons, mSet, plain_str, plain_tup, plain_int, plain_bl, plains_nil, plains_cons, eqb_str, eqb_int, eqb_bl, eqb_tup, eqbs_nil, eqbs_cn, eqbs_nc, eqbs_cc, eqb_nn, eqb_nb, eqb_ni, eqb_ns, eqb_nt, eqb_nl, eqb_nd, eqb_bn, eqb_bi, eqb_bs, eqb_bt, eqb_b_l, eqb_bd, eqb_in, eqb_ib, eqb_is, eqb_it, eqb_il, eqb_id, eqb_sn, eqb_sb, eqb_si, eqb_sl, eqb_sd, eqb_tn, eqb_tb, eqb_ti, eqb_tl, eqb_td, eqb_ln, eqb_lb, eqb_li, eqb_ls, eqb_lt, eqb_ll, eqb_ld, eqb_dn, eqb_db, eqb_di, eqb_ds, eqb_dt, eqb_dl, eqb_dd, plain_non, plain_lst, plain_dic, eqb_st, eqb_ts, xLen, bip, xIdx, mIdx, index, mItems, mList, xCall, pp_call, xBin, bop_ai, bop_as, bop_at, bop_al, bop_si, bop_mi, bop_ml, bop_mt, bop_ms, bop_mo, bop_fd, bop_pw, SZ, mSlc, mPart, slice, gUnp, gCon, gEnd, mLst, M.bad, mChn, sFor, loopM, xBi, xFz, fLst, mCalk, srcOf, isn_n, isn_b, isn_i, isn_s, isn_t, isn_l, isn_d, isn_r, isn_enc, gStar, dget, atI, fComp, noX, Res.noX, mWipe, cmpR, wipeE, blsOf, intsOf, txtsOf, cut, sIx, mZs, zsOf, zipD, mZip, zipOf, mRng1, mRng2, rngD, mCount, mIndexL, mMt, tyIs, mtp, findD, sTryAs, mIsE, noEx, sPar, sPar3, xRev, revD, sTry, reps, b_118, meet, hp1, hp, ea]
    | any => simp (decide := true) [runD, enc, sSeq, sIf, sRet, sNx, sAsg, sEx, sRai, ↓mb, Res.bind, mp, M.of, mT, xIsi, mBor, mVar, isTy, mTruth, truth, mOr, mAnd, mIte, mNot, xCmp, cop, eqo_nn, eqo_nb, eqo_ni, eqo_ns, eqo_nt, eqo_nl, eqo_nd, eqo_bn, eqo_bb, eqo_bi, eqo_bs, eqo_bt, eqo_bl, eqo_bd, eqo_in, eqo_ib, eqo_ii, eqo_is, eqo_it, eqo_il, eqo_id, eqo_sn, eqo_sb, eqo_si, eqo_ss, eqo_st, eqo_sl, eqo_sd, eqo_tn, eqo_tb, eqo_ti, eqo_ts, eqo_tt, eqo_tl, eqo_td, eqo_ln, eqo_lb, eqo_li, eqo_ls, eqo_lt, eqo_ll, eqo_ld, eqo_dn, eqo_db, eqo_di, eqo_ds, eqo_dt, eqo_dl, eqo_dd, inOk, D.flat, xTup, aNil, aCons, mSet, plain_str, plain_tup, plain_int, plain_bl, plains_nil, plains_cons, eqb_str, eqb_int, eqb_bl, eqb_tup, eqbs_nil, eqbs_cn, eqbs_nc, eqbs_cc, eqb_nn, eqb_nb, eqb_ni, eqb_ns, eqb_nt, eqb_nl, eqb_nd, eqb_bn, eqb_bi, eqb_bs, eqb_bt, eqb_b_l, eqb_bd, eqb_in, eqb_ib, eqb_is, eqb_it, eqb_il, eqb_id, eqb_sn, eqb_sb, eqb_si, eqb_sl, eqb_sd, eqb_tn, eqb_tb, eqb_ti, eqb_tl, eqb_td, eqb_ln, eqb_lb, eqb_li, eqb_ls, eqb_lt, eqb_ll, eqb_ld, eqb_dn, eqb_db, eqb_di, eqb_ds, eqb_dt, eqb_dl, eqb_dd, plain_non, plain_lst, plain_dic, eqb_st, eqb_ts, xLen, bip, xIdx, mIdx, index, mItems, mList, xCall, pp_call, xBin, bop_ai, bop_as, bop_at, bop_al, bop_si, bop_mi, bop_ml, bop_mt, bop_ms, bop_mo, bop_fd, bop_pw, SZ, mSlc, mPart, slice, gUnp, gCon, gEnd, mLst, M.bad, mChn, sFor, loopM, xBi, xFz, fLst, mCalk, srcOf, isn_n, isn_b, isn_i, isn_s, isn_t, isn_l, isn_d, isn_r, isn_enc, gStar, dget, atI, fComp, noX, Res.noX, mWipe, cmpR, wipeE, blsOf, intsOf, txtsOf, cut, sIx, mZs, zsOf, zipD, mZip, zipOf, mRng1, mRng2, rngD, mCount, mIndexL, mMt, tyIs, mtp, findD, sTryAs, mIsE, noEx, sPar, sPar3, xRev, revD, sTry, reps, b_118, meet, hp1]
    | _ => simp [near] at hn
  | _ =>
    intro g k S hk hf hg hn
    obtain ⟨k, rfl⟩ : ∃ j, k = j + 1 := ⟨k - 1, by omega⟩
    rw [call_step]
    cases g <;> first | (simp [near] at hn; done) | simp (decide := true) [runD, enc, sSeq, sIf, sRet, sNx, sAsg, sEx, sRai, ↓mb, Res.bind, mp, M.of, mT, xIsi, mBor, mVar, isTy, mTruth, truth, mOr, mAnd, mIte, mNot, xCmp, cop, eqo_nn, eqo_nb, eqo_ni, eqo_ns, eqo_nt, eqo_nl, eqo_nd, eqo_bn, eqo_bb, eqo_bi, eqo_bs, eqo_bt, eqo_bl, eqo_bd, eqo_in, eqo_ib, eqo_ii, eqo_is, eqo_it, eqo_il, eqo_id, eqo_sn, eqo_sb, eqo_si, eqo_ss, eqo_st, eqo_sl, eqo_sd, eqo_tn, eqo_tb, eqo_ti, eqo_ts, eqo_tt, eqo_tl, eqo_td, eqo_ln, eqo_lb, eqo_li, eqo_ls, eqo_lt, eqo_ll, eqo_ld, eqo_dn, eqo_db, eqo_di, eqo_ds, eqo_dt, eqo_dl, eqo_dd, inOk, D.flat, xTup, aNil, aCons, mSet, plain_str, plain_tup, plain_int, plain_bl, plains_nil, plains_cons, eqb_str, eqb_int, eqb_bl, eqb_tup, eqbs_nil, eqbs_cn, eqbs_nc, eqbs_cc, eqb_nn, eqb_nb, eqb_ni, eqb_ns, eqb_nt, eqb_nl, eqb_nd, eqb_bn, eqb_bi, eqb_bs, eqb_bt, eqb_b_l, eqb_bd, eqb_in, eqb_ib, eqb_is, eqb_it, eqb_il, eqb_id, eqb_sn, eqb_sb, eqb_si, eqb_sl, eqb_sd, eqb_tn, eqb_tb, eqb_ti, eqb_tl, eqb_td, eqb_ln, eqb_lb, eqb_li, eqb_ls, eqb_lt, eqb_ll, eqb_ld, eqb_dn, eqb_db, eqb_di, eqb_ds, eqb_dt, eqb_dl, eqb_dd, plain_non, plain_lst, plain_dic, eqb_st, eqb_ts, xLen, bip, xIdx, mIdx, index, mItems, mList, xCall, pp_call, xBin, bop_ai, bop_as, bop_at, bop_al, bop_si, bop_mi, bop_ml, bop_mt, bop_ms, bop_mo, bop_fd, bop_pw, SZ, mSlc, mPart, slice, gUnp, gCon, gEnd, mLst, M.bad, mChn, sFor, loopM, xBi, xFz, fLst, mCalk, srcOf, isn_n, isn_b, isn_i, isn_s, isn_t, isn_l, isn_d, isn_r, isn_enc, gStar, dget, atI, fComp, noX, Res.noX, mWipe, cmpR, wipeE, blsOf, intsOf, txtsOf, cut, sIx, mZs, zsOf, zipD, mZip, zipOf, mRng1, mRng2, rngD, mCount, mIndexL, mMt, tyIs, mtp, findD, sTryAs, mIsE, noEx, sPar, sPar3, xRev, revD, sTry, reps, b_118, meet]
/-! ### what is refused -/
theorem met_not (T : Tb) [Fn T 101 fd_101] [Fn T 102 fd_102] [Fn T 104 fd_104] [Fn T 105 fd_105] [Fn T 106 fd_106] [Fn T 109 fd_109] [Fn T 111 fd_111] (f g : Form) (k : Nat) (S : Sto) (hk : 12 < k) (hf : hgt f ≤ 5) (hg : hgt g ≤ 5) (hn : near f g = false) : callT T k 111 [enc f, enc g] S = .exc ⟨110, []⟩ S := by
  obtain ⟨k, rfl⟩ : ∃ j, k = j + 1 := ⟨k - 1, by omega⟩
  rw [call_step]
  have e1 := are_near T f g k S (by omega) hf hg
  rw [hn] at e1
  simp (decide := true) [runD, enc, sSeq, sIf, sRet, sNx, sAsg, sEx, sRai, ↓mb, Res.bind, mp, M.of, mT, xIsi, mBor, mVar, isTy, mTruth, truth, mOr, mAnd, mIte, mNot, xCmp, cop, eqo_nn, eqo_nb, eqo_ni, eqo_ns, eqo_nt, eqo_nl, eqo_nd, eqo_bn, eqo_bb, eqo_bi, eqo_bs, eqo_bt, eqo_bl, eqo_bd, eqo_in, eqo_ib, eqo_ii, eqo_is, eqo_it, eqo_il, eqo_id, eqo_sn, eqo_sb, eqo_si, eqo_ss, eqo_st, eqo_sl, eqo_sd, eqo_tn, eqo_tb, eqo_ti, eqo_ts, eqo_tt, eqo_tl, eqo_td, eqo_ln, eqo_lb, eqo_li, eqo_ls, eqo_lt, eqo_ll, eqo_ld, eqo_dn, eqo_db, eqo_di, eqo_ds, eqo_dt, eqo_dl, eqo_dd, inOk, D.flat, xTup, aNil, aCons, mSet, plain_str, plain_tup, plain_int, plain_bl, plains_nil, plains_cons, eqb_str, eqb_int, eqb_bl, eqb_tup, eqbs_nil, eqbs_cn, eqbs_nc, eqbs_cc, eqb_nn, eqb_nb, eqb_ni, eqb_ns, eqb_nt, eqb_nl, eqb_nd, eqb_bn, eqb_bi, eqb_bs, eqb_bt, eqb_b_l, eqb_bd, eqb_in, eqb_ib, eqb_is, eqb_it, eqb_il, eqb_id, eqb_sn, eqb_sb, eqb_si, eqb_sl, eqb_sd, eqb_tn, eqb_tb, eqb_ti, eqb_tl, eqb_td, eqb_ln, eqb_lb, eqb_li, eqb_ls, eqb_lt, eqb_ll, eqb_ld, eqb_dn, eqb_db, eqb_di, eqb_ds, eqb_dt, eqb_dl, eqb_dd, plain_non, plain_lst, plain_dic, eqb_st, eqb_ts, xLen, bip, xIdx, mIdx, index, mItems, mList, xCall, pp_call, xBin, bop_ai, bop_as, bop_at, bop_al, bop_si, bop_mi, bop_ml, bop_mt, bop_ms, bop_mo, bop_fd, bop_pw, SZ, mSlc, mPart, slice, gUnp, gCon, gEnd, mLst, M.bad, mChn, sFor, loopM, xBi, xFz, fLst, mCalk, srcOf, isn_n, isn_b, isn_i, isn_s, isn_t, isn_l, isn_d, isn_r, isn_enc, gStar, dget, atI, fComp, noX, Res.noX, mWipe, cmpR, wipeE, blsOf, intsOf, txtsOf, cut, sIx, mZs, zsOf, zipD, mZip, zipOf, mRng1, mRng2, rngD, mCount, mIndexL, mMt, tyIs, mtp, findD, sTryAs, mIsE, noEx, sPar, sPar3, xRev, revD, sTry, reps, b_111, e1]
theorem want_not (T : Tb) [Fn T 101 fd_101] [Fn T 102 fd_102] [Fn T 104 fd_104] (d : D) (k : Nat) (S : Sto) (h : callT T k 102 [d] S = .ok (.bl false) S) : callT T (k + 1) 104 [d] S = .exc ⟨103, []⟩ S := by
  rw [call_step]
  simp (decide := true) [runD, enc, sSeq, sIf, sRet, sNx, sAsg, sEx, sRai, ↓mb, Res.bind, mp, M.of, mT, xIsi, mBor, mVar, isTy, mTruth, truth, mOr, mAnd, mIte, mNot, xCmp, cop, eqo_nn, eqo_nb, eqo_ni, eqo_ns, eqo_nt, eqo_nl, eqo_nd, eqo_bn, eqo_bb, eqo_bi, eqo_bs, eqo_bt, eqo_bl, eqo_bd, eqo_in, eqo_ib, eqo_ii, eqo_is, eqo_it, eqo_il, eqo_id, eqo_sn, eqo_sb, eqo_si, eqo_ss, eqo_st, eqo_sl, eqo_sd, eqo_tn, eqo_tb, eqo_ti, eqo_ts, eqo_tt, eqo_tl, eqo_td, eqo_ln, eqo_lb, eqo_li, eqo_ls, eqo_lt, eqo_ll, eqo_ld, eqo_dn, eqo_db, eqo_di, eqo_ds, eqo_dt, eqo_dl, eqo_dd, inOk, D.flat, xTup, aNil, aCons, mSet, plain_str, plain_tup, plain_int, plain_bl, plains_nil, plains_cons, eqb_str, eqb_int, eqb_bl, eqb_tup, eqbs_nil, eqbs_cn, eqbs_nc, eqbs_cc, eqb_nn, eqb_nb, eqb_ni, eqb_ns, eqb_nt, eqb_nl, eqb_nd, eqb_bn, eqb_bi, eqb_bs, eqb_bt, eqb_b_l, eqb_bd, eqb_in, eqb_ib, eqb_is, eqb_it, eqb_il, eqb_id, eqb_sn, eqb_sb, eqb_si, eqb_sl, eqb_sd, eqb_tn, eqb_tb, eqb_ti, eqb_tl, eqb_td, eqb_ln, eqb_lb, eqb_li, eqb_ls, eqb_lt, eqb_ll, eqb_ld, eqb_dn, eqb_db, eqb_di, eqb_ds, eqb_dt, eqb_dl, eqb_dd, plain_non, plain_lst, plain_dic, eqb_st, eqb_ts, xLen, bip, xIdx, mIdx, index, mItems, mList, xCall, pp_call, xBin, bop_ai, bop_as, bop_at, bop_al, bop_si, bop_mi, bop_ml, bop_mt, bop_ms, bop_mo, bop_fd, bop_pw, SZ, mSlc, mPart, slice, gUnp, gCon, gEnd, mLst, M.bad, mChn, sFor, loopM, xBi, xFz, fLst, mCalk, srcOf, isn_n, isn_b, isn_i, isn_s, isn_t, isn_l, isn_d, isn_r, isn_enc, b_104, h]
theorem near_not_l (T : Tb) [Fn T 101 fd_101] [Fn T 102 fd_102] [Fn T 104 fd_104] [Fn T 105 fd_105] [Fn T 106 fd_106] (d e : D) (k : Nat) (S : Sto) (h : callT T k 102 [d] S = .ok (.bl false) S) : callT T (k + 2) 106 [d, e] S = .exc ⟨103, []⟩ S := by
  have h1 := want_not T d k S h
  rw [call_step]
  simp (decide := true) [runD, enc, sSeq, sIf, sRet, sNx, sAsg, sEx, sRai, ↓mb, Res.bind, mp, M.of, mT, xIsi, mBor, mVar, isTy, mTruth, truth, mOr, mAnd, mIte, mNot, xCmp, cop, eqo_nn, eqo_nb, eqo_ni, eqo_ns, eqo_nt, eqo_nl, eqo_nd, eqo_bn, eqo_bb, eqo_bi, eqo_bs, eqo_bt, eqo_bl, eqo_bd, eqo_in, eqo_ib, eqo_ii, eqo_is, eqo_it, eqo_il, eqo_id, eqo_sn, eqo_sb, eqo_si, eqo_ss, eqo_st, eqo_sl, eqo_sd, eqo_tn, eqo_tb, eqo_ti, eqo_ts, eqo_tt, eqo_tl, eqo_td, eqo_ln, eqo_lb, eqo_li, eqo_ls, eqo_lt, eqo_ll, eqo_ld, eqo_dn, eqo_db, eqo_di, eqo_ds, eqo_dt, eqo_dl, eqo_dd, inOk, D.flat, xTup, aNil, aCons, mSet, plain_str, plain_tup, plain_int, plain_bl, plains_nil, plains_cons, eqb_str, eqb_int, eqb_bl, eqb_tup, eqbs_nil, eqbs_cn, eqbs_nc, eqbs_cc, eqb_nn, eqb_nb, eqb_ni, eqb_ns, eqb_nt, eqb_nl, eqb_nd, eqb_bn, eqb_bi, eqb_bs, eqb_bt, eqb_b_l, eqb_bd, eqb_in, eqb_ib, eqb_is, eqb_it, eqb_il, eqb_id, eqb_sn, eqb_sb, eqb_si, eqb_sl, eqb_sd, eqb_tn, eqb_tb, eqb_ti, eqb_tl, eqb_td, eqb_ln, eqb_lb, eqb_li, eqb_ls, eqb_lt, eqb_ll, eqb_ld, eqb_dn, eqb_db, eqb_di, eqb_ds, eqb_dt, eqb_dl, eqb_dd, plain_non, plain_lst, plain_dic, eqb_st, eqb_ts, xLen, bip, xIdx, mIdx, index, mItems, mList, xCall, pp_call, xBin, bop_ai, bop_as, bop_at, bop_al, bop_si, bop_mi, bop_ml, bop_mt, bop_ms, bop_mo, bop_fd, bop_pw, SZ, mSlc, mPart, slice, gUnp, gCon, gEnd, mLst, M.bad, mChn, sFor, loopM, xBi, xFz, fLst, mCalk, srcOf, isn_n, isn_b, isn_i, isn_s, isn_t, isn_l, isn_d, isn_r, isn_enc, b_106, h1]
theorem near_not_r (T : Tb) [Fn T 101 fd_101] [Fn T 102 fd_102] [Fn T 104 fd_104] [Fn T 105 fd_105] [Fn T 106 fd_106] (f : Form) (e : D) (k : Nat) (S : Sto) (hk : 10 < k) (hf : hgt f ≤ 5) (h : callT T k 102 [e] S = .ok (.bl false) S) : callT T (k + 2) 106 [enc f, e] S = .exc ⟨103, []⟩ S := by
  have h1 := want_not T e k S h
  have h2 := want_forms T f (k + 1) S (by omega) hf
  rw [call_step]
  simp (decide := true) [runD, enc, sSeq, sIf, sRet, sNx, sAsg, sEx, sRai, ↓mb, Res.bind, mp, M.of, mT, xIsi, mBor, mVar, isTy, mTruth, truth, mOr, mAnd, mIte, mNot, xCmp, cop, eqo_nn, eqo_nb, eqo_ni, eqo_ns, eqo_nt, eqo_nl, eqo_nd, eqo_bn, eqo_bb, eqo_bi, eqo_bs, eqo_bt, eqo_bl, eqo_bd, eqo_in, eqo_ib, eqo_ii, eqo_is, eqo_it, eqo_il, eqo_id, eqo_sn, eqo_sb, eqo_si, eqo_ss, eqo_st, eqo_sl, eqo_sd, eqo_tn, eqo_tb, eqo_ti, eqo_ts, eqo_tt, eqo_tl, eqo_td, eqo_ln, eqo_lb, eqo_li, eqo_ls, eqo_lt, eqo_ll, eqo_ld, eqo_dn, eqo_db, eqo_di, eqo_ds, eqo_dt, eqo_dl, eqo_dd, inOk, D.flat, xTup, aNil, aCons, mSet, plain_str, plain_tup, plain_int, plain_bl, plains_nil, plains_cons, eqb_str, eqb_int, eqb_bl, eqb_tup, eqbs_nil, eqbs_cn, eqbs_nc, eqbs_cc, eqb_nn, eqb_nb, eqb_ni, eqb_ns, eqb_nt, eqb_nl, eqb_nd, eqb_bn, eqb_bi, eqb_bs, eqb_bt, eqb_b_l, eqb_bd, eqb_in, eqb_ib, eqb_is, eqb_it, eqb_il, eqb_id, eqb_sn, eqb_sb, eqb_si, eqb_sl, eqb_sd, eqb_tn, eqb_tb, eqb_ti, eqb_tl, eqb_td, eqb_ln, eqb_lb, eqb_li, eqb_ls, eqb_lt, eqb_ll, eqb_ld, eqb_dn, eqb_db, eqb_di, eqb_ds, eqb_dt, eqb_dl, eqb_dd, plain_non, plain_lst, plain_dic, eqb_st, eqb_ts, xLen, bip, xIdx, mIdx, index, mItems, mList, xCall, pp_call, xBin, bop_ai, bop_as, bop_at, bop_al, bop_si, bop_mi, bop_ml, bop_mt, bop_ms, bop_mo, bop_fd, bop_pw, SZ, mSlc, mPart, slice, gUnp, gCon, gEnd, mLst, M.bad, mChn, sFor, loopM, xBi, xFz, fLst, mCalk, srcOf, isn_n, isn_b, isn_i, isn_s, isn_t, isn_l, isn_d, isn_r, isn_enc, b_106, h1, h2]
theorem looser_not_l (T : Tb) [Fn T 101 fd_101] [Fn T 102 fd_102] [Fn T 104 fd_104] [Fn T 107 fd_107] [Fn T 108 fd_108] (d e : D) (k : Nat) (S : Sto) (h : callT T k 102 [d] S = .ok (.bl false) S) : callT T (k + 2) 108 [d, e] S = .exc ⟨103, []⟩ S := by
  have h1 := want_not T d k S h
  rw [call_step]
  simp (decide := true) [runD, enc, sSeq, sIf, sRet, sNx, sAsg, sEx, sRai, ↓mb, Res.bind, mp, M.of, mT, xIsi, mBor, mVar, isTy, mTruth, truth, mOr, mAnd, mIte, mNot, xCmp, cop, eqo_nn, eqo_nb, eqo_ni, eqo_ns, eqo_nt, eqo_nl, eqo_nd, eqo_bn, eqo_bb, eqo_bi, eqo_bs, eqo_bt, eqo_bl, eqo_bd, eqo_in, eqo_ib, eqo_ii, eqo_is, eqo_it, eqo_il, eqo_id, eqo_sn, eqo_sb, eqo_si, eqo_ss, eqo_st, eqo_sl, eqo_sd, eqo_tn, eqo_tb, eqo_ti, eqo_ts, eqo_tt, eqo_tl, eqo_td, eqo_ln, eqo_lb, eqo_li, eqo_ls, eqo_lt, eqo_ll, eqo_ld, eqo_dn, eqo_db, eqo_di, eqo_ds, eqo_dt, eqo_dl, eqo_dd, inOk, D.flat, xTup, aNil, aCons, mSet, plain_str, plain_tup, plain_int, plain_bl, plains_nil, plains_cons, eqb_str, eqb_int, eqb_bl, eqb_tup, eqbs_nil, eqbs_cn, eqbs_nc, eqbs_cc, eqb_nn, eqb_nb, eqb_ni, eqb_ns, eqb_nt, eqb_nl, eqb_nd, eqb_bn, eqb_bi, eqb_bs, eqb_bt, eqb_b_l, eqb_bd, eqb_in, eqb_ib, eqb_is, eqb_it, eqb_il, eqb_id, eqb_sn, eqb_sb, eqb_si, eqb_sl, eqb_sd, eqb_tn, eqb_tb, eqb_ti, eqb_tl, eqb_td, eqb_ln, eqb_lb, eqb_li, eqb_ls, eqb_lt, eqb_ll, eqb_ld, eqb_dn, eqb_db, eqb_di, eqb_ds, eqb_dt, eqb_dl, eqb_dd, plain_non, plain_lst, plain_dic, eqb_st, eqb_ts, xLen, bip, xIdx, mIdx, index, mItems, mList, xCall, pp_call, xBin, bop_ai, bop_as, bop_at, bop_al, bop_si, bop_mi, bop_ml, bop_mt, bop_ms, bop_mo, bop_fd, bop_pw, SZ, mSlc, mPart, slice, gUnp, gCon, gEnd, mLst, M.bad, mChn, sFor, loopM, xBi, xFz, fLst, mCalk, srcOf, isn_n, isn_b, isn_i, isn_s, isn_t, isn_l, isn_d, isn_r, isn_enc, b_108, h1]
theorem looser_not_r (T : Tb) [Fn T 101 fd_101] [Fn T 102 fd_102] [Fn T 104 fd_104] [Fn T 107 fd_107] [Fn T 108 fd_108] (f : Form) (e : D) (k : Nat) (S : Sto) (hk : 10 < k) (hf : hgt f ≤ 5) (h : callT T k 102 [e] S = .ok (.bl false) S) : callT T (k + 2) 108 [enc f, e] S = .exc ⟨103, []⟩ S := by
  have h1 := want_not T e k S h
  have h2 := want_forms T f (k + 1) S (by omega) hf
  rw [call_step]
  simp (decide := true) [runD, enc, sSeq, sIf, sRet, sNx, sAsg, sEx, sRai, ↓mb, Res.bind, mp, M.of, mT, xIsi, mBor, mVar, isTy, mTruth, truth, mOr, mAnd, mIte, mNot, xCmp, cop, eqo_nn, eqo_nb, eqo_ni, eqo_ns, eqo_nt, eqo_nl, eqo_nd, eqo_bn, eqo_bb, eqo_bi, eqo_bs, eqo_bt, eqo_bl, eqo_bd, eqo_in, eqo_ib, eqo_ii, eqo_is, eqo_it, eqo_il, eqo_id, eqo_sn, eqo_sb, eqo_si, eqo_ss, eqo_st, eqo_sl, eqo_sd, eqo_tn, eqo_tb, eqo_ti, eqo_ts, eqo_tt, eqo_tl, eqo_td, eqo_ln, eqo_lb, eqo_li, eqo_ls, eqo_lt, eqo_ll, eqo_ld, eqo_dn, eqo_db, eqo_di, eqo_ds, eqo_dt, eqo_dl, eqo_dd, inOk, D.flat, xTup, aNil, aCons, mSet, plain_str, plain_tup, plain_int, plain_bl, plains_nil, plains_cons, eqb_str, eqb_int, eqb_bl, eqb_tup, eqbs_nil, eqbs_cn, eqbs_nc, eqbs_cc, eqb_nn, eqb_nb, eqb_ni, eqb_ns, eqb_nt, eqb_nl, eqb_nd, eqb_bn, eqb_bi, eqb_bs, eqb_bt, eqb_b_l, eqb_bd, eqb_in, eqb_ib, eqb_is, eqb_it, eqb_il, eqb_id, eqb_sn, eqb_sb, eqb_si, eqb_sl, eqb_sd, eqb_tn, eqb_tb, eqb_ti, eqb_tl, eqb_td, eqb_ln, eqb_lb, eqb_li, eqb_ls, eqb_lt, eqb_ll, eqb_ld, eqb_dn, eqb_db, eqb_di, eqb_ds, eqb_dt, eqb_dl, eqb_dd, plain_non, plain_lst, plain_dic, eqb_st, eqb_ts, xLen, bip, xIdx, mIdx, index, mItems, mList, xCall, pp_call, xBin, bop_ai, bop_as, bop_at, bop_al, bop_si, bop_mi, bop_ml, bop_mt, bop_ms, bop_mo, bop_fd, bop_pw, SZ, mSlc, mPart, slice, gUnp, gCon, gEnd, mLst, M.bad, mChn, sFor, loopM, xBi, xFz, fLst, mCalk, srcOf, isn_n, isn_b, isn_i, isn_s, isn_t, isn_l, isn_d, isn_r, isn_enc, b_108, h1, h2]
theorem met_odd_l (T : Tb) [Fn T 101 fd_101] [Fn T 102 fd_102] [Fn T 104 fd_104] [Fn T 105 fd_105] [Fn T 106 fd_106] [Fn T 109 fd_109] [Fn T 111 fd_111] (d e : D) (k : Nat) (S : Sto) (h : callT T k 102 [d] S = .ok (.bl false) S) : callT T (k + 3) 111 [d, e] S = .exc ⟨103, []⟩ S := by
  have h1 := near_not_l T d e k S h
  rw [call_step]
  simp (decide := true) [runD, enc, sSeq, sIf, sRet, sNx, sAsg, sEx, sRai, ↓mb, Res.bind, mp, M.of, mT, xIsi, mBor, mVar, isTy, mTruth, truth, mOr, mAnd, mIte, mNot, xCmp, cop, eqo_nn, eqo_nb, eqo_ni, eqo_ns, eqo_nt, eqo_nl, eqo_nd, eqo_bn, eqo_bb, eqo_bi, eqo_bs, eqo_bt, eqo_bl, eqo_bd, eqo_in, eqo_ib, eqo_ii, eqo_is, eqo_it, eqo_il, eqo_id, eqo_sn, eqo_sb, eqo_si, eqo_ss, eqo_st, eqo_sl, eqo_sd, eqo_tn, eqo_tb, eqo_ti, eqo_ts, eqo_tt, eqo_tl, eqo_td, eqo_ln, eqo_lb, eqo_li, eqo_ls, eqo_lt, eqo_ll, eqo_ld, eqo_dn, eqo_db, eqo_di, eqo_ds, eqo_dt, eqo_dl, eqo_dd, inOk, D.flat, xTup, aNil, aCons, mSet, plain_str, plain_tup, plain_int, plain_bl, plains_nil, plains_cons, eqb_str, eqb_int, eqb_bl, eqb_tup, eqbs_nil, eqbs_cn, eqbs_nc, eqbs_cc, eqb_nn, eqb_nb, eqb_ni, eqb_ns, eqb_nt, eqb_nl, eqb_nd, eqb_bn, eqb_bi, eqb_bs, eqb_bt, eqb_b_l, eqb_bd, eqb_in, eqb_ib, eqb_is, eqb_it, eqb_il, eqb_id, eqb_sn, eqb_sb, eqb_si, eqb_sl, eqb_sd, eqb_tn, eqb_tb, eqb_ti, eqb_tl, eqb_td, eqb_ln, eqb_lb, eqb_li, eqb_ls, eqb_lt, eqb_ll, eqb_ld, eqb_dn, eqb_db, eqb_di, eqb_ds, eqb_dt, eqb_dl, eqb_dd, plain_non, plain_lst, plain_dic, eqb_st, eqb_ts, xLen, bip, xIdx, mIdx, index, mItems, mList, xCall, pp_call, xBin, bop_ai, bop_as, bop_at, bop_al, bop_si, bop_mi, bop_ml, bop_mt, bop_ms, bop_mo, bop_fd, bop_pw, SZ, mSlc, mPart, slice, gUnp, gCon, gEnd, mLst, M.bad, mChn, sFor, loopM, xBi, xFz, fLst, mCalk, srcOf, isn_n, isn_b, isn_i, isn_s, isn_t, isn_l, isn_d, isn_r, isn_enc, b_111, h1]
theorem met_odd_r (T : Tb) [Fn T 101 fd_101] [Fn T 102 fd_102] [Fn T 104 fd_104] [Fn T 105 fd_105] [Fn T 106 fd_106] [Fn T 109 fd_109] [Fn T 111 fd_111] (f : Form) (e : D) (k : Nat) (S : Sto) (hk : 10 < k) (hf : hgt f ≤ 5) (h : callT T k 102 [e] S = .ok (.bl false) S) : callT T (k + 3) 111 [enc f, e] S = .exc ⟨103, []⟩ S := by
  have h1 := near_not_r T f e k S hk hf h
  rw [call_step]
  simp (decide := true) [runD, enc, sSeq, sIf, sRet, sNx, sAsg, sEx, sRai, ↓mb, Res.bind, mp, M.of, mT, xIsi, mBor, mVar, isTy, mTruth, truth, mOr, mAnd, mIte, mNot, xCmp, cop, eqo_nn, eqo_nb, eqo_ni, eqo_ns, eqo_nt, eqo_nl, eqo_nd, eqo_bn, eqo_bb, eqo_bi, eqo_bs, eqo_bt, eqo_bl, eqo_bd, eqo_in, eqo_ib, eqo_ii, eqo_is, eqo_it, eqo_il, eqo_id, eqo_sn, eqo_sb, eqo_si, eqo_ss, eqo_st, eqo_sl, eqo_sd, eqo_tn, eqo_tb, eqo_ti, eqo_ts, eqo_tt, eqo_tl, eqo_td, eqo_ln, eqo_lb, eqo_li, eqo_ls, eqo_lt, eqo_ll, eqo_ld, eqo_dn, eqo_db, eqo_di, eqo_ds, eqo_dt, eqo_dl, eqo_dd, inOk, D.flat, xTup, aNil, aCons, mSet, plain_str, plain_tup, plain_int, plain_bl, plains_nil, plains_cons, eqb_str, eqb_int, eqb_bl, eqb_tup, eqbs_nil, eqbs_cn, eqbs_nc, eqbs_cc, eqb_nn, eqb_nb, eqb_ni, eqb_ns, eqb_nt, eqb_nl, eqb_nd, eqb_bn, eqb_bi, eqb_bs, eqb_bt, eqb_b_l, eqb_bd, eqb_in, eqb_ib, eqb_is, eqb_it, eqb_il, eqb_id, eqb_sn, eqb_sb, eqb_si, eqb_sl, eqb_sd, eqb_tn, eqb_tb, eqb_ti, eqb_tl, eqb_td, eqb_ln, eqb_lb, eqb_li, eqb_ls, eqb_lt, eqb_ll, eqb_ld, eqb_dn, eqb_db, eqb_di, eqb_ds, eqb_dt, eqb_dl, eqb_dd, plain_non, plain_lst, plain_dic, eqb_st, eqb_ts, xLen, bip, xIdx, mIdx, index, mItems, mList, xCall, pp_call, xBin, bop_ai, bop_as, bop_at, bop_al, bop_si, bop_mi, bop_ml, bop_mt, bop_ms, bop_mo, bop_fd, bop_pw, SZ, mSlc, mPart, slice, gUnp, gCon, gEnd, mLst, M.bad, mChn, sFor, loopM, xBi, xFz, fLst, mCalk, srcOf, isn_n, isn_b, isn_i, isn_s, isn_t, isn_l, isn_d, isn_r, isn_enc, b_111, h1]
end Ev


set_option Elab.async false
set_option linter.all false
set_option autoImplicit false
set_option maxRecDepth 100000
set_option maxHeartbeats 4000000
namespace Ev
open PySem
open Form
/-! ### what has a repr -/
def Sm (k n : Nat) (d : D) : Prop := D.plain k d = true ∧ Sb d = true ∧ W d ≤ n
def Sms (k n : Nat) (ds : List D) : Prop := D.plains k ds = true ∧ Sbs ds = true ∧ Ws ds ≤ n
theorem sm_bl {k : Nat} (b : Bool) : Sm k 5 (.bl b) := ⟨plain_bl k b, rfl, W_bl b⟩
theorem sm_non {k : Nat} : Sm k 4 .non := ⟨by cases k <;> rfl, rfl, by decide +kernel⟩
theorem sm_str {k : Nat} (x : Txt) (h : ∀ c ∈ x, c < 128) (n : Nat) (hn : x.length ≤ n) : Sm k (10 * n + 2) (.str x) := by
  refine ⟨?_, rfl, ?_⟩
  · rw [plain_str, List.all_eq_true]
    intro c hc
    have := h c hc
    simp; omega
  · have := W_str x fun c hc => Nat.lt_of_lt_of_le (h c hc) (by decide)
    omega
theorem sm_enc {k : Nat} (f : Form) (h : hgt f ≤ 6) (hk : 6 ≤ k) : Sm k 7040 (enc f) := ⟨plain_enc f k (by omega), Sb_enc f, W_small f h⟩
theorem sms_nil {k : Nat} : Sms k 0 [] := ⟨plains_nil k, rfl, Nat.le_refl _⟩
theorem sms_cons {k a b : Nat} {d : D} {ds : List D} (h : Sm k a d) (hs : Sms k b ds) : Sms k (a + 2 + b) (d :: ds) := by
  refine ⟨?_, ?_, ?_⟩
  · rw [plains_cons, h.1, hs.1]; rfl
  · simp only [Sbs, h.2.1, hs.2.1]; rfl
  · have := h.2.2; have := hs.2.2; simp only [Ws]; omega
theorem sm_lst {k n : Nat} {ds : List D} (h : Sms k n ds) : Sm (k + 1) (n + 2) (.lst ds) := by
  refine ⟨h.1, ?_, ?_⟩
  · show PyData.showableAll (toPys ds) = true
    rw [sbs_eq]; exact h.2.1
  · have := W_lst ds; have := h.2.2; omega
theorem sm_tup {k n : Nat} {ds : List D} (h : Sms k n ds) : Sm (k + 1) (n + 3) (.tup ds) := by
  refine ⟨h.1, ?_, ?_⟩
  · show PyData.showableAll (toPys ds) = true
    rw [sbs_eq]; exact h.2.1
  · have := W_tup ds; have := h.2.2; omega
theorem Sm.up {k j n : Nat} {d : D} (h : Sm k n d) (hp : D.plain j d = true) : Sm j n d := ⟨hp, h.2⟩
theorem Sm.le {k n m : Nat} {d : D} (h : Sm k n d) (hn : n ≤ m) : Sm k m d := ⟨h.1, h.2.1, Nat.le_trans h.2.2 hn⟩
theorem Sm.shown {n : Nat} {d : D} (h : Sm 60 n d) (hn : n ≤ 16777216) : ∃ t, shownD d = some t := shown_some h.1 h.2.1 (Nat.le_trans h.2.2 hn)
end Ev


set_option Elab.async false
set_option linter.all false
set_option autoImplicit false
set_option maxRecDepth 100000
set_option maxHeartbeats 4000000
namespace Ev
open PySem
open Form
/-! ### loops -/
theorem bind_ok {α β : Type} {m : M α} {f : α → M β} {a : α} {ρ ρ1 : Env} {S S1 : Sto} (h : m ρ S = .ok a ρ1 S1) : M.bind m f ρ S = f a ρ1 S1 := by
  unfold M.bind Res.bind
  rw [h]
theorem loop_inv {asg : D → M Unit} {body : M Flow} (I : Env → Sto → Prop) : ∀ (ds : List D), (∀ d ∈ ds, ∀ ρ S, I ρ S → ∃ ρ' S', (M.bind (asg d) fun _ => body) ρ S = .ok .nx ρ' S' ∧ I ρ' S') → ∀ ρ S, I ρ S → ∃ ρ' S', loopM asg body ds ρ S = .ok .nx ρ' S' ∧ I ρ' S'
  | [], _, ρ, S, h => ⟨ρ, S, rfl, h⟩
  | d :: r, hs, ρ, S, h => by
    obtain ⟨ρ1, S1, e1, h1⟩ := hs d (by simp) ρ S h
    obtain ⟨ρ2, S2, e2, h2⟩ := loop_inv I r (fun x hx => hs x (by simp [hx])) ρ1 S1 h1
    refine ⟨ρ2, S2, ?_, h2⟩
    rw [← e2]
    have q : loopM asg body (d :: r) = M.bind (M.bind (asg d) fun _ => body) fun f => match f with
      | .nx => loopM asg body r
      | .ct => loopM asg body r
      | .br => M.pure .nx
      | .rt v => M.pure (.rt v) := (M.assoc _ _ _).symm
    rw [q, bind_ok e1]
theorem loop_step {asg : D → M Unit} {body : M Flow} {d : D} {r : List D} {ρ ρ1 : Env} {S S1 : Sto} (e1 : (M.bind (asg d) fun _ => body) ρ S = .ok .nx ρ1 S1) : loopM asg body (d :: r) ρ S = loopM asg body r ρ1 S1 := by
  have q : loopM asg body (d :: r) = M.bind (M.bind (asg d) fun _ => body) fun f => match f with
    | .nx => loopM asg body r
    | .ct => loopM asg body r
    | .br => M.pure .nx
    | .rt v => M.pure (.rt v) := (M.assoc _ _ _).symm
  rw [q, bind_ok e1]
theorem mem_rngD : ∀ (n : Nat) (lo : Int) (d : D), d ∈ rngD lo n → ∃ i : Nat, i < n ∧ d = .int (lo + i)
  | 0, _, _, h => by cases h
  | n + 1, lo, d, h => by
    rcases List.mem_cons.mp h with rfl | h
    · exact ⟨0, by omega, by simp⟩
    · obtain ⟨i, hi, e⟩ := mem_rngD n (lo + 1) d h
      exact ⟨i + 1, by omega, by rw [e]; congr 1; omega⟩
theorem rngD_len : ∀ (n : Nat) (lo : Int), (rngD lo n).length = n
  | 0, _ => rfl
  | n + 1, lo => by simp [rngD, rngD_len n]
theorem rng1_at (ms : M (List D)) (ρ : Env) (S : Sto) (n : Nat) (h : n ≤ 1000) (e : ms ρ S = .ok [.int (n : Int)] ρ S) : mRng1 ms ρ S = .ok (rngD 0 n) ρ S := by
  unfold mRng1
  unfold M.bind Res.bind
  rw [e]
  show (if -(2 ^ 62) ≤ (n : Int) ∧ (n : Int) < 2 ^ 62 then M.pure (rngD 0 (n : Int).toNat) else M.bad) ρ S = _
  rw [if_pos ⟨by omega, by omega⟩]
  rfl
theorem law_rng (N : Int) (h1 : 1 ≤ N) (h2 : N ≤ 100) (ns : List Int) (rs : Env) (S : Sto) : ∃ m : Nat, m ≤ 100 ∧ mRng1 (aCons (xBi .max2 (aCons (M.pure (.int 1)) (aCons (xBi .min2 (aCons (M.pure (.int N)) (aCons (xLen (mBor 0)) aNil))) aNil))) aNil) (some (.fz (.scr ns)) :: rs) S = .ok (rngD 0 m) (some (.fz (.scr ns)) :: rs) S := by
  refine ⟨max 1 (min N.toNat ns.length), by omega, rng1_at _ _ _ _ (by omega) ?_⟩
  generalize hL : ns.length = L
  have e0 : ((max 1 (min N.toNat L) : Nat) : Int) = if (if (L : Int) < N then (L : Int) else N) > 1 then (if (L : Int) < N then (L : Int) else N) else 1 := by
    by_cases h6 : (L : Int) < N
    · simp only [h6, if_true]; split <;> omega
    · simp only [h6, if_false]; split <;> omega
  rw [e0]
  simp [runD, enc, sSeq, sIf, sRet, sNx, sAsg, sEx, sRai, ↓mb, Res.bind, mp, M.of, mT, xIsi, mBor, mVar, isTy, mTruth, truth, mOr, mAnd, mIte, mNot, xCmp, cop, eqo_nn, eqo_nb, eqo_ni, eqo_ns, eqo_nt, eqo_nl, eqo_nd, eqo_bn, eqo_bb, eqo_bi, eqo_bs, eqo_bt, eqo_bl, eqo_bd, eqo_in, eqo_ib, eqo_ii, eqo_is, eqo_it, eqo_il, eqo_id, eqo_sn, eqo_sb, eqo_si, eqo_ss, eqo_st, eqo_sl, eqo_sd, eqo_tn, eqo_tb, eqo_ti, eqo_ts, eqo_tt, eqo_tl, eqo_td, eqo_ln, eqo_lb, eqo_li, eqo_ls, eqo_lt, eqo_ll, eqo_ld, eqo_dn, eqo_db, eqo_di, eqo_ds, eqo_dt, eqo_dl, eqo_dd, inOk, D.flat, xTup, aNil, aCons, mSet, plain_str, plain_tup, plain_int, plain_bl, plains_nil, plains_cons, eqb_str, eqb_int, eqb_bl, eqb_tup, eqbs_nil, eqbs_cn, eqbs_nc, eqbs_cc, eqb_nn, eqb_nb, eqb_ni, eqb_ns, eqb_nt, eqb_nl, eqb_nd, eqb_bn, eqb_bi, eqb_bs, eqb_bt, eqb_b_l, eqb_bd, eqb_in, eqb_ib, eqb_is, eqb_it, eqb_il, eqb_id, eqb_sn, eqb_sb, eqb_si, eqb_sl, eqb_sd, eqb_tn, eqb_tb, eqb_ti, eqb_tl, eqb_td, eqb_ln, eqb_lb, eqb_li, eqb_ls, eqb_lt, eqb_ll, eqb_ld, eqb_dn, eqb_db, eqb_di, eqb_ds, eqb_dt, eqb_dl, eqb_dd, plain_non, plain_lst, plain_dic, eqb_st, eqb_ts, xLen, bip, xIdx, mIdx, index, mItems, mList, xCall, pp_call, xBin, bop_ai, bop_as, bop_at, bop_al, bop_si, bop_mi, bop_ml, bop_mt, bop_ms, bop_mo, bop_fd, bop_pw, SZ, mSlc, mPart, slice, gUnp, gCon, gEnd, mLst, M.bad, mChn, sFor, loopM, xBi, xFz, fLst, mCalk, srcOf, isn_n, isn_b, isn_i, isn_s, isn_t, isn_l, isn_d, isn_r, isn_enc, hL]
theorem law_rng2 (N : Int) (h1 : 1 ≤ N) (h2 : N ≤ 100) (ns : List Int) (rs : Env) (S : Sto) : ∃ m : Nat, m ≤ 100 ∧ mRng1 (aCons (xBi .max2 (aCons (M.pure (.int 1)) (aCons (xBi .min2 (aCons (xLen (mBor 0)) (aCons (M.pure (.int N)) aNil))) aNil))) aNil) (some (.fz (.scr ns)) :: rs) S = .ok (rngD 0 m) (some (.fz (.scr ns)) :: rs) S := by
  refine ⟨max 1 (min N.toNat ns.length), by omega, rng1_at _ _ _ _ (by omega) ?_⟩
  generalize hL : ns.length = L
  have e0 : ((max 1 (min N.toNat L) : Nat) : Int) = if (if N < (L : Int) then N else (L : Int)) > 1 then (if N < (L : Int) then N else (L : Int)) else 1 := by
    by_cases h6 : N < (L : Int)
    · simp only [h6, if_true]; split <;> omega
    · simp only [h6, if_false]; split <;> omega
  rw [e0]
  simp [runD, enc, sSeq, sIf, sRet, sNx, sAsg, sEx, sRai, ↓mb, Res.bind, mp, M.of, mT, xIsi, mBor, mVar, isTy, mTruth, truth, mOr, mAnd, mIte, mNot, xCmp, cop, eqo_nn, eqo_nb, eqo_ni, eqo_ns, eqo_nt, eqo_nl, eqo_nd, eqo_bn, eqo_bb, eqo_bi, eqo_bs, eqo_bt, eqo_bl, eqo_bd, eqo_in, eqo_ib, eqo_ii, eqo_is, eqo_it, eqo_il, eqo_id, eqo_sn, eqo_sb, eqo_si, eqo_ss, eqo_st, eqo_sl, eqo_sd, eqo_tn, eqo_tb, eqo_ti, eqo_ts, eqo_tt, eqo_tl, eqo_td, eqo_ln, eqo_lb, eqo_li, eqo_ls, eqo_lt, eqo_ll, eqo_ld, eqo_dn, eqo_db, eqo_di, eqo_ds, eqo_dt, eqo_dl, eqo_dd, inOk, D.flat, xTup, aNil, aCons, mSet, plain_str, plain_tup, plain_int, plain_bl, plains_nil, plains_cons, eqb_str, eqb_int, eqb_bl, eqb_tup, eqbs_nil, eqbs_cn, eqbs_nc, eqbs_cc, eqb_nn, eqb_nb, eqb_ni, eqb_ns, eqb_nt, eqb_nl, eqb_nd, eqb_bn, eqb_bi, eqb_bs, eqb_bt, eqb_b_l, eqb_bd, eqb_in, eqb_ib, eqb_is, eqb_it, eqb_il, eqb_id, eqb_sn, eqb_sb, eqb_si, eqb_sl, eqb_sd, eqb_tn, eqb_tb, eqb_ti, eqb_tl, eqb_td, eqb_ln, eqb_lb, eqb_li, eqb_ls, eqb_lt, eqb_ll, eqb_ld, eqb_dn, eqb_db, eqb_di, eqb_ds, eqb_dt, eqb_dl, eqb_dd, plain_non, plain_lst, plain_dic, eqb_st, eqb_ts, xLen, bip, xIdx, mIdx, index, mItems, mList, xCall, pp_call, xBin, bop_ai, bop_as, bop_at, bop_al, bop_si, bop_mi, bop_ml, bop_mt, bop_ms, bop_mo, bop_fd, bop_pw, SZ, mSlc, mPart, slice, gUnp, gCon, gEnd, mLst, M.bad, mChn, sFor, loopM, xBi, xFz, fLst, mCalk, srcOf, isn_n, isn_b, isn_i, isn_s, isn_t, isn_l, isn_d, isn_r, isn_enc, hL]
/-- a law's own loop over its cells -/
theorem law_for {mr : M (List D)} {turn : M Flow} (nv : Nat) (ns : List Int) (rs : Env) (S : Sto) (hl : rs.length = nv)
    (hr : ∃ m : Nat, m ≤ 100 ∧ mr (some (.fz (.scr ns)) :: none :: rs) S = .ok (rngD 0 m) (some (.fz (.scr ns)) :: none :: rs) S)
    (ht : ∀ (i : Nat) (rs : Env) (S : Sto), i ≤ 100 → rs.length = nv → ∃ rs' S', rs'.length = nv ∧ turn (some (.fz (.scr ns)) :: some (.fz (.int i)) :: rs) S = .ok .nx (some (.fz (.scr ns)) :: some (.fz (.int i)) :: rs') S') :
    ∃ (r1 : Option SV) (rs' : Env) (S' : Sto), rs'.length = nv ∧ sFor mr (mSet 1) turn (some (.fz (.scr ns)) :: none :: rs) S = .ok .nx (some (.fz (.scr ns)) :: r1 :: rs') S' := by
  obtain ⟨m, hm, er⟩ := hr
  obtain ⟨ρ', S', e, r1, rs', hl', rfl⟩ := loop_inv (asg := mSet 1) (body := turn) (fun ρ _ => ∃ (r1 : Option SV) (rs : Env), rs.length = nv ∧ ρ = some (.fz (.scr ns)) :: r1 :: rs) (rngD 0 m) (fun d hd ρ S ⟨r1, rs, hl, e⟩ => by
    subst e
    obtain ⟨i, hi, rfl⟩ := mem_rngD m 0 d hd
    obtain ⟨rs', S', hl', e'⟩ := ht i rs S (by omega) hl
    refine ⟨some (.fz (.scr ns)) :: some (.fz (.int i)) :: rs', S', ?_, some (.fz (.int i)), rs', hl', rfl⟩
    rw [← e']
    have : (0 : Int) + (i : Int) = i := by omega
    rw [this]
    rfl) _ S ⟨none, rs, hl, rfl⟩
  exact ⟨r1, rs', S', hl', by unfold sFor M.bind Res.bind; rw [er]; exact e⟩
inductive F2 {α β : Type} (Q : α → β → Prop) : List α → List β → Prop where
  | nil : F2 Q [] []
  | cons {a : α} {b : β} {as : List α} {bs : List β} : Q a b → F2 Q as bs → F2 Q (a :: as) (b :: bs)
theorem comp_inv {own : List Nat} {f : D → M Unit} {e : M D} {ρ : Env} (J : Sto → Prop) (Q : D → D → Prop) : ∀ (ds acc : List D), (∀ d ∈ ds, ∀ S, J S → ∃ v S', Q d v ∧ J S' ∧ (M.bind (f d) fun _ => M.bind e fun v => M.bind (mWipe own) fun _ => M.pure v) ρ S = .ok v ρ S') → acc.length + ds.length ≤ SZ →
    ∀ S, J S → ∃ vs S', F2 Q ds vs ∧ J S' ∧ cmpR own f (M.pure true) e acc ds ρ S = .ok (acc ++ vs) ρ S'
  | [], acc, _, _, S, h => ⟨[], S, .nil, h, by simp [cmpR, M.pure]⟩
  | d :: r, acc, hs, hl, S, h => by
    obtain ⟨v, S1, q, h1, e1⟩ := hs d (by simp) S h
    simp only [List.length_cons] at hl
    obtain ⟨vs, S2, qs, h2, e2⟩ := comp_inv J Q r (acc ++ [v]) (fun x hx => hs x (by simp [hx])) (by simp; omega) S1 h1
    refine ⟨v :: vs, S2, .cons q qs, h2, ?_⟩
    have ea : acc ++ v :: vs = acc ++ [v] ++ vs := by simp
    rw [ea, ← e2]
    have q : cmpR own f (M.pure true) e acc (d :: r) = M.bind (M.bind (f d) fun _ => M.bind e fun v => M.bind (mWipe own) fun _ => M.pure v) fun v => if acc.length < SZ then cmpR own f (M.pure true) e (acc ++ [v]) r else M.bad := by
      simp only [cmpR, M.assoc, M.pure_bind, if_true]
    rw [q, bind_ok e1, if_pos (show acc.length < SZ by omega)]
theorem all_true : ∀ (ds vs : List D), F2 (fun _ v => v = D.bl true) ds vs → (blsOf vs).map (fun bs => bs.all id) = some true
  | _, _, .nil => rfl
  | _, _, @F2.cons _ _ _ _ _ ds vs h t => by
    subst h
    have ih := all_true ds vs t
    simp only [blsOf]
    cases q : blsOf vs with
    | none => rw [q] at ih; cases ih
    | some bs => rw [q] at ih; simpa using ih
/-- all([e for k in range(..)]) -/
theorem law_all {mr : M (List D)} {e : M D} (ns : List Int) (S : Sto)
    (hr : ∃ m : Nat, m ≤ 100 ∧ mr [some (.fz (.scr ns)), none] S = .ok (rngD 0 m) [some (.fz (.scr ns)), none] S)
    (ht : ∀ (i : Nat) (S : Sto), i ≤ 100 → ∃ S', e [some (.fz (.scr ns)), some (.fz (.int i))] S = .ok (.bl true) [some (.fz (.scr ns)), some (.fz (.int i))] S') :
    ∃ S', (sRet (xBi .all (aCons (xFz (fComp mr [1] (mSet 1) (M.pure true) e)) aNil))) [some (.fz (.scr ns)), none] S = .ok (.rt (.bl true)) [some (.fz (.scr ns)), none] S' := by
  obtain ⟨m, hm, er⟩ := hr
  obtain ⟨vs, S', q, _, e1⟩ := comp_inv (own := [1]) (f := mSet 1) (e := e) (ρ := [some (.fz (.scr ns)), none]) (fun _ => True) (fun _ v => v = .bl true) (rngD 0 m) [] (fun d hd S _ => by
    obtain ⟨i, hi, rfl⟩ := mem_rngD m 0 d hd
    obtain ⟨S', e'⟩ := ht i S (by omega)
    refine ⟨.bl true, S', rfl, trivial, ?_⟩
    have : (0 : Int) + (i : Int) = i := by omega
    rw [this]
    have e0 : mSet 1 (.int i) [some (.fz (.scr ns)), none] S = .ok () [some (.fz (.scr ns)), some (.fz (.int i))] S := rfl
    rw [bind_ok e0, bind_ok e']
    rfl) (by rw [rngD_len]; simp [SZ]; omega) S trivial
  refine ⟨S', ?_⟩
  have ha := all_true _ _ q
  have ew : mWipe [1] [some (SV.fz (.scr ns)), none] S = .ok () [some (SV.fz (.scr ns)), none] S := rfl
  have hb : (blsOf vs).map (fun bs => D.bl (bs.all id)) = some (.bl true) := by
    cases q2 : blsOf vs with
    | none => rw [q2] at ha; cases ha
    | some bs => rw [q2] at ha; simp at ha ⊢; exact ha
  simp only [List.nil_append] at e1
  simp [runD, enc, sSeq, sIf, sRet, sNx, sAsg, sEx, sRai, ↓mb, Res.bind, mp, M.of, mT, xIsi, mBor, mVar, isTy, mTruth, truth, mOr, mAnd, mIte, mNot, xCmp, cop, eqo_nn, eqo_nb, eqo_ni, eqo_ns, eqo_nt, eqo_nl, eqo_nd, eqo_bn, eqo_bb, eqo_bi, eqo_bs, eqo_bt, eqo_bl, eqo_bd, eqo_in, eqo_ib, eqo_ii, eqo_is, eqo_it, eqo_il, eqo_id, eqo_sn, eqo_sb, eqo_si, eqo_ss, eqo_st, eqo_sl, eqo_sd, eqo_tn, eqo_tb, eqo_ti, eqo_ts, eqo_tt, eqo_tl, eqo_td, eqo_ln, eqo_lb, eqo_li, eqo_ls, eqo_lt, eqo_ll, eqo_ld, eqo_dn, eqo_db, eqo_di, eqo_ds, eqo_dt, eqo_dl, eqo_dd, inOk, D.flat, xTup, aNil, aCons, mSet, plain_str, plain_tup, plain_int, plain_bl, plains_nil, plains_cons, eqb_str, eqb_int, eqb_bl, eqb_tup, eqbs_nil, eqbs_cn, eqbs_nc, eqbs_cc, eqb_nn, eqb_nb, eqb_ni, eqb_ns, eqb_nt, eqb_nl, eqb_nd, eqb_bn, eqb_bi, eqb_bs, eqb_bt, eqb_b_l, eqb_bd, eqb_in, eqb_ib, eqb_is, eqb_it, eqb_il, eqb_id, eqb_sn, eqb_sb, eqb_si, eqb_sl, eqb_sd, eqb_tn, eqb_tb, eqb_ti, eqb_tl, eqb_td, eqb_ln, eqb_lb, eqb_li, eqb_ls, eqb_lt, eqb_ll, eqb_ld, eqb_dn, eqb_db, eqb_di, eqb_ds, eqb_dt, eqb_dl, eqb_dd, plain_non, plain_lst, plain_dic, eqb_st, eqb_ts, xLen, bip, xIdx, mIdx, index, mItems, mList, xCall, pp_call, xBin, bop_ai, bop_as, bop_at, bop_al, bop_si, bop_mi, bop_ml, bop_mt, bop_ms, bop_mo, bop_fd, bop_pw, SZ, mSlc, mPart, slice, gUnp, gCon, gEnd, mLst, M.bad, mChn, sFor, loopM, xBi, xFz, fLst, mCalk, srcOf, isn_n, isn_b, isn_i, isn_s, isn_t, isn_l, isn_d, isn_r, isn_enc, fComp, noX, Res.noX, er, ew, e1, hb]
theorem run1 {T : Tb} {n : Nat} {fd : FD} [Fn T n fd] (k : Nat) (d v : D) (S S' : Sto) (ρ' : Env) (hnp : fd.np = 1) (e : fd.body (T.prm (callT T k)) (some (.fz d) :: List.replicate (fd.ns - 1) none) S = .ok (.rt v) ρ' S') : callT T (k + 1) n [d] S = .ok v S' := by
  rw [call_step]
  unfold runD
  rw [if_pos (show ([d] : List D).length = fd.np by rw [hnp]; rfl)]
  show (match fd.body (T.prm (callT T k)) (some (.fz d) :: List.replicate (fd.ns - 1) none) S with | .ok .nx _ S' => CR.ok .non S' | .ok (.rt d) _ S' => .ok d S' | .ok _ _ _ => .bad | .exc x _ S' => .exc x S' | .bad => .bad) = _
  rw [e]
theorem rng_lit (n : Nat) (h : n ≤ 1000) (ρ : Env) (S : Sto) : mRng1 ((M.pure (.int (n : Int))).bind fun d => (M.pure []).bind fun ds => M.pure (d :: ds)) ρ S = .ok (rngD 0 n) ρ S := rng1_at _ _ _ n h rfl
theorem len1 {α : Type} {l : List α} (h : l.length = 1) : ∃ a, l = [a] := match l, h with | [a], _ => ⟨a, rfl⟩
theorem len2 {α : Type} {l : List α} (h : l.length = 2) : ∃ a b, l = [a, b] := match l, h with | [a, b], _ => ⟨a, b, rfl⟩
theorem len3 {α : Type} {l : List α} (h : l.length = 3) : ∃ a b c, l = [a, b, c] := match l, h with | [a, b, c], _ => ⟨a, b, c, rfl⟩
theorem len4 {α : Type} {l : List α} (h : l.length = 4) : ∃ a b c d, l = [a, b, c, d] := match l, h with | [a, b, c, d], _ => ⟨a, b, c, d, rfl⟩
theorem len5 {α : Type} {l : List α} (h : l.length = 5) : ∃ a b c d e, l = [a, b, c, d, e] := match l, h with | [a, b, c, d, e], _ => ⟨a, b, c, d, e, rfl⟩
theorem len6 {α : Type} {l : List α} (h : l.length = 6) : ∃ a b c d e f, l = [a, b, c, d, e, f] := match l, h with | [a, b, c, d, e, f], _ => ⟨a, b, c, d, e, f, rfl⟩
theorem len7 {α : Type} {l : List α} (h : l.length = 7) : ∃ a b c d e f g, l = [a, b, c, d, e, f, g] := match l, h with | [a, b, c, d, e, f, g], _ => ⟨a, b, c, d, e, f, g, rfl⟩
/-- for k in range(..): pot; for turn in range(m): if not right(pot): return False; return True -/
theorem law_turns (T : Tb) [Fn T 112 fd_112] (N m : Nat) (hm : m ≤ 1000) (k : Nat) (hk : 0 < k) (mr : M (List D)) (ns : List Int) (S : Sto)
    (hr : ∃ j : Nat, j ≤ 100 ∧ mr [some (.fz (.scr ns)), none, none, none] S = .ok (rngD 0 j) [some (.fz (.scr ns)), none, none, none] S)
    (h : ∀ (S : Sto) (n : Nat), Pot S n → ∃ S', callT T k N [.ref n] S = .ok (.bl true) S' ∧ Pot S' n) :
    ∃ ρ S', (sSeq (sFor mr (mSet 1) (sSeq (sAsg (xCall (T.prm (callT T k)) 112 2 (aCons (mVar 0) (aCons (mVar 1) aNil))) (mSet 2)) (sFor (mRng1 (aCons (M.pure (.int (m : Int))) aNil)) (mSet 3) (sIf (mT (mNot (xCall (T.prm (callT T k)) N 1 (aCons (mVar 2) aNil)))) (sRet (M.pure (.bl false))) sNx)))) (sRet (M.pure (.bl true)))) [some (.fz (.scr ns)), none, none, none] S = .ok (.rt (.bl true)) ρ S' := by
  obtain ⟨r1, rs', S', hl, e⟩ := law_for (mr := mr) (turn := sSeq (sAsg (xCall (T.prm (callT T k)) 112 2 (aCons (mVar 0) (aCons (mVar 1) aNil))) (mSet 2)) (sFor (mRng1 (aCons (M.pure (.int (m : Int))) aNil)) (mSet 3) (sIf (mT (mNot (xCall (T.prm (callT T k)) N 1 (aCons (mVar 2) aNil)))) (sRet (M.pure (.bl false))) sNx))) 2 ns [none, none] S rfl hr fun i rs S hi hl => by
    obtain ⟨a, b, rfl⟩ := len2 hl
    obtain ⟨S1, e1, p1⟩ := pot T ns i hi k S hk
    obtain ⟨ρ', S', e2, ⟨b', rfl⟩, p2⟩ := loop_inv (asg := mSet 3) (body := sIf (mT (mNot (xCall (T.prm (callT T k)) N 1 (aCons (mVar 2) aNil)))) (sRet (M.pure (.bl false))) sNx) (fun ρ S' => (∃ b : Option SV, ρ = [some (.fz (.scr ns)), some (.fz (.int i)), some (.fz (.ref S.length)), b]) ∧ Pot S' S.length) (rngD 0 m) (fun d hd ρ S' ⟨⟨b, hρ⟩, hp⟩ => by
      subst hρ
      obtain ⟨j, _, rfl⟩ := mem_rngD m 0 d hd
      obtain ⟨S2, e2, p2⟩ := h S' S.length hp
      refine ⟨[some (.fz (.scr ns)), some (.fz (.int i)), some (.fz (.ref S.length)), some (.fz (.int (0 + j)))], S2, ?_, ⟨_, rfl⟩, p2⟩
      simp (decide := true) [runD, enc, sSeq, sIf, sRet, sNx, sAsg, sEx, sRai, ↓mb, Res.bind, mp, M.of, mT, xIsi, mBor, mVar, isTy, mTruth, truth, mOr, mAnd, mIte, mNot, xCmp, cop, eqo_nn, eqo_nb, eqo_ni, eqo_ns, eqo_nt, eqo_nl, eqo_nd, eqo_bn, eqo_bb, eqo_bi, eqo_bs, eqo_bt, eqo_bl, eqo_bd, eqo_in, eqo_ib, eqo_ii, eqo_is, eqo_it, eqo_il, eqo_id, eqo_sn, eqo_sb, eqo_si, eqo_ss, eqo_st, eqo_sl, eqo_sd, eqo_tn, eqo_tb, eqo_ti, eqo_ts, eqo_tt, eqo_tl, eqo_td, eqo_ln, eqo_lb, eqo_li, eqo_ls, eqo_lt, eqo_ll, eqo_ld, eqo_dn, eqo_db, eqo_di, eqo_ds, eqo_dt, eqo_dl, eqo_dd, inOk, D.flat, xTup, aNil, aCons, mSet, plain_str, plain_tup, plain_int, plain_bl, plains_nil, plains_cons, eqb_str, eqb_int, eqb_bl, eqb_tup, eqbs_nil, eqbs_cn, eqbs_nc, eqbs_cc, eqb_nn, eqb_nb, eqb_ni, eqb_ns, eqb_nt, eqb_nl, eqb_nd, eqb_bn, eqb_bi, eqb_bs, eqb_bt, eqb_b_l, eqb_bd, eqb_in, eqb_ib, eqb_is, eqb_it, eqb_il, eqb_id, eqb_sn, eqb_sb, eqb_si, eqb_sl, eqb_sd, eqb_tn, eqb_tb, eqb_ti, eqb_tl, eqb_td, eqb_ln, eqb_lb, eqb_li, eqb_ls, eqb_lt, eqb_ll, eqb_ld, eqb_dn, eqb_db, eqb_di, eqb_ds, eqb_dt, eqb_dl, eqb_dd, plain_non, plain_lst, plain_dic, eqb_st, eqb_ts, xLen, bip, xIdx, mIdx, index, mItems, mList, xCall, pp_call, xBin, bop_ai, bop_as, bop_at, bop_al, bop_si, bop_mi, bop_ml, bop_mt, bop_ms, bop_mo, bop_fd, bop_pw, SZ, mSlc, mPart, slice, gUnp, gCon, gEnd, mLst, M.bad, mChn, sFor, loopM, xBi, xFz, fLst, mCalk, srcOf, isn_n, isn_b, isn_i, isn_s, isn_t, isn_l, isn_d, isn_r, isn_enc, e2]) [some (.fz (.scr ns)), some (.fz (.int i)), some (.fz (.ref S.length)), b] S1 ⟨⟨b, rfl⟩, p1⟩
    refine ⟨[some (.fz (.ref S.length)), b'], S', rfl, ?_⟩
    have ea : sAsg (xCall (T.prm (callT T k)) 112 2 (aCons (mVar 0) (aCons (mVar 1) aNil))) (mSet 2) [some (.fz (.scr ns)), some (.fz (.int i)), a, b] S = .ok .nx [some (.fz (.scr ns)), some (.fz (.int i)), some (.fz (.ref S.length)), b] S1 := by
      simp (decide := true) [runD, enc, sSeq, sIf, sRet, sNx, sAsg, sEx, sRai, ↓mb, Res.bind, mp, M.of, mT, xIsi, mBor, mVar, isTy, mTruth, truth, mOr, mAnd, mIte, mNot, xCmp, cop, eqo_nn, eqo_nb, eqo_ni, eqo_ns, eqo_nt, eqo_nl, eqo_nd, eqo_bn, eqo_bb, eqo_bi, eqo_bs, eqo_bt, eqo_bl, eqo_bd, eqo_in, eqo_ib, eqo_ii, eqo_is, eqo_it, eqo_il, eqo_id, eqo_sn, eqo_sb, eqo_si, eqo_ss, eqo_st, eqo_sl, eqo_sd, eqo_tn, eqo_tb, eqo_ti, eqo_ts, eqo_tt, eqo_tl, eqo_td, eqo_ln, eqo_lb, eqo_li, eqo_ls, eqo_lt, eqo_ll, eqo_ld, eqo_dn, eqo_db, eqo_di, eqo_ds, eqo_dt, eqo_dl, eqo_dd, inOk, D.flat, xTup, aNil, aCons, mSet, plain_str, plain_tup, plain_int, plain_bl, plains_nil, plains_cons, eqb_str, eqb_int, eqb_bl, eqb_tup, eqbs_nil, eqbs_cn, eqbs_nc, eqbs_cc, eqb_nn, eqb_nb, eqb_ni, eqb_ns, eqb_nt, eqb_nl, eqb_nd, eqb_bn, eqb_bi, eqb_bs, eqb_bt, eqb_b_l, eqb_bd, eqb_in, eqb_ib, eqb_is, eqb_it, eqb_il, eqb_id, eqb_sn, eqb_sb, eqb_si, eqb_sl, eqb_sd, eqb_tn, eqb_tb, eqb_ti, eqb_tl, eqb_td, eqb_ln, eqb_lb, eqb_li, eqb_ls, eqb_lt, eqb_ll, eqb_ld, eqb_dn, eqb_db, eqb_di, eqb_ds, eqb_dt, eqb_dl, eqb_dd, plain_non, plain_lst, plain_dic, eqb_st, eqb_ts, xLen, bip, xIdx, mIdx, index, mItems, mList, xCall, pp_call, xBin, bop_ai, bop_as, bop_at, bop_al, bop_si, bop_mi, bop_ml, bop_mt, bop_ms, bop_mo, bop_fd, bop_pw, SZ, mSlc, mPart, slice, gUnp, gCon, gEnd, mLst, M.bad, mChn, sFor, loopM, xBi, xFz, fLst, mCalk, srcOf, isn_n, isn_b, isn_i, isn_s, isn_t, isn_l, isn_d, isn_r, isn_enc, e1]
    exact (bind_ok ea).trans ((bind_ok (rng1_at (aCons (M.pure (.int (m : Int))) aNil) _ _ m hm rfl)).trans e2)
  exact ⟨some (.fz (.scr ns)) :: r1 :: rs', S', bind_ok e⟩
end Ev


set_option Elab.async false
set_option linter.all false
set_option autoImplicit false
set_option maxRecDepth 100000
set_option maxHeartbeats 4000000
namespace Ev
open PySem
open Form
/-! ### reading forms -/
theorem cut_abs (t : Txt) (p c : Nat) : cut t (some (p : Int)) (some ((p : Int) + c)) = (t.drop p).take c := by
  have e1 : sIx t.length 0 (some (p : Int)) = min p t.length := by
    show (if (p : Int) < 0 then ((p : Int) + (t.length : Nat)).toNat else min (p : Int).toNat t.length) = _
    rw [if_neg (by omega)]
    simp
  have e2 : sIx t.length t.length (some ((p : Int) + c)) = min (p + c) t.length := by
    show (if (p : Int) + c < 0 then ((p : Int) + c + (t.length : Nat)).toNat else min ((p : Int) + c).toNat t.length) = _
    rw [if_neg (by omega)]
    have : ((p : Int) + c).toNat = p + c := by omega
    rw [this]
  unfold cut
  rw [e1, e2]
  by_cases h : p ≤ t.length
  · rw [show min p t.length = p by omega]
    by_cases h2 : p + c ≤ t.length
    · rw [show min (p + c) t.length - p = c by omega]
    · rw [show min (p + c) t.length - p = t.length - p by omega, List.take_of_length_le (by simp), List.take_of_length_le (by simp; omega)]
  · rw [show min p t.length = t.length by omega, List.drop_eq_nil_of_le (Nat.le_refl _), List.drop_eq_nil_of_le (show t.length ≤ p by omega)]
    simp
theorem cut_abs1 (t : Txt) (p : Nat) : cut t (some (p : Int)) (some ((p : Int) + 1)) = (t.drop p).take 1 := cut_abs t p 1
theorem cut_abs3 (t : Txt) (p : Nat) : cut t (some (p : Int)) (some ((p : Int) + 3)) = (t.drop p).take 3 := cut_abs t p 3
theorem cut_abs4 (t : Txt) (p : Nat) : cut t (some (p : Int)) (some ((p : Int) + 4)) = (t.drop p).take 4 := cut_abs t p 4
theorem at_abs {t : Txt} {p c : Nat} (h : (t.drop p).take 1 = [c]) : atI t (p : Int) = some c := by
  unfold atI
  rw [if_pos (by omega)]
  have e : (t.drop p)[0]? = some c := by
    cases q : t.drop p with
    | nil => rw [q] at h; cases h
    | cons x r => rw [q] at h; cases h; rfl
  rw [List.getElem?_drop] at e
  simpa using e
/-- the form that begins at a place, and the place behind it -/
def pf (t : Txt) : Nat → Nat → Option (Form × Nat)
  | h, p => if (t.drop p).take 3 = [97,110,121] then some (any, p + 3) else if (t.drop p).take 3 = [110,117,109] then some (num, p + 3) else if (t.drop p).take 4 = [116,101,120,116] then some (text, p + 4)
    else match h with
    | 0 => none
    | h + 1 =>
      if (t.drop p).take 1 = [91] then (match pf t h (p + 1) with
        | some (f, e) => if (t.drop e).take 1 = [93] then some (box f, e + 1) else none
        | none => none)
      else if (t.drop p).take 1 = [40] then (match pf t h (p + 1) with
        | some (f, e) => if (t.drop e).take 1 = [62] then (match pf t h (e + 1) with
            | some (g, e2) => if (t.drop e2).take 1 = [41] then some (deed f g, e2 + 1) else none
            | none => none) else none
        | none => none)
      else none
theorem want_sign_abs (T : Tb) [Fn T 137 fd_137] (t : Txt) (p c : Nat) (k : Nat) (S : Sto) (hk : 0 < k) (hl : t.length ≤ 16777216) : callT T k 137 [.str t, .int p, .str [c]] S = if (t.drop p).take 1 = [c] then .ok .non S else .exc ⟨103, []⟩ S := by
  obtain ⟨k, rfl⟩ : ∃ j, k = j + 1 := ⟨k - 1, by omega⟩
  rw [call_step]
  have e := cut_abs1 t p
  by_cases h : (t.drop p).take 1 = [c]
  · rw [if_pos h]
    rw [h] at e
    generalize (p : Int) = pi at e ⊢
    simp (decide := true) [runD, enc, sSeq, sIf, sRet, sNx, sAsg, sEx, sRai, ↓mb, Res.bind, mp, M.of, mT, xIsi, mBor, mVar, isTy, mTruth, truth, mOr, mAnd, mIte, mNot, xCmp, cop, eqo_nn, eqo_nb, eqo_ni, eqo_ns, eqo_nt, eqo_nl, eqo_nd, eqo_bn, eqo_bb, eqo_bi, eqo_bs, eqo_bt, eqo_bl, eqo_bd, eqo_in, eqo_ib, eqo_ii, eqo_is, eqo_it, eqo_il, eqo_id, eqo_sn, eqo_sb, eqo_si, eqo_ss, eqo_st, eqo_sl, eqo_sd, eqo_tn, eqo_tb, eqo_ti, eqo_ts, eqo_tt, eqo_tl, eqo_td, eqo_ln, eqo_lb, eqo_li, eqo_ls, eqo_lt, eqo_ll, eqo_ld, eqo_dn, eqo_db, eqo_di, eqo_ds, eqo_dt, eqo_dl, eqo_dd, inOk, D.flat, xTup, aNil, aCons, mSet, plain_str, plain_tup, plain_int, plain_bl, plains_nil, plains_cons, eqb_str, eqb_int, eqb_bl, eqb_tup, eqbs_nil, eqbs_cn, eqbs_nc, eqbs_cc, eqb_nn, eqb_nb, eqb_ni, eqb_ns, eqb_nt, eqb_nl, eqb_nd, eqb_bn, eqb_bi, eqb_bs, eqb_bt, eqb_b_l, eqb_bd, eqb_in, eqb_ib, eqb_is, eqb_it, eqb_il, eqb_id, eqb_sn, eqb_sb, eqb_si, eqb_sl, eqb_sd, eqb_tn, eqb_tb, eqb_ti, eqb_tl, eqb_td, eqb_ln, eqb_lb, eqb_li, eqb_ls, eqb_lt, eqb_ll, eqb_ld, eqb_dn, eqb_db, eqb_di, eqb_ds, eqb_dt, eqb_dl, eqb_dd, plain_non, plain_lst, plain_dic, eqb_st, eqb_ts, xLen, bip, xIdx, mIdx, index, mItems, mList, xCall, pp_call, xBin, bop_ai, bop_as, bop_at, bop_al, bop_si, bop_mi, bop_ml, bop_mt, bop_ms, bop_mo, bop_fd, bop_pw, SZ, mSlc, mPart, slice, gUnp, gCon, gEnd, mLst, M.bad, mChn, sFor, loopM, xBi, xFz, fLst, mCalk, srcOf, isn_n, isn_b, isn_i, isn_s, isn_t, isn_l, isn_d, isn_r, isn_enc, b_137, e, hl]
  · rw [if_neg h]
    generalize (t.drop p).take 1 = w at e h
    generalize (p : Int) = pi at e ⊢
    simp (decide := true) [runD, enc, sSeq, sIf, sRet, sNx, sAsg, sEx, sRai, ↓mb, Res.bind, mp, M.of, mT, xIsi, mBor, mVar, isTy, mTruth, truth, mOr, mAnd, mIte, mNot, xCmp, cop, eqo_nn, eqo_nb, eqo_ni, eqo_ns, eqo_nt, eqo_nl, eqo_nd, eqo_bn, eqo_bb, eqo_bi, eqo_bs, eqo_bt, eqo_bl, eqo_bd, eqo_in, eqo_ib, eqo_ii, eqo_is, eqo_it, eqo_il, eqo_id, eqo_sn, eqo_sb, eqo_si, eqo_ss, eqo_st, eqo_sl, eqo_sd, eqo_tn, eqo_tb, eqo_ti, eqo_ts, eqo_tt, eqo_tl, eqo_td, eqo_ln, eqo_lb, eqo_li, eqo_ls, eqo_lt, eqo_ll, eqo_ld, eqo_dn, eqo_db, eqo_di, eqo_ds, eqo_dt, eqo_dl, eqo_dd, inOk, D.flat, xTup, aNil, aCons, mSet, plain_str, plain_tup, plain_int, plain_bl, plains_nil, plains_cons, eqb_str, eqb_int, eqb_bl, eqb_tup, eqbs_nil, eqbs_cn, eqbs_nc, eqbs_cc, eqb_nn, eqb_nb, eqb_ni, eqb_ns, eqb_nt, eqb_nl, eqb_nd, eqb_bn, eqb_bi, eqb_bs, eqb_bt, eqb_b_l, eqb_bd, eqb_in, eqb_ib, eqb_is, eqb_it, eqb_il, eqb_id, eqb_sn, eqb_sb, eqb_si, eqb_sl, eqb_sd, eqb_tn, eqb_tb, eqb_ti, eqb_tl, eqb_td, eqb_ln, eqb_lb, eqb_li, eqb_ls, eqb_lt, eqb_ll, eqb_ld, eqb_dn, eqb_db, eqb_di, eqb_ds, eqb_dt, eqb_dl, eqb_dd, plain_non, plain_lst, plain_dic, eqb_st, eqb_ts, xLen, bip, xIdx, mIdx, index, mItems, mList, xCall, pp_call, xBin, bop_ai, bop_as, bop_at, bop_al, bop_si, bop_mi, bop_ml, bop_mt, bop_ms, bop_mo, bop_fd, bop_pw, SZ, mSlc, mPart, slice, gUnp, gCon, gEnd, mLst, M.bad, mChn, sFor, loopM, xBi, xFz, fLst, mCalk, srcOf, isn_n, isn_b, isn_i, isn_s, isn_t, isn_l, isn_d, isn_r, isn_enc, b_137, e, hl, h]
def pfR (t : Txt) (h p : Nat) (S : Sto) : CR := match pf t h p with
  | some (f, e) => .ok (.tup [enc f, .int (e : Nat)]) S
  | none => .exc ⟨103, []⟩ S
theorem form_at_abs (T : Tb) [Fn T 137 fd_137] [Fn T 138 fd_138] (t : Txt) (hl : t.length ≤ 16777216) : ∀ (h p k : Nat) (S : Sto), h < k → callT T k 138 [.str t, .int p, .int h] S = pfR t h p S := by
  intro h
  induction h with
  | zero =>
    intro p k S hk
    obtain ⟨k, rfl⟩ : ∃ j, k = j + 1 := ⟨k - 1, by omega⟩
    rw [call_step]
    have c3 := cut_abs3 t p
    have c4 := cut_abs4 t p
    have c1 := cut_abs1 t p
    unfold pfR pf
    by_cases h1 : (t.drop p).take 3 = [97,110,121]
    · rw [if_pos h1]; rw [h1] at c3
      simp only []
      rw [show ((p + 3 : Nat) : Int) = (p : Int) + 3 by omega]
      generalize (p : Int) = pi at *
      simp (decide := true) [runD, enc, sSeq, sIf, sRet, sNx, sAsg, sEx, sRai, ↓mb, Res.bind, mp, M.of, mT, xIsi, mBor, mVar, isTy, mTruth, truth, mOr, mAnd, mIte, mNot, xCmp, cop, eqo_nn, eqo_nb, eqo_ni, eqo_ns, eqo_nt, eqo_nl, eqo_nd, eqo_bn, eqo_bb, eqo_bi, eqo_bs, eqo_bt, eqo_bl, eqo_bd, eqo_in, eqo_ib, eqo_ii, eqo_is, eqo_it, eqo_il, eqo_id, eqo_sn, eqo_sb, eqo_si, eqo_ss, eqo_st, eqo_sl, eqo_sd, eqo_tn, eqo_tb, eqo_ti, eqo_ts, eqo_tt, eqo_tl, eqo_td, eqo_ln, eqo_lb, eqo_li, eqo_ls, eqo_lt, eqo_ll, eqo_ld, eqo_dn, eqo_db, eqo_di, eqo_ds, eqo_dt, eqo_dl, eqo_dd, inOk, D.flat, xTup, aNil, aCons, mSet, plain_str, plain_tup, plain_int, plain_bl, plains_nil, plains_cons, eqb_str, eqb_int, eqb_bl, eqb_tup, eqbs_nil, eqbs_cn, eqbs_nc, eqbs_cc, eqb_nn, eqb_nb, eqb_ni, eqb_ns, eqb_nt, eqb_nl, eqb_nd, eqb_bn, eqb_bi, eqb_bs, eqb_bt, eqb_b_l, eqb_bd, eqb_in, eqb_ib, eqb_is, eqb_it, eqb_il, eqb_id, eqb_sn, eqb_sb, eqb_si, eqb_sl, eqb_sd, eqb_tn, eqb_tb, eqb_ti, eqb_tl, eqb_td, eqb_ln, eqb_lb, eqb_li, eqb_ls, eqb_lt, eqb_ll, eqb_ld, eqb_dn, eqb_db, eqb_di, eqb_ds, eqb_dt, eqb_dl, eqb_dd, plain_non, plain_lst, plain_dic, eqb_st, eqb_ts, xLen, bip, xIdx, mIdx, index, mItems, mList, xCall, pp_call, xBin, bop_ai, bop_as, bop_at, bop_al, bop_si, bop_mi, bop_ml, bop_mt, bop_ms, bop_mo, bop_fd, bop_pw, SZ, mSlc, mPart, slice, gUnp, gCon, gEnd, mLst, M.bad, mChn, sFor, loopM, xBi, xFz, fLst, mCalk, srcOf, isn_n, isn_b, isn_i, isn_s, isn_t, isn_l, isn_d, isn_r, isn_enc, b_138, c3, hl]
    · rw [if_neg h1]
      by_cases h2 : (t.drop p).take 3 = [110,117,109]
      · rw [if_pos h2]; rw [h2] at c3
        simp only []
        rw [show ((p + 3 : Nat) : Int) = (p : Int) + 3 by omega]
        generalize (p : Int) = pi at *
        simp (decide := true) [runD, enc, sSeq, sIf, sRet, sNx, sAsg, sEx, sRai, ↓mb, Res.bind, mp, M.of, mT, xIsi, mBor, mVar, isTy, mTruth, truth, mOr, mAnd, mIte, mNot, xCmp, cop, eqo_nn, eqo_nb, eqo_ni, eqo_ns, eqo_nt, eqo_nl, eqo_nd, eqo_bn, eqo_bb, eqo_bi, eqo_bs, eqo_bt, eqo_bl, eqo_bd, eqo_in, eqo_ib, eqo_ii, eqo_is, eqo_it, eqo_il, eqo_id, eqo_sn, eqo_sb, eqo_si, eqo_ss, eqo_st, eqo_sl, eqo_sd, eqo_tn, eqo_tb, eqo_ti, eqo_ts, eqo_tt, eqo_tl, eqo_td, eqo_ln, eqo_lb, eqo_li, eqo_ls, eqo_lt, eqo_ll, eqo_ld, eqo_dn, eqo_db, eqo_di, eqo_ds, eqo_dt, eqo_dl, eqo_dd, inOk, D.flat, xTup, aNil, aCons, mSet, plain_str, plain_tup, plain_int, plain_bl, plains_nil, plains_cons, eqb_str, eqb_int, eqb_bl, eqb_tup, eqbs_nil, eqbs_cn, eqbs_nc, eqbs_cc, eqb_nn, eqb_nb, eqb_ni, eqb_ns, eqb_nt, eqb_nl, eqb_nd, eqb_bn, eqb_bi, eqb_bs, eqb_bt, eqb_b_l, eqb_bd, eqb_in, eqb_ib, eqb_is, eqb_it, eqb_il, eqb_id, eqb_sn, eqb_sb, eqb_si, eqb_sl, eqb_sd, eqb_tn, eqb_tb, eqb_ti, eqb_tl, eqb_td, eqb_ln, eqb_lb, eqb_li, eqb_ls, eqb_lt, eqb_ll, eqb_ld, eqb_dn, eqb_db, eqb_di, eqb_ds, eqb_dt, eqb_dl, eqb_dd, plain_non, plain_lst, plain_dic, eqb_st, eqb_ts, xLen, bip, xIdx, mIdx, index, mItems, mList, xCall, pp_call, xBin, bop_ai, bop_as, bop_at, bop_al, bop_si, bop_mi, bop_ml, bop_mt, bop_ms, bop_mo, bop_fd, bop_pw, SZ, mSlc, mPart, slice, gUnp, gCon, gEnd, mLst, M.bad, mChn, sFor, loopM, xBi, xFz, fLst, mCalk, srcOf, isn_n, isn_b, isn_i, isn_s, isn_t, isn_l, isn_d, isn_r, isn_enc, b_138, c3, hl]
      · rw [if_neg h2]
        generalize (t.drop p).take 3 = w3 at *
        by_cases h3 : (t.drop p).take 4 = [116,101,120,116]
        · rw [if_pos h3]; rw [h3] at c4
          simp only []
          rw [show ((p + 4 : Nat) : Int) = (p : Int) + 4 by omega]
          generalize (p : Int) = pi at *
          simp (decide := true) [runD, enc, sSeq, sIf, sRet, sNx, sAsg, sEx, sRai, ↓mb, Res.bind, mp, M.of, mT, xIsi, mBor, mVar, isTy, mTruth, truth, mOr, mAnd, mIte, mNot, xCmp, cop, eqo_nn, eqo_nb, eqo_ni, eqo_ns, eqo_nt, eqo_nl, eqo_nd, eqo_bn, eqo_bb, eqo_bi, eqo_bs, eqo_bt, eqo_bl, eqo_bd, eqo_in, eqo_ib, eqo_ii, eqo_is, eqo_it, eqo_il, eqo_id, eqo_sn, eqo_sb, eqo_si, eqo_ss, eqo_st, eqo_sl, eqo_sd, eqo_tn, eqo_tb, eqo_ti, eqo_ts, eqo_tt, eqo_tl, eqo_td, eqo_ln, eqo_lb, eqo_li, eqo_ls, eqo_lt, eqo_ll, eqo_ld, eqo_dn, eqo_db, eqo_di, eqo_ds, eqo_dt, eqo_dl, eqo_dd, inOk, D.flat, xTup, aNil, aCons, mSet, plain_str, plain_tup, plain_int, plain_bl, plains_nil, plains_cons, eqb_str, eqb_int, eqb_bl, eqb_tup, eqbs_nil, eqbs_cn, eqbs_nc, eqbs_cc, eqb_nn, eqb_nb, eqb_ni, eqb_ns, eqb_nt, eqb_nl, eqb_nd, eqb_bn, eqb_bi, eqb_bs, eqb_bt, eqb_b_l, eqb_bd, eqb_in, eqb_ib, eqb_is, eqb_it, eqb_il, eqb_id, eqb_sn, eqb_sb, eqb_si, eqb_sl, eqb_sd, eqb_tn, eqb_tb, eqb_ti, eqb_tl, eqb_td, eqb_ln, eqb_lb, eqb_li, eqb_ls, eqb_lt, eqb_ll, eqb_ld, eqb_dn, eqb_db, eqb_di, eqb_ds, eqb_dt, eqb_dl, eqb_dd, plain_non, plain_lst, plain_dic, eqb_st, eqb_ts, xLen, bip, xIdx, mIdx, index, mItems, mList, xCall, pp_call, xBin, bop_ai, bop_as, bop_at, bop_al, bop_si, bop_mi, bop_ml, bop_mt, bop_ms, bop_mo, bop_fd, bop_pw, SZ, mSlc, mPart, slice, gUnp, gCon, gEnd, mLst, M.bad, mChn, sFor, loopM, xBi, xFz, fLst, mCalk, srcOf, isn_n, isn_b, isn_i, isn_s, isn_t, isn_l, isn_d, isn_r, isn_enc, b_138, c3, c4, h1, h2, hl]
        · rw [if_neg h3]
          generalize (t.drop p).take 4 = w4 at *
          generalize (p : Int) = pi at *
          simp (decide := true) [runD, enc, sSeq, sIf, sRet, sNx, sAsg, sEx, sRai, ↓mb, Res.bind, mp, M.of, mT, xIsi, mBor, mVar, isTy, mTruth, truth, mOr, mAnd, mIte, mNot, xCmp, cop, eqo_nn, eqo_nb, eqo_ni, eqo_ns, eqo_nt, eqo_nl, eqo_nd, eqo_bn, eqo_bb, eqo_bi, eqo_bs, eqo_bt, eqo_bl, eqo_bd, eqo_in, eqo_ib, eqo_ii, eqo_is, eqo_it, eqo_il, eqo_id, eqo_sn, eqo_sb, eqo_si, eqo_ss, eqo_st, eqo_sl, eqo_sd, eqo_tn, eqo_tb, eqo_ti, eqo_ts, eqo_tt, eqo_tl, eqo_td, eqo_ln, eqo_lb, eqo_li, eqo_ls, eqo_lt, eqo_ll, eqo_ld, eqo_dn, eqo_db, eqo_di, eqo_ds, eqo_dt, eqo_dl, eqo_dd, inOk, D.flat, xTup, aNil, aCons, mSet, plain_str, plain_tup, plain_int, plain_bl, plains_nil, plains_cons, eqb_str, eqb_int, eqb_bl, eqb_tup, eqbs_nil, eqbs_cn, eqbs_nc, eqbs_cc, eqb_nn, eqb_nb, eqb_ni, eqb_ns, eqb_nt, eqb_nl, eqb_nd, eqb_bn, eqb_bi, eqb_bs, eqb_bt, eqb_b_l, eqb_bd, eqb_in, eqb_ib, eqb_is, eqb_it, eqb_il, eqb_id, eqb_sn, eqb_sb, eqb_si, eqb_sl, eqb_sd, eqb_tn, eqb_tb, eqb_ti, eqb_tl, eqb_td, eqb_ln, eqb_lb, eqb_li, eqb_ls, eqb_lt, eqb_ll, eqb_ld, eqb_dn, eqb_db, eqb_di, eqb_ds, eqb_dt, eqb_dl, eqb_dd, plain_non, plain_lst, plain_dic, eqb_st, eqb_ts, xLen, bip, xIdx, mIdx, index, mItems, mList, xCall, pp_call, xBin, bop_ai, bop_as, bop_at, bop_al, bop_si, bop_mi, bop_ml, bop_mt, bop_ms, bop_mo, bop_fd, bop_pw, SZ, mSlc, mPart, slice, gUnp, gCon, gEnd, mLst, M.bad, mChn, sFor, loopM, xBi, xFz, fLst, mCalk, srcOf, isn_n, isn_b, isn_i, isn_s, isn_t, isn_l, isn_d, isn_r, isn_enc, b_138, c3, c4, h1, h2, h3, hl]
  | succ h ih =>
    intro p k S hk
    obtain ⟨k, rfl⟩ : ∃ j, k = j + 1 := ⟨k - 1, by omega⟩
    rw [call_step]
    have c3 := cut_abs3 t p
    have c4 := cut_abs4 t p
    have c1 := cut_abs1 t p
    have hz : ¬ ((h : Int) + 1 = 0) := by omega
    have hh : (h : Int) + 1 - 1 = (h : Int) := by omega
    unfold pfR pf
    by_cases h1 : (t.drop p).take 3 = [97,110,121]
    · rw [if_pos h1]; rw [h1] at c3
      simp only []
      rw [show ((p + 3 : Nat) : Int) = (p : Int) + 3 by omega]
      generalize (p : Int) = pi at *
      simp (decide := true) [runD, enc, sSeq, sIf, sRet, sNx, sAsg, sEx, sRai, ↓mb, Res.bind, mp, M.of, mT, xIsi, mBor, mVar, isTy, mTruth, truth, mOr, mAnd, mIte, mNot, xCmp, cop, eqo_nn, eqo_nb, eqo_ni, eqo_ns, eqo_nt, eqo_nl, eqo_nd, eqo_bn, eqo_bb, eqo_bi, eqo_bs, eqo_bt, eqo_bl, eqo_bd, eqo_in, eqo_ib, eqo_ii, eqo_is, eqo_it, eqo_il, eqo_id, eqo_sn, eqo_sb, eqo_si, eqo_ss, eqo_st, eqo_sl, eqo_sd, eqo_tn, eqo_tb, eqo_ti, eqo_ts, eqo_tt, eqo_tl, eqo_td, eqo_ln, eqo_lb, eqo_li, eqo_ls, eqo_lt, eqo_ll, eqo_ld, eqo_dn, eqo_db, eqo_di, eqo_ds, eqo_dt, eqo_dl, eqo_dd, inOk, D.flat, xTup, aNil, aCons, mSet, plain_str, plain_tup, plain_int, plain_bl, plains_nil, plains_cons, eqb_str, eqb_int, eqb_bl, eqb_tup, eqbs_nil, eqbs_cn, eqbs_nc, eqbs_cc, eqb_nn, eqb_nb, eqb_ni, eqb_ns, eqb_nt, eqb_nl, eqb_nd, eqb_bn, eqb_bi, eqb_bs, eqb_bt, eqb_b_l, eqb_bd, eqb_in, eqb_ib, eqb_is, eqb_it, eqb_il, eqb_id, eqb_sn, eqb_sb, eqb_si, eqb_sl, eqb_sd, eqb_tn, eqb_tb, eqb_ti, eqb_tl, eqb_td, eqb_ln, eqb_lb, eqb_li, eqb_ls, eqb_lt, eqb_ll, eqb_ld, eqb_dn, eqb_db, eqb_di, eqb_ds, eqb_dt, eqb_dl, eqb_dd, plain_non, plain_lst, plain_dic, eqb_st, eqb_ts, xLen, bip, xIdx, mIdx, index, mItems, mList, xCall, pp_call, xBin, bop_ai, bop_as, bop_at, bop_al, bop_si, bop_mi, bop_ml, bop_mt, bop_ms, bop_mo, bop_fd, bop_pw, SZ, mSlc, mPart, slice, gUnp, gCon, gEnd, mLst, M.bad, mChn, sFor, loopM, xBi, xFz, fLst, mCalk, srcOf, isn_n, isn_b, isn_i, isn_s, isn_t, isn_l, isn_d, isn_r, isn_enc, b_138, c3, hl]
    · rw [if_neg h1]
      by_cases h2 : (t.drop p).take 3 = [110,117,109]
      · rw [if_pos h2]; rw [h2] at c3
        simp only []
        rw [show ((p + 3 : Nat) : Int) = (p : Int) + 3 by omega]
        generalize (p : Int) = pi at *
        simp (decide := true) [runD, enc, sSeq, sIf, sRet, sNx, sAsg, sEx, sRai, ↓mb, Res.bind, mp, M.of, mT, xIsi, mBor, mVar, isTy, mTruth, truth, mOr, mAnd, mIte, mNot, xCmp, cop, eqo_nn, eqo_nb, eqo_ni, eqo_ns, eqo_nt, eqo_nl, eqo_nd, eqo_bn, eqo_bb, eqo_bi, eqo_bs, eqo_bt, eqo_bl, eqo_bd, eqo_in, eqo_ib, eqo_ii, eqo_is, eqo_it, eqo_il, eqo_id, eqo_sn, eqo_sb, eqo_si, eqo_ss, eqo_st, eqo_sl, eqo_sd, eqo_tn, eqo_tb, eqo_ti, eqo_ts, eqo_tt, eqo_tl, eqo_td, eqo_ln, eqo_lb, eqo_li, eqo_ls, eqo_lt, eqo_ll, eqo_ld, eqo_dn, eqo_db, eqo_di, eqo_ds, eqo_dt, eqo_dl, eqo_dd, inOk, D.flat, xTup, aNil, aCons, mSet, plain_str, plain_tup, plain_int, plain_bl, plains_nil, plains_cons, eqb_str, eqb_int, eqb_bl, eqb_tup, eqbs_nil, eqbs_cn, eqbs_nc, eqbs_cc, eqb_nn, eqb_nb, eqb_ni, eqb_ns, eqb_nt, eqb_nl, eqb_nd, eqb_bn, eqb_bi, eqb_bs, eqb_bt, eqb_b_l, eqb_bd, eqb_in, eqb_ib, eqb_is, eqb_it, eqb_il, eqb_id, eqb_sn, eqb_sb, eqb_si, eqb_sl, eqb_sd, eqb_tn, eqb_tb, eqb_ti, eqb_tl, eqb_td, eqb_ln, eqb_lb, eqb_li, eqb_ls, eqb_lt, eqb_ll, eqb_ld, eqb_dn, eqb_db, eqb_di, eqb_ds, eqb_dt, eqb_dl, eqb_dd, plain_non, plain_lst, plain_dic, eqb_st, eqb_ts, xLen, bip, xIdx, mIdx, index, mItems, mList, xCall, pp_call, xBin, bop_ai, bop_as, bop_at, bop_al, bop_si, bop_mi, bop_ml, bop_mt, bop_ms, bop_mo, bop_fd, bop_pw, SZ, mSlc, mPart, slice, gUnp, gCon, gEnd, mLst, M.bad, mChn, sFor, loopM, xBi, xFz, fLst, mCalk, srcOf, isn_n, isn_b, isn_i, isn_s, isn_t, isn_l, isn_d, isn_r, isn_enc, b_138, c3, hl]
      · rw [if_neg h2]
        generalize (t.drop p).take 3 = w3 at *
        by_cases h3 : (t.drop p).take 4 = [116,101,120,116]
        · rw [if_pos h3]; rw [h3] at c4
          simp only []
          rw [show ((p + 4 : Nat) : Int) = (p : Int) + 4 by omega]
          generalize (p : Int) = pi at *
          simp (decide := true) [runD, enc, sSeq, sIf, sRet, sNx, sAsg, sEx, sRai, ↓mb, Res.bind, mp, M.of, mT, xIsi, mBor, mVar, isTy, mTruth, truth, mOr, mAnd, mIte, mNot, xCmp, cop, eqo_nn, eqo_nb, eqo_ni, eqo_ns, eqo_nt, eqo_nl, eqo_nd, eqo_bn, eqo_bb, eqo_bi, eqo_bs, eqo_bt, eqo_bl, eqo_bd, eqo_in, eqo_ib, eqo_ii, eqo_is, eqo_it, eqo_il, eqo_id, eqo_sn, eqo_sb, eqo_si, eqo_ss, eqo_st, eqo_sl, eqo_sd, eqo_tn, eqo_tb, eqo_ti, eqo_ts, eqo_tt, eqo_tl, eqo_td, eqo_ln, eqo_lb, eqo_li, eqo_ls, eqo_lt, eqo_ll, eqo_ld, eqo_dn, eqo_db, eqo_di, eqo_ds, eqo_dt, eqo_dl, eqo_dd, inOk, D.flat, xTup, aNil, aCons, mSet, plain_str, plain_tup, plain_int, plain_bl, plains_nil, plains_cons, eqb_str, eqb_int, eqb_bl, eqb_tup, eqbs_nil, eqbs_cn, eqbs_nc, eqbs_cc, eqb_nn, eqb_nb, eqb_ni, eqb_ns, eqb_nt, eqb_nl, eqb_nd, eqb_bn, eqb_bi, eqb_bs, eqb_bt, eqb_b_l, eqb_bd, eqb_in, eqb_ib, eqb_is, eqb_it, eqb_il, eqb_id, eqb_sn, eqb_sb, eqb_si, eqb_sl, eqb_sd, eqb_tn, eqb_tb, eqb_ti, eqb_tl, eqb_td, eqb_ln, eqb_lb, eqb_li, eqb_ls, eqb_lt, eqb_ll, eqb_ld, eqb_dn, eqb_db, eqb_di, eqb_ds, eqb_dt, eqb_dl, eqb_dd, plain_non, plain_lst, plain_dic, eqb_st, eqb_ts, xLen, bip, xIdx, mIdx, index, mItems, mList, xCall, pp_call, xBin, bop_ai, bop_as, bop_at, bop_al, bop_si, bop_mi, bop_ml, bop_mt, bop_ms, bop_mo, bop_fd, bop_pw, SZ, mSlc, mPart, slice, gUnp, gCon, gEnd, mLst, M.bad, mChn, sFor, loopM, xBi, xFz, fLst, mCalk, srcOf, isn_n, isn_b, isn_i, isn_s, isn_t, isn_l, isn_d, isn_r, isn_enc, b_138, c3, c4, h1, h2, hl]
        · rw [if_neg h3]
          generalize (t.drop p).take 4 = w4 at *
          have ea := ih (p + 1) k S (by omega)
          rw [show ((p + 1 : Nat) : Int) = (p : Int) + 1 by omega] at ea
          unfold pfR at ea
          by_cases h4 : (t.drop p).take 1 = [91]
          · have ca := at_abs h4
            simp only [h4, if_true]
            rw [h4] at c1
            cases q : pf t h (p + 1) with
            | none =>
              rw [q] at ea
              generalize (p : Int) = pi at *
              simp (decide := true) [runD, enc, sSeq, sIf, sRet, sNx, sAsg, sEx, sRai, ↓mb, Res.bind, mp, M.of, mT, xIsi, mBor, mVar, isTy, mTruth, truth, mOr, mAnd, mIte, mNot, xCmp, cop, eqo_nn, eqo_nb, eqo_ni, eqo_ns, eqo_nt, eqo_nl, eqo_nd, eqo_bn, eqo_bb, eqo_bi, eqo_bs, eqo_bt, eqo_bl, eqo_bd, eqo_in, eqo_ib, eqo_ii, eqo_is, eqo_it, eqo_il, eqo_id, eqo_sn, eqo_sb, eqo_si, eqo_ss, eqo_st, eqo_sl, eqo_sd, eqo_tn, eqo_tb, eqo_ti, eqo_ts, eqo_tt, eqo_tl, eqo_td, eqo_ln, eqo_lb, eqo_li, eqo_ls, eqo_lt, eqo_ll, eqo_ld, eqo_dn, eqo_db, eqo_di, eqo_ds, eqo_dt, eqo_dl, eqo_dd, inOk, D.flat, xTup, aNil, aCons, mSet, plain_str, plain_tup, plain_int, plain_bl, plains_nil, plains_cons, eqb_str, eqb_int, eqb_bl, eqb_tup, eqbs_nil, eqbs_cn, eqbs_nc, eqbs_cc, eqb_nn, eqb_nb, eqb_ni, eqb_ns, eqb_nt, eqb_nl, eqb_nd, eqb_bn, eqb_bi, eqb_bs, eqb_bt, eqb_b_l, eqb_bd, eqb_in, eqb_ib, eqb_is, eqb_it, eqb_il, eqb_id, eqb_sn, eqb_sb, eqb_si, eqb_sl, eqb_sd, eqb_tn, eqb_tb, eqb_ti, eqb_tl, eqb_td, eqb_ln, eqb_lb, eqb_li, eqb_ls, eqb_lt, eqb_ll, eqb_ld, eqb_dn, eqb_db, eqb_di, eqb_ds, eqb_dt, eqb_dl, eqb_dd, plain_non, plain_lst, plain_dic, eqb_st, eqb_ts, xLen, bip, xIdx, mIdx, index, mItems, mList, xCall, pp_call, xBin, bop_ai, bop_as, bop_at, bop_al, bop_si, bop_mi, bop_ml, bop_mt, bop_ms, bop_mo, bop_fd, bop_pw, SZ, mSlc, mPart, slice, gUnp, gCon, gEnd, mLst, M.bad, mChn, sFor, loopM, xBi, xFz, fLst, mCalk, srcOf, isn_n, isn_b, isn_i, isn_s, isn_t, isn_l, isn_d, isn_r, isn_enc, b_138, c3, c4, c1, ca, h1, h2, h3, hl, hz, hh, ea]
            | some fe =>
              obtain ⟨f, e⟩ := fe
              rw [q] at ea
              have es := want_sign_abs T t e 93 k S (by omega) hl
              simp only [] at ea ⊢
              by_cases h5 : (t.drop e).take 1 = [93]
              · rw [if_pos h5] at es
                simp only [h5, if_true]
                rw [show ((e + 1 : Nat) : Int) = (e : Int) + 1 by omega]
                generalize (p : Int) = pi at *
                simp (decide := true) [runD, enc, sSeq, sIf, sRet, sNx, sAsg, sEx, sRai, ↓mb, Res.bind, mp, M.of, mT, xIsi, mBor, mVar, isTy, mTruth, truth, mOr, mAnd, mIte, mNot, xCmp, cop, eqo_nn, eqo_nb, eqo_ni, eqo_ns, eqo_nt, eqo_nl, eqo_nd, eqo_bn, eqo_bb, eqo_bi, eqo_bs, eqo_bt, eqo_bl, eqo_bd, eqo_in, eqo_ib, eqo_ii, eqo_is, eqo_it, eqo_il, eqo_id, eqo_sn, eqo_sb, eqo_si, eqo_ss, eqo_st, eqo_sl, eqo_sd, eqo_tn, eqo_tb, eqo_ti, eqo_ts, eqo_tt, eqo_tl, eqo_td, eqo_ln, eqo_lb, eqo_li, eqo_ls, eqo_lt, eqo_ll, eqo_ld, eqo_dn, eqo_db, eqo_di, eqo_ds, eqo_dt, eqo_dl, eqo_dd, inOk, D.flat, xTup, aNil, aCons, mSet, plain_str, plain_tup, plain_int, plain_bl, plains_nil, plains_cons, eqb_str, eqb_int, eqb_bl, eqb_tup, eqbs_nil, eqbs_cn, eqbs_nc, eqbs_cc, eqb_nn, eqb_nb, eqb_ni, eqb_ns, eqb_nt, eqb_nl, eqb_nd, eqb_bn, eqb_bi, eqb_bs, eqb_bt, eqb_b_l, eqb_bd, eqb_in, eqb_ib, eqb_is, eqb_it, eqb_il, eqb_id, eqb_sn, eqb_sb, eqb_si, eqb_sl, eqb_sd, eqb_tn, eqb_tb, eqb_ti, eqb_tl, eqb_td, eqb_ln, eqb_lb, eqb_li, eqb_ls, eqb_lt, eqb_ll, eqb_ld, eqb_dn, eqb_db, eqb_di, eqb_ds, eqb_dt, eqb_dl, eqb_dd, plain_non, plain_lst, plain_dic, eqb_st, eqb_ts, xLen, bip, xIdx, mIdx, index, mItems, mList, xCall, pp_call, xBin, bop_ai, bop_as, bop_at, bop_al, bop_si, bop_mi, bop_ml, bop_mt, bop_ms, bop_mo, bop_fd, bop_pw, SZ, mSlc, mPart, slice, gUnp, gCon, gEnd, mLst, M.bad, mChn, sFor, loopM, xBi, xFz, fLst, mCalk, srcOf, isn_n, isn_b, isn_i, isn_s, isn_t, isn_l, isn_d, isn_r, isn_enc, b_138, c3, c4, c1, ca, h1, h2, h3, hl, hz, hh, ea, es]
              · rw [if_neg h5] at es
                simp only [h5, if_false]
                generalize (p : Int) = pi at *
                simp (decide := true) [runD, enc, sSeq, sIf, sRet, sNx, sAsg, sEx, sRai, ↓mb, Res.bind, mp, M.of, mT, xIsi, mBor, mVar, isTy, mTruth, truth, mOr, mAnd, mIte, mNot, xCmp, cop, eqo_nn, eqo_nb, eqo_ni, eqo_ns, eqo_nt, eqo_nl, eqo_nd, eqo_bn, eqo_bb, eqo_bi, eqo_bs, eqo_bt, eqo_bl, eqo_bd, eqo_in, eqo_ib, eqo_ii, eqo_is, eqo_it, eqo_il, eqo_id, eqo_sn, eqo_sb, eqo_si, eqo_ss, eqo_st, eqo_sl, eqo_sd, eqo_tn, eqo_tb, eqo_ti, eqo_ts, eqo_tt, eqo_tl, eqo_td, eqo_ln, eqo_lb, eqo_li, eqo_ls, eqo_lt, eqo_ll, eqo_ld, eqo_dn, eqo_db, eqo_di, eqo_ds, eqo_dt, eqo_dl, eqo_dd, inOk, D.flat, xTup, aNil, aCons, mSet, plain_str, plain_tup, plain_int, plain_bl, plains_nil, plains_cons, eqb_str, eqb_int, eqb_bl, eqb_tup, eqbs_nil, eqbs_cn, eqbs_nc, eqbs_cc, eqb_nn, eqb_nb, eqb_ni, eqb_ns, eqb_nt, eqb_nl, eqb_nd, eqb_bn, eqb_bi, eqb_bs, eqb_bt, eqb_b_l, eqb_bd, eqb_in, eqb_ib, eqb_is, eqb_it, eqb_il, eqb_id, eqb_sn, eqb_sb, eqb_si, eqb_sl, eqb_sd, eqb_tn, eqb_tb, eqb_ti, eqb_tl, eqb_td, eqb_ln, eqb_lb, eqb_li, eqb_ls, eqb_lt, eqb_ll, eqb_ld, eqb_dn, eqb_db, eqb_di, eqb_ds, eqb_dt, eqb_dl, eqb_dd, plain_non, plain_lst, plain_dic, eqb_st, eqb_ts, xLen, bip, xIdx, mIdx, index, mItems, mList, xCall, pp_call, xBin, bop_ai, bop_as, bop_at, bop_al, bop_si, bop_mi, bop_ml, bop_mt, bop_ms, bop_mo, bop_fd, bop_pw, SZ, mSlc, mPart, slice, gUnp, gCon, gEnd, mLst, M.bad, mChn, sFor, loopM, xBi, xFz, fLst, mCalk, srcOf, isn_n, isn_b, isn_i, isn_s, isn_t, isn_l, isn_d, isn_r, isn_enc, b_138, c3, c4, c1, ca, h1, h2, h3, hl, hz, hh, ea, es]
          · by_cases h4b : (t.drop p).take 1 = [40]
            · have ca := at_abs h4b
              simp (decide := true) only [h4b, if_true, if_false]
              rw [h4b] at c1
              cases q : pf t h (p + 1) with
              | none =>
                rw [q] at ea
                generalize (p : Int) = pi at *
                simp (decide := true) [runD, enc, sSeq, sIf, sRet, sNx, sAsg, sEx, sRai, ↓mb, Res.bind, mp, M.of, mT, xIsi, mBor, mVar, isTy, mTruth, truth, mOr, mAnd, mIte, mNot, xCmp, cop, eqo_nn, eqo_nb, eqo_ni, eqo_ns, eqo_nt, eqo_nl, eqo_nd, eqo_bn, eqo_bb, eqo_bi, eqo_bs, eqo_bt, eqo_bl, eqo_bd, eqo_in, eqo_ib, eqo_ii, eqo_is, eqo_it, eqo_il, eqo_id, eqo_sn, eqo_sb, eqo_si, eqo_ss, eqo_st, eqo_sl, eqo_sd, eqo_tn, eqo_tb, eqo_ti, eqo_ts, eqo_tt, eqo_tl, eqo_td, eqo_ln, eqo_lb, eqo_li, eqo_ls, eqo_lt, eqo_ll, eqo_ld, eqo_dn, eqo_db, eqo_di, eqo_ds, eqo_dt, eqo_dl, eqo_dd, inOk, D.flat, xTup, aNil, aCons, mSet, plain_str, plain_tup, plain_int, plain_bl, plains_nil, plains_cons, eqb_str, eqb_int, eqb_bl, eqb_tup, eqbs_nil, eqbs_cn, eqbs_nc, eqbs_cc, eqb_nn, eqb_nb, eqb_ni, eqb_ns, eqb_nt, eqb_nl, eqb_nd, eqb_bn, eqb_bi, eqb_bs, eqb_bt, eqb_b_l, eqb_bd, eqb_in, eqb_ib, eqb_is, eqb_it, eqb_il, eqb_id, eqb_sn, eqb_sb, eqb_si, eqb_sl, eqb_sd, eqb_tn, eqb_tb, eqb_ti, eqb_tl, eqb_td, eqb_ln, eqb_lb, eqb_li, eqb_ls, eqb_lt, eqb_ll, eqb_ld, eqb_dn, eqb_db, eqb_di, eqb_ds, eqb_dt, eqb_dl, eqb_dd, plain_non, plain_lst, plain_dic, eqb_st, eqb_ts, xLen, bip, xIdx, mIdx, index, mItems, mList, xCall, pp_call, xBin, bop_ai, bop_as, bop_at, bop_al, bop_si, bop_mi, bop_ml, bop_mt, bop_ms, bop_mo, bop_fd, bop_pw, SZ, mSlc, mPart, slice, gUnp, gCon, gEnd, mLst, M.bad, mChn, sFor, loopM, xBi, xFz, fLst, mCalk, srcOf, isn_n, isn_b, isn_i, isn_s, isn_t, isn_l, isn_d, isn_r, isn_enc, b_138, c3, c4, c1, ca, h1, h2, h3, hl, hz, hh, ea]
              | some fe =>
                obtain ⟨f, e⟩ := fe
                rw [q] at ea
                have es := want_sign_abs T t e 62 k S (by omega) hl
                simp only [] at ea ⊢
                by_cases h5 : (t.drop e).take 1 = [62]
                · rw [if_pos h5] at es
                  simp only [h5, if_true]
                  have eb := ih (e + 1) k S (by omega)
                  rw [show ((e + 1 : Nat) : Int) = (e : Int) + 1 by omega] at eb
                  unfold pfR at eb
                  cases q2 : pf t h (e + 1) with
                  | none =>
                    rw [q2] at eb
                    generalize (p : Int) = pi at *
                    simp (decide := true) [runD, enc, sSeq, sIf, sRet, sNx, sAsg, sEx, sRai, ↓mb, Res.bind, mp, M.of, mT, xIsi, mBor, mVar, isTy, mTruth, truth, mOr, mAnd, mIte, mNot, xCmp, cop, eqo_nn, eqo_nb, eqo_ni, eqo_ns, eqo_nt, eqo_nl, eqo_nd, eqo_bn, eqo_bb, eqo_bi, eqo_bs, eqo_bt, eqo_bl, eqo_bd, eqo_in, eqo_ib, eqo_ii, eqo_is, eqo_it, eqo_il, eqo_id, eqo_sn, eqo_sb, eqo_si, eqo_ss, eqo_st, eqo_sl, eqo_sd, eqo_tn, eqo_tb, eqo_ti, eqo_ts, eqo_tt, eqo_tl, eqo_td, eqo_ln, eqo_lb, eqo_li, eqo_ls, eqo_lt, eqo_ll, eqo_ld, eqo_dn, eqo_db, eqo_di, eqo_ds, eqo_dt, eqo_dl, eqo_dd, inOk, D.flat, xTup, aNil, aCons, mSet, plain_str, plain_tup, plain_int, plain_bl, plains_nil, plains_cons, eqb_str, eqb_int, eqb_bl, eqb_tup, eqbs_nil, eqbs_cn, eqbs_nc, eqbs_cc, eqb_nn, eqb_nb, eqb_ni, eqb_ns, eqb_nt, eqb_nl, eqb_nd, eqb_bn, eqb_bi, eqb_bs, eqb_bt, eqb_b_l, eqb_bd, eqb_in, eqb_ib, eqb_is, eqb_it, eqb_il, eqb_id, eqb_sn, eqb_sb, eqb_si, eqb_sl, eqb_sd, eqb_tn, eqb_tb, eqb_ti, eqb_tl, eqb_td, eqb_ln, eqb_lb, eqb_li, eqb_ls, eqb_lt, eqb_ll, eqb_ld, eqb_dn, eqb_db, eqb_di, eqb_ds, eqb_dt, eqb_dl, eqb_dd, plain_non, plain_lst, plain_dic, eqb_st, eqb_ts, xLen, bip, xIdx, mIdx, index, mItems, mList, xCall, pp_call, xBin, bop_ai, bop_as, bop_at, bop_al, bop_si, bop_mi, bop_ml, bop_mt, bop_ms, bop_mo, bop_fd, bop_pw, SZ, mSlc, mPart, slice, gUnp, gCon, gEnd, mLst, M.bad, mChn, sFor, loopM, xBi, xFz, fLst, mCalk, srcOf, isn_n, isn_b, isn_i, isn_s, isn_t, isn_l, isn_d, isn_r, isn_enc, b_138, c3, c4, c1, ca, h1, h2, h3, hl, hz, hh, ea, es, eb]
                  | some ge =>
                    obtain ⟨g, e2⟩ := ge
                    rw [q2] at eb
                    have es2 := want_sign_abs T t e2 41 k S (by omega) hl
                    simp only [] at eb ⊢
                    by_cases h6 : (t.drop e2).take 1 = [41]
                    · rw [if_pos h6] at es2
                      simp (decide := true) only [h6, if_true]
                      rw [show ((e2 + 1 : Nat) : Int) = (e2 : Int) + 1 by omega]
                      generalize (p : Int) = pi at *
                      simp (decide := true) [runD, enc, sSeq, sIf, sRet, sNx, sAsg, sEx, sRai, ↓mb, Res.bind, mp, M.of, mT, xIsi, mBor, mVar, isTy, mTruth, truth, mOr, mAnd, mIte, mNot, xCmp, cop, eqo_nn, eqo_nb, eqo_ni, eqo_ns, eqo_nt, eqo_nl, eqo_nd, eqo_bn, eqo_bb, eqo_bi, eqo_bs, eqo_bt, eqo_bl, eqo_bd, eqo_in, eqo_ib, eqo_ii, eqo_is, eqo_it, eqo_il, eqo_id, eqo_sn, eqo_sb, eqo_si, eqo_ss, eqo_st, eqo_sl, eqo_sd, eqo_tn, eqo_tb, eqo_ti, eqo_ts, eqo_tt, eqo_tl, eqo_td, eqo_ln, eqo_lb, eqo_li, eqo_ls, eqo_lt, eqo_ll, eqo_ld, eqo_dn, eqo_db, eqo_di, eqo_ds, eqo_dt, eqo_dl, eqo_dd, inOk, D.flat, xTup, aNil, aCons, mSet, plain_str, plain_tup, plain_int, plain_bl, plains_nil, plains_cons, eqb_str, eqb_int, eqb_bl, eqb_tup, eqbs_nil, eqbs_cn, eqbs_nc, eqbs_cc, eqb_nn, eqb_nb, eqb_ni, eqb_ns, eqb_nt, eqb_nl, eqb_nd, eqb_bn, eqb_bi, eqb_bs, eqb_bt, eqb_b_l, eqb_bd, eqb_in, eqb_ib, eqb_is, eqb_it, eqb_il, eqb_id, eqb_sn, eqb_sb, eqb_si, eqb_sl, eqb_sd, eqb_tn, eqb_tb, eqb_ti, eqb_tl, eqb_td, eqb_ln, eqb_lb, eqb_li, eqb_ls, eqb_lt, eqb_ll, eqb_ld, eqb_dn, eqb_db, eqb_di, eqb_ds, eqb_dt, eqb_dl, eqb_dd, plain_non, plain_lst, plain_dic, eqb_st, eqb_ts, xLen, bip, xIdx, mIdx, index, mItems, mList, xCall, pp_call, xBin, bop_ai, bop_as, bop_at, bop_al, bop_si, bop_mi, bop_ml, bop_mt, bop_ms, bop_mo, bop_fd, bop_pw, SZ, mSlc, mPart, slice, gUnp, gCon, gEnd, mLst, M.bad, mChn, sFor, loopM, xBi, xFz, fLst, mCalk, srcOf, isn_n, isn_b, isn_i, isn_s, isn_t, isn_l, isn_d, isn_r, isn_enc, b_138, c3, c4, c1, ca, h1, h2, h3, hl, hz, hh, ea, es, eb, es2]
                    · rw [if_neg h6] at es2
                      simp only [h6, if_false]
                      generalize (p : Int) = pi at *
                      simp (decide := true) [runD, enc, sSeq, sIf, sRet, sNx, sAsg, sEx, sRai, ↓mb, Res.bind, mp, M.of, mT, xIsi, mBor, mVar, isTy, mTruth, truth, mOr, mAnd, mIte, mNot, xCmp, cop, eqo_nn, eqo_nb, eqo_ni, eqo_ns, eqo_nt, eqo_nl, eqo_nd, eqo_bn, eqo_bb, eqo_bi, eqo_bs, eqo_bt, eqo_bl, eqo_bd, eqo_in, eqo_ib, eqo_ii, eqo_is, eqo_it, eqo_il, eqo_id, eqo_sn, eqo_sb, eqo_si, eqo_ss, eqo_st, eqo_sl, eqo_sd, eqo_tn, eqo_tb, eqo_ti, eqo_ts, eqo_tt, eqo_tl, eqo_td, eqo_ln, eqo_lb, eqo_li, eqo_ls, eqo_lt, eqo_ll, eqo_ld, eqo_dn, eqo_db, eqo_di, eqo_ds, eqo_dt, eqo_dl, eqo_dd, inOk, D.flat, xTup, aNil, aCons, mSet, plain_str, plain_tup, plain_int, plain_bl, plains_nil, plains_cons, eqb_str, eqb_int, eqb_bl, eqb_tup, eqbs_nil, eqbs_cn, eqbs_nc, eqbs_cc, eqb_nn, eqb_nb, eqb_ni, eqb_ns, eqb_nt, eqb_nl, eqb_nd, eqb_bn, eqb_bi, eqb_bs, eqb_bt, eqb_b_l, eqb_bd, eqb_in, eqb_ib, eqb_is, eqb_it, eqb_il, eqb_id, eqb_sn, eqb_sb, eqb_si, eqb_sl, eqb_sd, eqb_tn, eqb_tb, eqb_ti, eqb_tl, eqb_td, eqb_ln, eqb_lb, eqb_li, eqb_ls, eqb_lt, eqb_ll, eqb_ld, eqb_dn, eqb_db, eqb_di, eqb_ds, eqb_dt, eqb_dl, eqb_dd, plain_non, plain_lst, plain_dic, eqb_st, eqb_ts, xLen, bip, xIdx, mIdx, index, mItems, mList, xCall, pp_call, xBin, bop_ai, bop_as, bop_at, bop_al, bop_si, bop_mi, bop_ml, bop_mt, bop_ms, bop_mo, bop_fd, bop_pw, SZ, mSlc, mPart, slice, gUnp, gCon, gEnd, mLst, M.bad, mChn, sFor, loopM, xBi, xFz, fLst, mCalk, srcOf, isn_n, isn_b, isn_i, isn_s, isn_t, isn_l, isn_d, isn_r, isn_enc, b_138, c3, c4, c1, ca, h1, h2, h3, hl, hz, hh, ea, es, eb, es2]
                · rw [if_neg h5] at es
                  simp only [h5, if_false]
                  generalize (p : Int) = pi at *
                  simp (decide := true) [runD, enc, sSeq, sIf, sRet, sNx, sAsg, sEx, sRai, ↓mb, Res.bind, mp, M.of, mT, xIsi, mBor, mVar, isTy, mTruth, truth, mOr, mAnd, mIte, mNot, xCmp, cop, eqo_nn, eqo_nb, eqo_ni, eqo_ns, eqo_nt, eqo_nl, eqo_nd, eqo_bn, eqo_bb, eqo_bi, eqo_bs, eqo_bt, eqo_bl, eqo_bd, eqo_in, eqo_ib, eqo_ii, eqo_is, eqo_it, eqo_il, eqo_id, eqo_sn, eqo_sb, eqo_si, eqo_ss, eqo_st, eqo_sl, eqo_sd, eqo_tn, eqo_tb, eqo_ti, eqo_ts, eqo_tt, eqo_tl, eqo_td, eqo_ln, eqo_lb, eqo_li, eqo_ls, eqo_lt, eqo_ll, eqo_ld, eqo_dn, eqo_db, eqo_di, eqo_ds, eqo_dt, eqo_dl, eqo_dd, inOk, D.flat, xTup, aNil, aCons, mSet, plain_str, plain_tup, plain_int, plain_bl, plains_nil, plains_cons, eqb_str, eqb_int, eqb_bl, eqb_tup, eqbs_nil, eqbs_cn, eqbs_nc, eqbs_cc, eqb_nn, eqb_nb, eqb_ni, eqb_ns, eqb_nt, eqb_nl, eqb_nd, eqb_bn, eqb_bi, eqb_bs, eqb_bt, eqb_b_l, eqb_bd, eqb_in, eqb_ib, eqb_is, eqb_it, eqb_il, eqb_id, eqb_sn, eqb_sb, eqb_si, eqb_sl, eqb_sd, eqb_tn, eqb_tb, eqb_ti, eqb_tl, eqb_td, eqb_ln, eqb_lb, eqb_li, eqb_ls, eqb_lt, eqb_ll, eqb_ld, eqb_dn, eqb_db, eqb_di, eqb_ds, eqb_dt, eqb_dl, eqb_dd, plain_non, plain_lst, plain_dic, eqb_st, eqb_ts, xLen, bip, xIdx, mIdx, index, mItems, mList, xCall, pp_call, xBin, bop_ai, bop_as, bop_at, bop_al, bop_si, bop_mi, bop_ml, bop_mt, bop_ms, bop_mo, bop_fd, bop_pw, SZ, mSlc, mPart, slice, gUnp, gCon, gEnd, mLst, M.bad, mChn, sFor, loopM, xBi, xFz, fLst, mCalk, srcOf, isn_n, isn_b, isn_i, isn_s, isn_t, isn_l, isn_d, isn_r, isn_enc, b_138, c3, c4, c1, ca, h1, h2, h3, hl, hz, hh, ea, es]
            · simp only [h4, h4b, if_false]
              generalize (t.drop p).take 1 = w1 at *
              have g1 : ¬ ([91] : Txt) = w1 := fun z => h4 z.symm
              have g2 : ¬ ([40] : Txt) = w1 := fun z => h4b z.symm
              generalize (p : Int) = pi at *
              simp (decide := true) [runD, enc, sSeq, sIf, sRet, sNx, sAsg, sEx, sRai, ↓mb, Res.bind, mp, M.of, mT, xIsi, mBor, mVar, isTy, mTruth, truth, mOr, mAnd, mIte, mNot, xCmp, cop, eqo_nn, eqo_nb, eqo_ni, eqo_ns, eqo_nt, eqo_nl, eqo_nd, eqo_bn, eqo_bb, eqo_bi, eqo_bs, eqo_bt, eqo_bl, eqo_bd, eqo_in, eqo_ib, eqo_ii, eqo_is, eqo_it, eqo_il, eqo_id, eqo_sn, eqo_sb, eqo_si, eqo_ss, eqo_st, eqo_sl, eqo_sd, eqo_tn, eqo_tb, eqo_ti, eqo_ts, eqo_tt, eqo_tl, eqo_td, eqo_ln, eqo_lb, eqo_li, eqo_ls, eqo_lt, eqo_ll, eqo_ld, eqo_dn, eqo_db, eqo_di, eqo_ds, eqo_dt, eqo_dl, eqo_dd, inOk, D.flat, xTup, aNil, aCons, mSet, plain_str, plain_tup, plain_int, plain_bl, plains_nil, plains_cons, eqb_str, eqb_int, eqb_bl, eqb_tup, eqbs_nil, eqbs_cn, eqbs_nc, eqbs_cc, eqb_nn, eqb_nb, eqb_ni, eqb_ns, eqb_nt, eqb_nl, eqb_nd, eqb_bn, eqb_bi, eqb_bs, eqb_bt, eqb_b_l, eqb_bd, eqb_in, eqb_ib, eqb_is, eqb_it, eqb_il, eqb_id, eqb_sn, eqb_sb, eqb_si, eqb_sl, eqb_sd, eqb_tn, eqb_tb, eqb_ti, eqb_tl, eqb_td, eqb_ln, eqb_lb, eqb_li, eqb_ls, eqb_lt, eqb_ll, eqb_ld, eqb_dn, eqb_db, eqb_di, eqb_ds, eqb_dt, eqb_dl, eqb_dd, plain_non, plain_lst, plain_dic, eqb_st, eqb_ts, xLen, bip, xIdx, mIdx, index, mItems, mList, xCall, pp_call, xBin, bop_ai, bop_as, bop_at, bop_al, bop_si, bop_mi, bop_ml, bop_mt, bop_ms, bop_mo, bop_fd, bop_pw, SZ, mSlc, mPart, slice, gUnp, gCon, gEnd, mLst, M.bad, mChn, sFor, loopM, xBi, xFz, fLst, mCalk, srcOf, isn_n, isn_b, isn_i, isn_s, isn_t, isn_l, isn_d, isn_r, isn_enc, b_138, c3, c4, c1, h1, h2, h3, h4, h4b, g1, g2, hl, hz, hh]
/-- what is read of a text -/
def rd (t : Txt) : Option Form := match pf t 5 0 with
  | some (f, e) => if e = t.length then some f else none
  | none => none
theorem read_form_abs (T : Tb) [Fn T 137 fd_137] [Fn T 138 fd_138] [Fn T 139 fd_139] (t : Txt) (hl : t.length ≤ 16777216) (k : Nat) (S : Sto) (hk : 7 < k) : callT T k 139 [.str t] S = match rd t with | some f => .ok (enc f) S | none => .exc ⟨103, []⟩ S := by
  obtain ⟨k, rfl⟩ : ∃ j, k = j + 1 := ⟨k - 1, by omega⟩
  rw [call_step]
  have e1 := form_at_abs T t hl 5 0 k S (by omega)
  have e1 : callT T k 138 [.str t, .int 0, .int 5] S = pfR t 5 0 S := e1
  unfold pfR at e1
  unfold rd
  cases q : pf t 5 0 with
  | none => rw [q] at e1; simp (decide := true) [runD, enc, sSeq, sIf, sRet, sNx, sAsg, sEx, sRai, ↓mb, Res.bind, mp, M.of, mT, xIsi, mBor, mVar, isTy, mTruth, truth, mOr, mAnd, mIte, mNot, xCmp, cop, eqo_nn, eqo_nb, eqo_ni, eqo_ns, eqo_nt, eqo_nl, eqo_nd, eqo_bn, eqo_bb, eqo_bi, eqo_bs, eqo_bt, eqo_bl, eqo_bd, eqo_in, eqo_ib, eqo_ii, eqo_is, eqo_it, eqo_il, eqo_id, eqo_sn, eqo_sb, eqo_si, eqo_ss, eqo_st, eqo_sl, eqo_sd, eqo_tn, eqo_tb, eqo_ti, eqo_ts, eqo_tt, eqo_tl, eqo_td, eqo_ln, eqo_lb, eqo_li, eqo_ls, eqo_lt, eqo_ll, eqo_ld, eqo_dn, eqo_db, eqo_di, eqo_ds, eqo_dt, eqo_dl, eqo_dd, inOk, D.flat, xTup, aNil, aCons, mSet, plain_str, plain_tup, plain_int, plain_bl, plains_nil, plains_cons, eqb_str, eqb_int, eqb_bl, eqb_tup, eqbs_nil, eqbs_cn, eqbs_nc, eqbs_cc, eqb_nn, eqb_nb, eqb_ni, eqb_ns, eqb_nt, eqb_nl, eqb_nd, eqb_bn, eqb_bi, eqb_bs, eqb_bt, eqb_b_l, eqb_bd, eqb_in, eqb_ib, eqb_is, eqb_it, eqb_il, eqb_id, eqb_sn, eqb_sb, eqb_si, eqb_sl, eqb_sd, eqb_tn, eqb_tb, eqb_ti, eqb_tl, eqb_td, eqb_ln, eqb_lb, eqb_li, eqb_ls, eqb_lt, eqb_ll, eqb_ld, eqb_dn, eqb_db, eqb_di, eqb_ds, eqb_dt, eqb_dl, eqb_dd, plain_non, plain_lst, plain_dic, eqb_st, eqb_ts, xLen, bip, xIdx, mIdx, index, mItems, mList, xCall, pp_call, xBin, bop_ai, bop_as, bop_at, bop_al, bop_si, bop_mi, bop_ml, bop_mt, bop_ms, bop_mo, bop_fd, bop_pw, SZ, mSlc, mPart, slice, gUnp, gCon, gEnd, mLst, M.bad, mChn, sFor, loopM, xBi, xFz, fLst, mCalk, srcOf, isn_n, isn_b, isn_i, isn_s, isn_t, isn_l, isn_d, isn_r, isn_enc, b_139, e1, hl]
  | some fe =>
    obtain ⟨f, e⟩ := fe
    rw [q] at e1
    simp only [] at e1 ⊢
    by_cases h : e = t.length
    · simp (decide := true) [runD, enc, sSeq, sIf, sRet, sNx, sAsg, sEx, sRai, ↓mb, Res.bind, mp, M.of, mT, xIsi, mBor, mVar, isTy, mTruth, truth, mOr, mAnd, mIte, mNot, xCmp, cop, eqo_nn, eqo_nb, eqo_ni, eqo_ns, eqo_nt, eqo_nl, eqo_nd, eqo_bn, eqo_bb, eqo_bi, eqo_bs, eqo_bt, eqo_bl, eqo_bd, eqo_in, eqo_ib, eqo_ii, eqo_is, eqo_it, eqo_il, eqo_id, eqo_sn, eqo_sb, eqo_si, eqo_ss, eqo_st, eqo_sl, eqo_sd, eqo_tn, eqo_tb, eqo_ti, eqo_ts, eqo_tt, eqo_tl, eqo_td, eqo_ln, eqo_lb, eqo_li, eqo_ls, eqo_lt, eqo_ll, eqo_ld, eqo_dn, eqo_db, eqo_di, eqo_ds, eqo_dt, eqo_dl, eqo_dd, inOk, D.flat, xTup, aNil, aCons, mSet, plain_str, plain_tup, plain_int, plain_bl, plains_nil, plains_cons, eqb_str, eqb_int, eqb_bl, eqb_tup, eqbs_nil, eqbs_cn, eqbs_nc, eqbs_cc, eqb_nn, eqb_nb, eqb_ni, eqb_ns, eqb_nt, eqb_nl, eqb_nd, eqb_bn, eqb_bi, eqb_bs, eqb_bt, eqb_b_l, eqb_bd, eqb_in, eqb_ib, eqb_is, eqb_it, eqb_il, eqb_id, eqb_sn, eqb_sb, eqb_si, eqb_sl, eqb_sd, eqb_tn, eqb_tb, eqb_ti, eqb_tl, eqb_td, eqb_ln, eqb_lb, eqb_li, eqb_ls, eqb_lt, eqb_ll, eqb_ld, eqb_dn, eqb_db, eqb_di, eqb_ds, eqb_dt, eqb_dl, eqb_dd, plain_non, plain_lst, plain_dic, eqb_st, eqb_ts, xLen, bip, xIdx, mIdx, index, mItems, mList, xCall, pp_call, xBin, bop_ai, bop_as, bop_at, bop_al, bop_si, bop_mi, bop_ml, bop_mt, bop_ms, bop_mo, bop_fd, bop_pw, SZ, mSlc, mPart, slice, gUnp, gCon, gEnd, mLst, M.bad, mChn, sFor, loopM, xBi, xFz, fLst, mCalk, srcOf, isn_n, isn_b, isn_i, isn_s, isn_t, isn_l, isn_d, isn_r, isn_enc, b_139, e1, hl, h]
    · have h' : ¬ (e : Int) = (t.length : Nat) := by omega
      simp (decide := true) [runD, enc, sSeq, sIf, sRet, sNx, sAsg, sEx, sRai, ↓mb, Res.bind, mp, M.of, mT, xIsi, mBor, mVar, isTy, mTruth, truth, mOr, mAnd, mIte, mNot, xCmp, cop, eqo_nn, eqo_nb, eqo_ni, eqo_ns, eqo_nt, eqo_nl, eqo_nd, eqo_bn, eqo_bb, eqo_bi, eqo_bs, eqo_bt, eqo_bl, eqo_bd, eqo_in, eqo_ib, eqo_ii, eqo_is, eqo_it, eqo_il, eqo_id, eqo_sn, eqo_sb, eqo_si, eqo_ss, eqo_st, eqo_sl, eqo_sd, eqo_tn, eqo_tb, eqo_ti, eqo_ts, eqo_tt, eqo_tl, eqo_td, eqo_ln, eqo_lb, eqo_li, eqo_ls, eqo_lt, eqo_ll, eqo_ld, eqo_dn, eqo_db, eqo_di, eqo_ds, eqo_dt, eqo_dl, eqo_dd, inOk, D.flat, xTup, aNil, aCons, mSet, plain_str, plain_tup, plain_int, plain_bl, plains_nil, plains_cons, eqb_str, eqb_int, eqb_bl, eqb_tup, eqbs_nil, eqbs_cn, eqbs_nc, eqbs_cc, eqb_nn, eqb_nb, eqb_ni, eqb_ns, eqb_nt, eqb_nl, eqb_nd, eqb_bn, eqb_bi, eqb_bs, eqb_bt, eqb_b_l, eqb_bd, eqb_in, eqb_ib, eqb_is, eqb_it, eqb_il, eqb_id, eqb_sn, eqb_sb, eqb_si, eqb_sl, eqb_sd, eqb_tn, eqb_tb, eqb_ti, eqb_tl, eqb_td, eqb_ln, eqb_lb, eqb_li, eqb_ls, eqb_lt, eqb_ll, eqb_ld, eqb_dn, eqb_db, eqb_di, eqb_ds, eqb_dt, eqb_dl, eqb_dd, plain_non, plain_lst, plain_dic, eqb_st, eqb_ts, xLen, bip, xIdx, mIdx, index, mItems, mList, xCall, pp_call, xBin, bop_ai, bop_as, bop_at, bop_al, bop_si, bop_mi, bop_ml, bop_mt, bop_ms, bop_mo, bop_fd, bop_pw, SZ, mSlc, mPart, slice, gUnp, gCon, gEnd, mLst, M.bad, mChn, sFor, loopM, xBi, xFz, fLst, mCalk, srcOf, isn_n, isn_b, isn_i, isn_s, isn_t, isn_l, isn_d, isn_r, isn_enc, b_139, e1, hl, h, h']
theorem take1_drop {t : Txt} {p c : Nat} (h : (t.drop p).take 1 = [c]) : t.drop p = c :: t.drop (p + 1) ∧ p < t.length := by
  cases q : t.drop p with
  | nil => rw [q] at h; cases h
  | cons x r =>
    rw [q] at h; cases h
    have e : t.drop (p + 1) = r := by rw [← List.drop_drop, q]; rfl
    refine ⟨by rw [e], ?_⟩
    have : (t.drop p).length = r.length + 1 := by rw [q]; rfl
    rw [List.length_drop] at this
    omega
theorem take_drop {t w : Txt} {p n : Nat} (h : (t.drop p).take n = w) (hw : w.length = n) : t.drop p = w ++ t.drop (p + n) ∧ p + n ≤ max p t.length := by
  have e : t.drop p = (t.drop p).take n ++ (t.drop p).drop n := (List.take_append_drop n _).symm
  rw [h, List.drop_drop] at e
  refine ⟨e, ?_⟩
  have := congrArg List.length h
  rw [List.length_take, List.length_drop, hw] at this
  omega
theorem pf_sound (t : Txt) : ∀ (h p : Nat) (f : Form) (e : Nat), pf t h p = some (f, e) → t.drop p = txt f ++ t.drop e ∧ e = p + (txt f).length ∧ hgt f ≤ h ∧ e ≤ max p t.length := by
  intro h
  induction h with
  | zero =>
    intro p f e q
    unfold pf at q
    split at q
    · rename_i h1; cases q; obtain ⟨a, b⟩ := take_drop h1 rfl; exact ⟨a, rfl, by simp [hgt], b⟩
    · split at q
      · rename_i h1; cases q; obtain ⟨a, b⟩ := take_drop h1 rfl; exact ⟨a, rfl, by simp [hgt], b⟩
      · split at q
        · rename_i h1; cases q; obtain ⟨a, b⟩ := take_drop h1 rfl; exact ⟨a, rfl, by simp [hgt], b⟩
        · cases q
  | succ h ih =>
    intro p f e q
    unfold pf at q
    split at q
    · rename_i h1; cases q; obtain ⟨a, b⟩ := take_drop h1 rfl; exact ⟨a, rfl, by simp [hgt], b⟩
    · split at q
      · rename_i h1; cases q; obtain ⟨a, b⟩ := take_drop h1 rfl; exact ⟨a, rfl, by simp [hgt], b⟩
      · split at q
        · rename_i h1; cases q; obtain ⟨a, b⟩ := take_drop h1 rfl; exact ⟨a, rfl, by simp [hgt], b⟩
        · simp only [] at q
          split at q
          · rename_i h1
            obtain ⟨d1, l1⟩ := take1_drop h1
            split at q
            · rename_i g e1 q1
              obtain ⟨a1, a2, a3, a4⟩ := ih _ _ _ q1
              split at q
              · rename_i h2
                cases q
                obtain ⟨d2, l2⟩ := take1_drop h2
                refine ⟨?_, ?_, ?_, ?_⟩
                · rw [d1, a1, d2]; simp [txt]
                · rw [a2]; simp [txt]; omega
                · simp only [hgt]; omega
                · omega
              · cases q
            · cases q
          · split at q
            · rename_i h1
              obtain ⟨d1, l1⟩ := take1_drop h1
              split at q
              · rename_i g e1 q1
                obtain ⟨a1, a2, a3, a4⟩ := ih _ _ _ q1
                split at q
                · rename_i h2
                  obtain ⟨d2, l2⟩ := take1_drop h2
                  split at q
                  · rename_i g2 e2 q2
                    obtain ⟨b1, b2, b3, b4⟩ := ih _ _ _ q2
                    split at q
                    · rename_i h3
                      cases q
                      obtain ⟨d3, l3⟩ := take1_drop h3
                      refine ⟨?_, ?_, ?_, ?_⟩
                      · rw [d1, a1, d2, b1, d3]; simp [txt]
                      · rw [b2, a2]; simp [txt]; omega
                      · simp only [hgt]; omega
                      · omega
                    · cases q
                  · cases q
                · cases q
              · cases q
            · cases q
theorem rd_sound {t : Txt} {f : Form} (h : rd t = some f) : txt f = t ∧ hgt f ≤ 5 := by
  unfold rd at h
  split at h
  · rename_i g e q
    split at h
    · rename_i he
      cases h
      obtain ⟨a1, a2, a3, a4⟩ := pf_sound t 5 0 _ _ q
      rw [he, List.drop_length, List.append_nil] at a1
      exact ⟨a1.symm, a3⟩
    · cases h
  · cases h
theorem pf_complete (t : Txt) (f : Form) : ∀ (h p : Nat) (R : Txt), hgt f ≤ h → t.drop p = txt f ++ R → pf t h p = some (f, p + (txt f).length) := by
  have dr : ∀ {p n : Nat} {w R : Txt}, t.drop p = w ++ R → w.length = n → t.drop (p + n) = R := fun {p n w R} e hw => by rw [← List.drop_drop, e, ← hw, List.drop_left]
  induction f with
  | any => intro h p R hh e; unfold pf; rw [e]; rfl
  | num => intro h p R hh e; unfold pf; rw [e]; rfl
  | text => intro h p R hh e; unfold pf; rw [e]; rfl
  | box a iha =>
    intro h p R hh e
    simp only [hgt] at hh
    obtain ⟨h, rfl⟩ : ∃ j, h = j + 1 := ⟨h - 1, by omega⟩
    have e1 : t.drop (p + 1) = txt a ++ (93 :: R) := dr (w := [91]) (by rw [e]; simp [txt]) rfl
    have q := iha h (p + 1) _ (by omega) e1
    have e2 : t.drop (p + 1 + (txt a).length) = 93 :: R := dr e1 rfl
    unfold pf
    rw [e]
    simp only [q, e2]
    simp [txt]
    omega
  | deed a b iha ihb =>
    intro h p R hh e
    simp only [hgt] at hh
    obtain ⟨h, rfl⟩ : ∃ j, h = j + 1 := ⟨h - 1, by omega⟩
    have e1 : t.drop (p + 1) = txt a ++ (62 :: (txt b ++ (41 :: R))) := dr (w := [40]) (by rw [e]; simp [txt]) rfl
    have q := iha h (p + 1) _ (by omega) e1
    have e2 : t.drop (p + 1 + (txt a).length) = 62 :: (txt b ++ (41 :: R)) := dr e1 rfl
    have e3 : t.drop (p + 1 + (txt a).length + 1) = txt b ++ (41 :: R) := dr (w := [62]) (by rw [e2]; simp) rfl
    have q2 := ihb h (p + 1 + (txt a).length + 1) _ (by omega) e3
    have e4 : t.drop (p + 1 + (txt a).length + 1 + (txt b).length) = 41 :: R := dr e3 rfl
    unfold pf
    rw [e]
    simp only [q, e2, q2, e4]
    simp [txt]
    omega
theorem rd_txt (f : Form) (h : hgt f ≤ 5) : rd (txt f) = some f := by
  have q := pf_complete (txt f) f 5 0 [] h (by simp)
  unfold rd
  rw [q]
  simp
end Ev


set_option Elab.async false
set_option linter.all false
set_option autoImplicit false
set_option maxRecDepth 100000
set_option maxHeartbeats 4000000
namespace Ev
open PySem
open Form
theorem law_read_abs (T : Tb) [Fn T 188 fd_188] (t : Txt) (hl : t.length ≤ 16777216) : ∀ (h p k : Nat) (S : Sto), h < k → callT T k 188 [.str t, .int p, .int h] S = .ok (match pf t h p with | some (f, e) => .tup [enc f, .int (e : Nat)] | none => .non) S := by
  intro h
  induction h with
  | zero =>
    intro p k S hk
    obtain ⟨k, rfl⟩ : ∃ j, k = j + 1 := ⟨k - 1, by omega⟩
    rw [call_step]
    have c3 := cut_abs3 t p
    have c4 := cut_abs4 t p
    have c1 := cut_abs1 t p
    unfold pf
    by_cases h1 : (t.drop p).take 3 = [97,110,121]
    · rw [if_pos h1]; rw [h1] at c3
      simp only []
      rw [show ((p + 3 : Nat) : Int) = (p : Int) + 3 by omega]
      generalize (p : Int) = pi at *
      simp (decide := true) [runD, enc, sSeq, sIf, sRet, sNx, sAsg, sEx, sRai, ↓mb, Res.bind, mp, M.of, mT, xIsi, mBor, mVar, isTy, mTruth, truth, mOr, mAnd, mIte, mNot, xCmp, cop, eqo_nn, eqo_nb, eqo_ni, eqo_ns, eqo_nt, eqo_nl, eqo_nd, eqo_bn, eqo_bb, eqo_bi, eqo_bs, eqo_bt, eqo_bl, eqo_bd, eqo_in, eqo_ib, eqo_ii, eqo_is, eqo_it, eqo_il, eqo_id, eqo_sn, eqo_sb, eqo_si, eqo_ss, eqo_st, eqo_sl, eqo_sd, eqo_tn, eqo_tb, eqo_ti, eqo_ts, eqo_tt, eqo_tl, eqo_td, eqo_ln, eqo_lb, eqo_li, eqo_ls, eqo_lt, eqo_ll, eqo_ld, eqo_dn, eqo_db, eqo_di, eqo_ds, eqo_dt, eqo_dl, eqo_dd, inOk, D.flat, xTup, aNil, aCons, mSet, plain_str, plain_tup, plain_int, plain_bl, plains_nil, plains_cons, eqb_str, eqb_int, eqb_bl, eqb_tup, eqbs_nil, eqbs_cn, eqbs_nc, eqbs_cc, eqb_nn, eqb_nb, eqb_ni, eqb_ns, eqb_nt, eqb_nl, eqb_nd, eqb_bn, eqb_bi, eqb_bs, eqb_bt, eqb_b_l, eqb_bd, eqb_in, eqb_ib, eqb_is, eqb_it, eqb_il, eqb_id, eqb_sn, eqb_sb, eqb_si, eqb_sl, eqb_sd, eqb_tn, eqb_tb, eqb_ti, eqb_tl, eqb_td, eqb_ln, eqb_lb, eqb_li, eqb_ls, eqb_lt, eqb_ll, eqb_ld, eqb_dn, eqb_db, eqb_di, eqb_ds, eqb_dt, eqb_dl, eqb_dd, plain_non, plain_lst, plain_dic, eqb_st, eqb_ts, xLen, bip, xIdx, mIdx, index, mItems, mList, xCall, pp_call, xBin, bop_ai, bop_as, bop_at, bop_al, bop_si, bop_mi, bop_ml, bop_mt, bop_ms, bop_mo, bop_fd, bop_pw, SZ, mSlc, mPart, slice, gUnp, gCon, gEnd, mLst, M.bad, mChn, sFor, loopM, xBi, xFz, fLst, mCalk, srcOf, isn_n, isn_b, isn_i, isn_s, isn_t, isn_l, isn_d, isn_r, isn_enc, b_188, c3, hl]
    · rw [if_neg h1]
      by_cases h2 : (t.drop p).take 3 = [110,117,109]
      · rw [if_pos h2]; rw [h2] at c3
        simp only []
        rw [show ((p + 3 : Nat) : Int) = (p : Int) + 3 by omega]
        generalize (p : Int) = pi at *
        simp (decide := true) [runD, enc, sSeq, sIf, sRet, sNx, sAsg, sEx, sRai, ↓mb, Res.bind, mp, M.of, mT, xIsi, mBor, mVar, isTy, mTruth, truth, mOr, mAnd, mIte, mNot, xCmp, cop, eqo_nn, eqo_nb, eqo_ni, eqo_ns, eqo_nt, eqo_nl, eqo_nd, eqo_bn, eqo_bb, eqo_bi, eqo_bs, eqo_bt, eqo_bl, eqo_bd, eqo_in, eqo_ib, eqo_ii, eqo_is, eqo_it, eqo_il, eqo_id, eqo_sn, eqo_sb, eqo_si, eqo_ss, eqo_st, eqo_sl, eqo_sd, eqo_tn, eqo_tb, eqo_ti, eqo_ts, eqo_tt, eqo_tl, eqo_td, eqo_ln, eqo_lb, eqo_li, eqo_ls, eqo_lt, eqo_ll, eqo_ld, eqo_dn, eqo_db, eqo_di, eqo_ds, eqo_dt, eqo_dl, eqo_dd, inOk, D.flat, xTup, aNil, aCons, mSet, plain_str, plain_tup, plain_int, plain_bl, plains_nil, plains_cons, eqb_str, eqb_int, eqb_bl, eqb_tup, eqbs_nil, eqbs_cn, eqbs_nc, eqbs_cc, eqb_nn, eqb_nb, eqb_ni, eqb_ns, eqb_nt, eqb_nl, eqb_nd, eqb_bn, eqb_bi, eqb_bs, eqb_bt, eqb_b_l, eqb_bd, eqb_in, eqb_ib, eqb_is, eqb_it, eqb_il, eqb_id, eqb_sn, eqb_sb, eqb_si, eqb_sl, eqb_sd, eqb_tn, eqb_tb, eqb_ti, eqb_tl, eqb_td, eqb_ln, eqb_lb, eqb_li, eqb_ls, eqb_lt, eqb_ll, eqb_ld, eqb_dn, eqb_db, eqb_di, eqb_ds, eqb_dt, eqb_dl, eqb_dd, plain_non, plain_lst, plain_dic, eqb_st, eqb_ts, xLen, bip, xIdx, mIdx, index, mItems, mList, xCall, pp_call, xBin, bop_ai, bop_as, bop_at, bop_al, bop_si, bop_mi, bop_ml, bop_mt, bop_ms, bop_mo, bop_fd, bop_pw, SZ, mSlc, mPart, slice, gUnp, gCon, gEnd, mLst, M.bad, mChn, sFor, loopM, xBi, xFz, fLst, mCalk, srcOf, isn_n, isn_b, isn_i, isn_s, isn_t, isn_l, isn_d, isn_r, isn_enc, b_188, c3, hl]
      · rw [if_neg h2]
        generalize (t.drop p).take 3 = w3 at *
        by_cases h3 : (t.drop p).take 4 = [116,101,120,116]
        · rw [if_pos h3]; rw [h3] at c4
          simp only []
          rw [show ((p + 4 : Nat) : Int) = (p : Int) + 4 by omega]
          generalize (p : Int) = pi at *
          simp (decide := true) [runD, enc, sSeq, sIf, sRet, sNx, sAsg, sEx, sRai, ↓mb, Res.bind, mp, M.of, mT, xIsi, mBor, mVar, isTy, mTruth, truth, mOr, mAnd, mIte, mNot, xCmp, cop, eqo_nn, eqo_nb, eqo_ni, eqo_ns, eqo_nt, eqo_nl, eqo_nd, eqo_bn, eqo_bb, eqo_bi, eqo_bs, eqo_bt, eqo_bl, eqo_bd, eqo_in, eqo_ib, eqo_ii, eqo_is, eqo_it, eqo_il, eqo_id, eqo_sn, eqo_sb, eqo_si, eqo_ss, eqo_st, eqo_sl, eqo_sd, eqo_tn, eqo_tb, eqo_ti, eqo_ts, eqo_tt, eqo_tl, eqo_td, eqo_ln, eqo_lb, eqo_li, eqo_ls, eqo_lt, eqo_ll, eqo_ld, eqo_dn, eqo_db, eqo_di, eqo_ds, eqo_dt, eqo_dl, eqo_dd, inOk, D.flat, xTup, aNil, aCons, mSet, plain_str, plain_tup, plain_int, plain_bl, plains_nil, plains_cons, eqb_str, eqb_int, eqb_bl, eqb_tup, eqbs_nil, eqbs_cn, eqbs_nc, eqbs_cc, eqb_nn, eqb_nb, eqb_ni, eqb_ns, eqb_nt, eqb_nl, eqb_nd, eqb_bn, eqb_bi, eqb_bs, eqb_bt, eqb_b_l, eqb_bd, eqb_in, eqb_ib, eqb_is, eqb_it, eqb_il, eqb_id, eqb_sn, eqb_sb, eqb_si, eqb_sl, eqb_sd, eqb_tn, eqb_tb, eqb_ti, eqb_tl, eqb_td, eqb_ln, eqb_lb, eqb_li, eqb_ls, eqb_lt, eqb_ll, eqb_ld, eqb_dn, eqb_db, eqb_di, eqb_ds, eqb_dt, eqb_dl, eqb_dd, plain_non, plain_lst, plain_dic, eqb_st, eqb_ts, xLen, bip, xIdx, mIdx, index, mItems, mList, xCall, pp_call, xBin, bop_ai, bop_as, bop_at, bop_al, bop_si, bop_mi, bop_ml, bop_mt, bop_ms, bop_mo, bop_fd, bop_pw, SZ, mSlc, mPart, slice, gUnp, gCon, gEnd, mLst, M.bad, mChn, sFor, loopM, xBi, xFz, fLst, mCalk, srcOf, isn_n, isn_b, isn_i, isn_s, isn_t, isn_l, isn_d, isn_r, isn_enc, b_188, c3, c4, h1, h2, hl]
        · rw [if_neg h3]
          generalize (t.drop p).take 4 = w4 at *
          generalize (p : Int) = pi at *
          simp (decide := true) [runD, enc, sSeq, sIf, sRet, sNx, sAsg, sEx, sRai, ↓mb, Res.bind, mp, M.of, mT, xIsi, mBor, mVar, isTy, mTruth, truth, mOr, mAnd, mIte, mNot, xCmp, cop, eqo_nn, eqo_nb, eqo_ni, eqo_ns, eqo_nt, eqo_nl, eqo_nd, eqo_bn, eqo_bb, eqo_bi, eqo_bs, eqo_bt, eqo_bl, eqo_bd, eqo_in, eqo_ib, eqo_ii, eqo_is, eqo_it, eqo_il, eqo_id, eqo_sn, eqo_sb, eqo_si, eqo_ss, eqo_st, eqo_sl, eqo_sd, eqo_tn, eqo_tb, eqo_ti, eqo_ts, eqo_tt, eqo_tl, eqo_td, eqo_ln, eqo_lb, eqo_li, eqo_ls, eqo_lt, eqo_ll, eqo_ld, eqo_dn, eqo_db, eqo_di, eqo_ds, eqo_dt, eqo_dl, eqo_dd, inOk, D.flat, xTup, aNil, aCons, mSet, plain_str, plain_tup, plain_int, plain_bl, plains_nil, plains_cons, eqb_str, eqb_int, eqb_bl, eqb_tup, eqbs_nil, eqbs_cn, eqbs_nc, eqbs_cc, eqb_nn, eqb_nb, eqb_ni, eqb_ns, eqb_nt, eqb_nl, eqb_nd, eqb_bn, eqb_bi, eqb_bs, eqb_bt, eqb_b_l, eqb_bd, eqb_in, eqb_ib, eqb_is, eqb_it, eqb_il, eqb_id, eqb_sn, eqb_sb, eqb_si, eqb_sl, eqb_sd, eqb_tn, eqb_tb, eqb_ti, eqb_tl, eqb_td, eqb_ln, eqb_lb, eqb_li, eqb_ls, eqb_lt, eqb_ll, eqb_ld, eqb_dn, eqb_db, eqb_di, eqb_ds, eqb_dt, eqb_dl, eqb_dd, plain_non, plain_lst, plain_dic, eqb_st, eqb_ts, xLen, bip, xIdx, mIdx, index, mItems, mList, xCall, pp_call, xBin, bop_ai, bop_as, bop_at, bop_al, bop_si, bop_mi, bop_ml, bop_mt, bop_ms, bop_mo, bop_fd, bop_pw, SZ, mSlc, mPart, slice, gUnp, gCon, gEnd, mLst, M.bad, mChn, sFor, loopM, xBi, xFz, fLst, mCalk, srcOf, isn_n, isn_b, isn_i, isn_s, isn_t, isn_l, isn_d, isn_r, isn_enc, b_188, c3, c4, h1, h2, h3, hl]
  | succ h ih =>
    intro p k S hk
    obtain ⟨k, rfl⟩ : ∃ j, k = j + 1 := ⟨k - 1, by omega⟩
    rw [call_step]
    have c3 := cut_abs3 t p
    have c4 := cut_abs4 t p
    have c1 := cut_abs1 t p
    have hz : ¬ ((h : Int) + 1 = 0) := by omega
    have hh : (h : Int) + 1 - 1 = (h : Int) := by omega
    unfold pf
    by_cases h1 : (t.drop p).take 3 = [97,110,121]
    · rw [if_pos h1]; rw [h1] at c3
      simp only []
      rw [show ((p + 3 : Nat) : Int) = (p : Int) + 3 by omega]
      generalize (p : Int) = pi at *
      simp (decide := true) [runD, enc, sSeq, sIf, sRet, sNx, sAsg, sEx, sRai, ↓mb, Res.bind, mp, M.of, mT, xIsi, mBor, mVar, isTy, mTruth, truth, mOr, mAnd, mIte, mNot, xCmp, cop, eqo_nn, eqo_nb, eqo_ni, eqo_ns, eqo_nt, eqo_nl, eqo_nd, eqo_bn, eqo_bb, eqo_bi, eqo_bs, eqo_bt, eqo_bl, eqo_bd, eqo_in, eqo_ib, eqo_ii, eqo_is, eqo_it, eqo_il, eqo_id, eqo_sn, eqo_sb, eqo_si, eqo_ss, eqo_st, eqo_sl, eqo_sd, eqo_tn, eqo_tb, eqo_ti, eqo_ts, eqo_tt, eqo_tl, eqo_td, eqo_ln, eqo_lb, eqo_li, eqo_ls, eqo_lt, eqo_ll, eqo_ld, eqo_dn, eqo_db, eqo_di, eqo_ds, eqo_dt, eqo_dl, eqo_dd, inOk, D.flat, xTup, aNil, aCons, mSet, plain_str, plain_tup, plain_int, plain_bl, plains_nil, plains_cons, eqb_str, eqb_int, eqb_bl, eqb_tup, eqbs_nil, eqbs_cn, eqbs_nc, eqbs_cc, eqb_nn, eqb_nb, eqb_ni, eqb_ns, eqb_nt, eqb_nl, eqb_nd, eqb_bn, eqb_bi, eqb_bs, eqb_bt, eqb_b_l, eqb_bd, eqb_in, eqb_ib, eqb_is, eqb_it, eqb_il, eqb_id, eqb_sn, eqb_sb, eqb_si, eqb_sl, eqb_sd, eqb_tn, eqb_tb, eqb_ti, eqb_tl, eqb_td, eqb_ln, eqb_lb, eqb_li, eqb_ls, eqb_lt, eqb_ll, eqb_ld, eqb_dn, eqb_db, eqb_di, eqb_ds, eqb_dt, eqb_dl, eqb_dd, plain_non, plain_lst, plain_dic, eqb_st, eqb_ts, xLen, bip, xIdx, mIdx, index, mItems, mList, xCall, pp_call, xBin, bop_ai, bop_as, bop_at, bop_al, bop_si, bop_mi, bop_ml, bop_mt, bop_ms, bop_mo, bop_fd, bop_pw, SZ, mSlc, mPart, slice, gUnp, gCon, gEnd, mLst, M.bad, mChn, sFor, loopM, xBi, xFz, fLst, mCalk, srcOf, isn_n, isn_b, isn_i, isn_s, isn_t, isn_l, isn_d, isn_r, isn_enc, b_188, c3, hl]
    · rw [if_neg h1]
      by_cases h2 : (t.drop p).take 3 = [110,117,109]
      · rw [if_pos h2]; rw [h2] at c3
        simp only []
        rw [show ((p + 3 : Nat) : Int) = (p : Int) + 3 by omega]
        generalize (p : Int) = pi at *
        simp (decide := true) [runD, enc, sSeq, sIf, sRet, sNx, sAsg, sEx, sRai, ↓mb, Res.bind, mp, M.of, mT, xIsi, mBor, mVar, isTy, mTruth, truth, mOr, mAnd, mIte, mNot, xCmp, cop, eqo_nn, eqo_nb, eqo_ni, eqo_ns, eqo_nt, eqo_nl, eqo_nd, eqo_bn, eqo_bb, eqo_bi, eqo_bs, eqo_bt, eqo_bl, eqo_bd, eqo_in, eqo_ib, eqo_ii, eqo_is, eqo_it, eqo_il, eqo_id, eqo_sn, eqo_sb, eqo_si, eqo_ss, eqo_st, eqo_sl, eqo_sd, eqo_tn, eqo_tb, eqo_ti, eqo_ts, eqo_tt, eqo_tl, eqo_td, eqo_ln, eqo_lb, eqo_li, eqo_ls, eqo_lt, eqo_ll, eqo_ld, eqo_dn, eqo_db, eqo_di, eqo_ds, eqo_dt, eqo_dl, eqo_dd, inOk, D.flat, xTup, aNil, aCons, mSet, plain_str, plain_tup, plain_int, plain_bl, plains_nil, plains_cons, eqb_str, eqb_int, eqb_bl, eqb_tup, eqbs_nil, eqbs_cn, eqbs_nc, eqbs_cc, eqb_nn, eqb_nb, eqb_ni, eqb_ns, eqb_nt, eqb_nl, eqb_nd, eqb_bn, eqb_bi, eqb_bs, eqb_bt, eqb_b_l, eqb_bd, eqb_in, eqb_ib, eqb_is, eqb_it, eqb_il, eqb_id, eqb_sn, eqb_sb, eqb_si, eqb_sl, eqb_sd, eqb_tn, eqb_tb, eqb_ti, eqb_tl, eqb_td, eqb_ln, eqb_lb, eqb_li, eqb_ls, eqb_lt, eqb_ll, eqb_ld, eqb_dn, eqb_db, eqb_di, eqb_ds, eqb_dt, eqb_dl, eqb_dd, plain_non, plain_lst, plain_dic, eqb_st, eqb_ts, xLen, bip, xIdx, mIdx, index, mItems, mList, xCall, pp_call, xBin, bop_ai, bop_as, bop_at, bop_al, bop_si, bop_mi, bop_ml, bop_mt, bop_ms, bop_mo, bop_fd, bop_pw, SZ, mSlc, mPart, slice, gUnp, gCon, gEnd, mLst, M.bad, mChn, sFor, loopM, xBi, xFz, fLst, mCalk, srcOf, isn_n, isn_b, isn_i, isn_s, isn_t, isn_l, isn_d, isn_r, isn_enc, b_188, c3, hl]
      · rw [if_neg h2]
        generalize (t.drop p).take 3 = w3 at *
        by_cases h3 : (t.drop p).take 4 = [116,101,120,116]
        · rw [if_pos h3]; rw [h3] at c4
          simp only []
          rw [show ((p + 4 : Nat) : Int) = (p : Int) + 4 by omega]
          generalize (p : Int) = pi at *
          simp (decide := true) [runD, enc, sSeq, sIf, sRet, sNx, sAsg, sEx, sRai, ↓mb, Res.bind, mp, M.of, mT, xIsi, mBor, mVar, isTy, mTruth, truth, mOr, mAnd, mIte, mNot, xCmp, cop, eqo_nn, eqo_nb, eqo_ni, eqo_ns, eqo_nt, eqo_nl, eqo_nd, eqo_bn, eqo_bb, eqo_bi, eqo_bs, eqo_bt, eqo_bl, eqo_bd, eqo_in, eqo_ib, eqo_ii, eqo_is, eqo_it, eqo_il, eqo_id, eqo_sn, eqo_sb, eqo_si, eqo_ss, eqo_st, eqo_sl, eqo_sd, eqo_tn, eqo_tb, eqo_ti, eqo_ts, eqo_tt, eqo_tl, eqo_td, eqo_ln, eqo_lb, eqo_li, eqo_ls, eqo_lt, eqo_ll, eqo_ld, eqo_dn, eqo_db, eqo_di, eqo_ds, eqo_dt, eqo_dl, eqo_dd, inOk, D.flat, xTup, aNil, aCons, mSet, plain_str, plain_tup, plain_int, plain_bl, plains_nil, plains_cons, eqb_str, eqb_int, eqb_bl, eqb_tup, eqbs_nil, eqbs_cn, eqbs_nc, eqbs_cc, eqb_nn, eqb_nb, eqb_ni, eqb_ns, eqb_nt, eqb_nl, eqb_nd, eqb_bn, eqb_bi, eqb_bs, eqb_bt, eqb_b_l, eqb_bd, eqb_in, eqb_ib, eqb_is, eqb_it, eqb_il, eqb_id, eqb_sn, eqb_sb, eqb_si, eqb_sl, eqb_sd, eqb_tn, eqb_tb, eqb_ti, eqb_tl, eqb_td, eqb_ln, eqb_lb, eqb_li, eqb_ls, eqb_lt, eqb_ll, eqb_ld, eqb_dn, eqb_db, eqb_di, eqb_ds, eqb_dt, eqb_dl, eqb_dd, plain_non, plain_lst, plain_dic, eqb_st, eqb_ts, xLen, bip, xIdx, mIdx, index, mItems, mList, xCall, pp_call, xBin, bop_ai, bop_as, bop_at, bop_al, bop_si, bop_mi, bop_ml, bop_mt, bop_ms, bop_mo, bop_fd, bop_pw, SZ, mSlc, mPart, slice, gUnp, gCon, gEnd, mLst, M.bad, mChn, sFor, loopM, xBi, xFz, fLst, mCalk, srcOf, isn_n, isn_b, isn_i, isn_s, isn_t, isn_l, isn_d, isn_r, isn_enc, b_188, c3, c4, h1, h2, hl]
        · rw [if_neg h3]
          generalize (t.drop p).take 4 = w4 at *
          have ea := ih (p + 1) k S (by omega)
          rw [show ((p + 1 : Nat) : Int) = (p : Int) + 1 by omega] at ea
          by_cases h4 : (t.drop p).take 1 = [91]
          · simp only [h4, if_true]
            rw [h4] at c1
            cases q : pf t h (p + 1) with
            | none =>
              rw [q] at ea
              generalize (p : Int) = pi at *
              simp (decide := true) [runD, enc, sSeq, sIf, sRet, sNx, sAsg, sEx, sRai, ↓mb, Res.bind, mp, M.of, mT, xIsi, mBor, mVar, isTy, mTruth, truth, mOr, mAnd, mIte, mNot, xCmp, cop, eqo_nn, eqo_nb, eqo_ni, eqo_ns, eqo_nt, eqo_nl, eqo_nd, eqo_bn, eqo_bb, eqo_bi, eqo_bs, eqo_bt, eqo_bl, eqo_bd, eqo_in, eqo_ib, eqo_ii, eqo_is, eqo_it, eqo_il, eqo_id, eqo_sn, eqo_sb, eqo_si, eqo_ss, eqo_st, eqo_sl, eqo_sd, eqo_tn, eqo_tb, eqo_ti, eqo_ts, eqo_tt, eqo_tl, eqo_td, eqo_ln, eqo_lb, eqo_li, eqo_ls, eqo_lt, eqo_ll, eqo_ld, eqo_dn, eqo_db, eqo_di, eqo_ds, eqo_dt, eqo_dl, eqo_dd, inOk, D.flat, xTup, aNil, aCons, mSet, plain_str, plain_tup, plain_int, plain_bl, plains_nil, plains_cons, eqb_str, eqb_int, eqb_bl, eqb_tup, eqbs_nil, eqbs_cn, eqbs_nc, eqbs_cc, eqb_nn, eqb_nb, eqb_ni, eqb_ns, eqb_nt, eqb_nl, eqb_nd, eqb_bn, eqb_bi, eqb_bs, eqb_bt, eqb_b_l, eqb_bd, eqb_in, eqb_ib, eqb_is, eqb_it, eqb_il, eqb_id, eqb_sn, eqb_sb, eqb_si, eqb_sl, eqb_sd, eqb_tn, eqb_tb, eqb_ti, eqb_tl, eqb_td, eqb_ln, eqb_lb, eqb_li, eqb_ls, eqb_lt, eqb_ll, eqb_ld, eqb_dn, eqb_db, eqb_di, eqb_ds, eqb_dt, eqb_dl, eqb_dd, plain_non, plain_lst, plain_dic, eqb_st, eqb_ts, xLen, bip, xIdx, mIdx, index, mItems, mList, xCall, pp_call, xBin, bop_ai, bop_as, bop_at, bop_al, bop_si, bop_mi, bop_ml, bop_mt, bop_ms, bop_mo, bop_fd, bop_pw, SZ, mSlc, mPart, slice, gUnp, gCon, gEnd, mLst, M.bad, mChn, sFor, loopM, xBi, xFz, fLst, mCalk, srcOf, isn_n, isn_b, isn_i, isn_s, isn_t, isn_l, isn_d, isn_r, isn_enc, gStar, dget, atI, fComp, noX, Res.noX, mWipe, cmpR, wipeE, blsOf, intsOf, txtsOf, mZs, zsOf, zipD, mZip, zipOf, mRng1, mRng2, rngD, mCount, mIndexL, mMt, tyIs, mtp, findD, sTryAs, mIsE, noEx, sPar, sPar3, xRev, revD, sTry, reps, b_188, c3, c4, c1, h1, h2, h3, hl, hz, hh, ea]
            | some fe =>
              obtain ⟨f, e⟩ := fe
              rw [q] at ea
              have c1e := cut_abs1 t e
              simp only [] at ea ⊢
              by_cases h5 : (t.drop e).take 1 = [93]
              · rw [h5] at c1e
                simp only [h5, if_true]
                rw [show ((e + 1 : Nat) : Int) = (e : Int) + 1 by omega]
                generalize (p : Int) = pi at *
                simp (decide := true) [runD, enc, sSeq, sIf, sRet, sNx, sAsg, sEx, sRai, ↓mb, Res.bind, mp, M.of, mT, xIsi, mBor, mVar, isTy, mTruth, truth, mOr, mAnd, mIte, mNot, xCmp, cop, eqo_nn, eqo_nb, eqo_ni, eqo_ns, eqo_nt, eqo_nl, eqo_nd, eqo_bn, eqo_bb, eqo_bi, eqo_bs, eqo_bt, eqo_bl, eqo_bd, eqo_in, eqo_ib, eqo_ii, eqo_is, eqo_it, eqo_il, eqo_id, eqo_sn, eqo_sb, eqo_si, eqo_ss, eqo_st, eqo_sl, eqo_sd, eqo_tn, eqo_tb, eqo_ti, eqo_ts, eqo_tt, eqo_tl, eqo_td, eqo_ln, eqo_lb, eqo_li, eqo_ls, eqo_lt, eqo_ll, eqo_ld, eqo_dn, eqo_db, eqo_di, eqo_ds, eqo_dt, eqo_dl, eqo_dd, inOk, D.flat, xTup, aNil, aCons, mSet, plain_str, plain_tup, plain_int, plain_bl, plains_nil, plains_cons, eqb_str, eqb_int, eqb_bl, eqb_tup, eqbs_nil, eqbs_cn, eqbs_nc, eqbs_cc, eqb_nn, eqb_nb, eqb_ni, eqb_ns, eqb_nt, eqb_nl, eqb_nd, eqb_bn, eqb_bi, eqb_bs, eqb_bt, eqb_b_l, eqb_bd, eqb_in, eqb_ib, eqb_is, eqb_it, eqb_il, eqb_id, eqb_sn, eqb_sb, eqb_si, eqb_sl, eqb_sd, eqb_tn, eqb_tb, eqb_ti, eqb_tl, eqb_td, eqb_ln, eqb_lb, eqb_li, eqb_ls, eqb_lt, eqb_ll, eqb_ld, eqb_dn, eqb_db, eqb_di, eqb_ds, eqb_dt, eqb_dl, eqb_dd, plain_non, plain_lst, plain_dic, eqb_st, eqb_ts, xLen, bip, xIdx, mIdx, index, mItems, mList, xCall, pp_call, xBin, bop_ai, bop_as, bop_at, bop_al, bop_si, bop_mi, bop_ml, bop_mt, bop_ms, bop_mo, bop_fd, bop_pw, SZ, mSlc, mPart, slice, gUnp, gCon, gEnd, mLst, M.bad, mChn, sFor, loopM, xBi, xFz, fLst, mCalk, srcOf, isn_n, isn_b, isn_i, isn_s, isn_t, isn_l, isn_d, isn_r, isn_enc, gStar, dget, atI, fComp, noX, Res.noX, mWipe, cmpR, wipeE, blsOf, intsOf, txtsOf, mZs, zsOf, zipD, mZip, zipOf, mRng1, mRng2, rngD, mCount, mIndexL, mMt, tyIs, mtp, findD, sTryAs, mIsE, noEx, sPar, sPar3, xRev, revD, sTry, reps, b_188, c3, c4, c1, c1e, h1, h2, h3, hl, hz, hh, ea]
              · simp only [h5, if_false]
                generalize (t.drop e).take 1 = we at *
                generalize (p : Int) = pi at *
                simp (decide := true) [runD, enc, sSeq, sIf, sRet, sNx, sAsg, sEx, sRai, ↓mb, Res.bind, mp, M.of, mT, xIsi, mBor, mVar, isTy, mTruth, truth, mOr, mAnd, mIte, mNot, xCmp, cop, eqo_nn, eqo_nb, eqo_ni, eqo_ns, eqo_nt, eqo_nl, eqo_nd, eqo_bn, eqo_bb, eqo_bi, eqo_bs, eqo_bt, eqo_bl, eqo_bd, eqo_in, eqo_ib, eqo_ii, eqo_is, eqo_it, eqo_il, eqo_id, eqo_sn, eqo_sb, eqo_si, eqo_ss, eqo_st, eqo_sl, eqo_sd, eqo_tn, eqo_tb, eqo_ti, eqo_ts, eqo_tt, eqo_tl, eqo_td, eqo_ln, eqo_lb, eqo_li, eqo_ls, eqo_lt, eqo_ll, eqo_ld, eqo_dn, eqo_db, eqo_di, eqo_ds, eqo_dt, eqo_dl, eqo_dd, inOk, D.flat, xTup, aNil, aCons, mSet, plain_str, plain_tup, plain_int, plain_bl, plains_nil, plains_cons, eqb_str, eqb_int, eqb_bl, eqb_tup, eqbs_nil, eqbs_cn, eqbs_nc, eqbs_cc, eqb_nn, eqb_nb, eqb_ni, eqb_ns, eqb_nt, eqb_nl, eqb_nd, eqb_bn, eqb_bi, eqb_bs, eqb_bt, eqb_b_l, eqb_bd, eqb_in, eqb_ib, eqb_is, eqb_it, eqb_il, eqb_id, eqb_sn, eqb_sb, eqb_si, eqb_sl, eqb_sd, eqb_tn, eqb_tb, eqb_ti, eqb_tl, eqb_td, eqb_ln, eqb_lb, eqb_li, eqb_ls, eqb_lt, eqb_ll, eqb_ld, eqb_dn, eqb_db, eqb_di, eqb_ds, eqb_dt, eqb_dl, eqb_dd, plain_non, plain_lst, plain_dic, eqb_st, eqb_ts, xLen, bip, xIdx, mIdx, index, mItems, mList, xCall, pp_call, xBin, bop_ai, bop_as, bop_at, bop_al, bop_si, bop_mi, bop_ml, bop_mt, bop_ms, bop_mo, bop_fd, bop_pw, SZ, mSlc, mPart, slice, gUnp, gCon, gEnd, mLst, M.bad, mChn, sFor, loopM, xBi, xFz, fLst, mCalk, srcOf, isn_n, isn_b, isn_i, isn_s, isn_t, isn_l, isn_d, isn_r, isn_enc, gStar, dget, atI, fComp, noX, Res.noX, mWipe, cmpR, wipeE, blsOf, intsOf, txtsOf, mZs, zsOf, zipD, mZip, zipOf, mRng1, mRng2, rngD, mCount, mIndexL, mMt, tyIs, mtp, findD, sTryAs, mIsE, noEx, sPar, sPar3, xRev, revD, sTry, reps, b_188, c3, c4, c1, c1e, h1, h2, h3, h5, hl, hz, hh, ea]
          · by_cases h4b : (t.drop p).take 1 = [40]
            · simp (decide := true) only [h4b, if_true, if_false]
              rw [h4b] at c1
              cases q : pf t h (p + 1) with
              | none =>
                rw [q] at ea
                generalize (p : Int) = pi at *
                simp (decide := true) [runD, enc, sSeq, sIf, sRet, sNx, sAsg, sEx, sRai, ↓mb, Res.bind, mp, M.of, mT, xIsi, mBor, mVar, isTy, mTruth, truth, mOr, mAnd, mIte, mNot, xCmp, cop, eqo_nn, eqo_nb, eqo_ni, eqo_ns, eqo_nt, eqo_nl, eqo_nd, eqo_bn, eqo_bb, eqo_bi, eqo_bs, eqo_bt, eqo_bl, eqo_bd, eqo_in, eqo_ib, eqo_ii, eqo_is, eqo_it, eqo_il, eqo_id, eqo_sn, eqo_sb, eqo_si, eqo_ss, eqo_st, eqo_sl, eqo_sd, eqo_tn, eqo_tb, eqo_ti, eqo_ts, eqo_tt, eqo_tl, eqo_td, eqo_ln, eqo_lb, eqo_li, eqo_ls, eqo_lt, eqo_ll, eqo_ld, eqo_dn, eqo_db, eqo_di, eqo_ds, eqo_dt, eqo_dl, eqo_dd, inOk, D.flat, xTup, aNil, aCons, mSet, plain_str, plain_tup, plain_int, plain_bl, plains_nil, plains_cons, eqb_str, eqb_int, eqb_bl, eqb_tup, eqbs_nil, eqbs_cn, eqbs_nc, eqbs_cc, eqb_nn, eqb_nb, eqb_ni, eqb_ns, eqb_nt, eqb_nl, eqb_nd, eqb_bn, eqb_bi, eqb_bs, eqb_bt, eqb_b_l, eqb_bd, eqb_in, eqb_ib, eqb_is, eqb_it, eqb_il, eqb_id, eqb_sn, eqb_sb, eqb_si, eqb_sl, eqb_sd, eqb_tn, eqb_tb, eqb_ti, eqb_tl, eqb_td, eqb_ln, eqb_lb, eqb_li, eqb_ls, eqb_lt, eqb_ll, eqb_ld, eqb_dn, eqb_db, eqb_di, eqb_ds, eqb_dt, eqb_dl, eqb_dd, plain_non, plain_lst, plain_dic, eqb_st, eqb_ts, xLen, bip, xIdx, mIdx, index, mItems, mList, xCall, pp_call, xBin, bop_ai, bop_as, bop_at, bop_al, bop_si, bop_mi, bop_ml, bop_mt, bop_ms, bop_mo, bop_fd, bop_pw, SZ, mSlc, mPart, slice, gUnp, gCon, gEnd, mLst, M.bad, mChn, sFor, loopM, xBi, xFz, fLst, mCalk, srcOf, isn_n, isn_b, isn_i, isn_s, isn_t, isn_l, isn_d, isn_r, isn_enc, gStar, dget, atI, fComp, noX, Res.noX, mWipe, cmpR, wipeE, blsOf, intsOf, txtsOf, mZs, zsOf, zipD, mZip, zipOf, mRng1, mRng2, rngD, mCount, mIndexL, mMt, tyIs, mtp, findD, sTryAs, mIsE, noEx, sPar, sPar3, xRev, revD, sTry, reps, b_188, c3, c4, c1, h1, h2, h3, hl, hz, hh, ea]
              | some fe =>
                obtain ⟨f, e⟩ := fe
                rw [q] at ea
                have c1e := cut_abs1 t e
                simp only [] at ea ⊢
                by_cases h5 : (t.drop e).take 1 = [62]
                · rw [h5] at c1e
                  simp only [h5, if_true]
                  have eb := ih (e + 1) k S (by omega)
                  rw [show ((e + 1 : Nat) : Int) = (e : Int) + 1 by omega] at eb
                  cases q2 : pf t h (e + 1) with
                  | none =>
                    rw [q2] at eb
                    generalize (p : Int) = pi at *
                    simp (decide := true) [runD, enc, sSeq, sIf, sRet, sNx, sAsg, sEx, sRai, ↓mb, Res.bind, mp, M.of, mT, xIsi, mBor, mVar, isTy, mTruth, truth, mOr, mAnd, mIte, mNot, xCmp, cop, eqo_nn, eqo_nb, eqo_ni, eqo_ns, eqo_nt, eqo_nl, eqo_nd, eqo_bn, eqo_bb, eqo_bi, eqo_bs, eqo_bt, eqo_bl, eqo_bd, eqo_in, eqo_ib, eqo_ii, eqo_is, eqo_it, eqo_il, eqo_id, eqo_sn, eqo_sb, eqo_si, eqo_ss, eqo_st, eqo_sl, eqo_sd, eqo_tn, eqo_tb, eqo_ti, eqo_ts, eqo_tt, eqo_tl, eqo_td, eqo_ln, eqo_lb, eqo_li, eqo_ls, eqo_lt, eqo_ll, eqo_ld, eqo_dn, eqo_db, eqo_di, eqo_ds, eqo_dt, eqo_dl, eqo_dd, inOk, D.flat, xTup, aNil, aCons, mSet, plain_str, plain_tup, plain_int, plain_bl, plains_nil, plains_cons, eqb_str, eqb_int, eqb_bl, eqb_tup, eqbs_nil, eqbs_cn, eqbs_nc, eqbs_cc, eqb_nn, eqb_nb, eqb_ni, eqb_ns, eqb_nt, eqb_nl, eqb_nd, eqb_bn, eqb_bi, eqb_bs, eqb_bt, eqb_b_l, eqb_bd, eqb_in, eqb_ib, eqb_is, eqb_it, eqb_il, eqb_id, eqb_sn, eqb_sb, eqb_si, eqb_sl, eqb_sd, eqb_tn, eqb_tb, eqb_ti, eqb_tl, eqb_td, eqb_ln, eqb_lb, eqb_li, eqb_ls, eqb_lt, eqb_ll, eqb_ld, eqb_dn, eqb_db, eqb_di, eqb_ds, eqb_dt, eqb_dl, eqb_dd, plain_non, plain_lst, plain_dic, eqb_st, eqb_ts, xLen, bip, xIdx, mIdx, index, mItems, mList, xCall, pp_call, xBin, bop_ai, bop_as, bop_at, bop_al, bop_si, bop_mi, bop_ml, bop_mt, bop_ms, bop_mo, bop_fd, bop_pw, SZ, mSlc, mPart, slice, gUnp, gCon, gEnd, mLst, M.bad, mChn, sFor, loopM, xBi, xFz, fLst, mCalk, srcOf, isn_n, isn_b, isn_i, isn_s, isn_t, isn_l, isn_d, isn_r, isn_enc, gStar, dget, atI, fComp, noX, Res.noX, mWipe, cmpR, wipeE, blsOf, intsOf, txtsOf, mZs, zsOf, zipD, mZip, zipOf, mRng1, mRng2, rngD, mCount, mIndexL, mMt, tyIs, mtp, findD, sTryAs, mIsE, noEx, sPar, sPar3, xRev, revD, sTry, reps, b_188, c3, c4, c1, c1e, h1, h2, h3, hl, hz, hh, ea, eb]
                  | some ge =>
                    obtain ⟨g, e2⟩ := ge
                    rw [q2] at eb
                    have c1e2 := cut_abs1 t e2
                    simp only [] at eb ⊢
                    by_cases h6 : (t.drop e2).take 1 = [41]
                    · rw [h6] at c1e2
                      simp (decide := true) only [h6, if_true]
                      rw [show ((e2 + 1 : Nat) : Int) = (e2 : Int) + 1 by omega]
                      generalize (p : Int) = pi at *
                      simp (decide := true) [runD, enc, sSeq, sIf, sRet, sNx, sAsg, sEx, sRai, ↓mb, Res.bind, mp, M.of, mT, xIsi, mBor, mVar, isTy, mTruth, truth, mOr, mAnd, mIte, mNot, xCmp, cop, eqo_nn, eqo_nb, eqo_ni, eqo_ns, eqo_nt, eqo_nl, eqo_nd, eqo_bn, eqo_bb, eqo_bi, eqo_bs, eqo_bt, eqo_bl, eqo_bd, eqo_in, eqo_ib, eqo_ii, eqo_is, eqo_it, eqo_il, eqo_id, eqo_sn, eqo_sb, eqo_si, eqo_ss, eqo_st, eqo_sl, eqo_sd, eqo_tn, eqo_tb, eqo_ti, eqo_ts, eqo_tt, eqo_tl, eqo_td, eqo_ln, eqo_lb, eqo_li, eqo_ls, eqo_lt, eqo_ll, eqo_ld, eqo_dn, eqo_db, eqo_di, eqo_ds, eqo_dt, eqo_dl, eqo_dd, inOk, D.flat, xTup, aNil, aCons, mSet, plain_str, plain_tup, plain_int, plain_bl, plains_nil, plains_cons, eqb_str, eqb_int, eqb_bl, eqb_tup, eqbs_nil, eqbs_cn, eqbs_nc, eqbs_cc, eqb_nn, eqb_nb, eqb_ni, eqb_ns, eqb_nt, eqb_nl, eqb_nd, eqb_bn, eqb_bi, eqb_bs, eqb_bt, eqb_b_l, eqb_bd, eqb_in, eqb_ib, eqb_is, eqb_it, eqb_il, eqb_id, eqb_sn, eqb_sb, eqb_si, eqb_sl, eqb_sd, eqb_tn, eqb_tb, eqb_ti, eqb_tl, eqb_td, eqb_ln, eqb_lb, eqb_li, eqb_ls, eqb_lt, eqb_ll, eqb_ld, eqb_dn, eqb_db, eqb_di, eqb_ds, eqb_dt, eqb_dl, eqb_dd, plain_non, plain_lst, plain_dic, eqb_st, eqb_ts, xLen, bip, xIdx, mIdx, index, mItems, mList, xCall, pp_call, xBin, bop_ai, bop_as, bop_at, bop_al, bop_si, bop_mi, bop_ml, bop_mt, bop_ms, bop_mo, bop_fd, bop_pw, SZ, mSlc, mPart, slice, gUnp, gCon, gEnd, mLst, M.bad, mChn, sFor, loopM, xBi, xFz, fLst, mCalk, srcOf, isn_n, isn_b, isn_i, isn_s, isn_t, isn_l, isn_d, isn_r, isn_enc, gStar, dget, atI, fComp, noX, Res.noX, mWipe, cmpR, wipeE, blsOf, intsOf, txtsOf, mZs, zsOf, zipD, mZip, zipOf, mRng1, mRng2, rngD, mCount, mIndexL, mMt, tyIs, mtp, findD, sTryAs, mIsE, noEx, sPar, sPar3, xRev, revD, sTry, reps, b_188, c3, c4, c1, c1e, c1e2, h1, h2, h3, hl, hz, hh, ea, eb]
                    · simp only [h6, if_false]
                      generalize (t.drop e2).take 1 = we at *
                      generalize (p : Int) = pi at *
                      simp (decide := true) [runD, enc, sSeq, sIf, sRet, sNx, sAsg, sEx, sRai, ↓mb, Res.bind, mp, M.of, mT, xIsi, mBor, mVar, isTy, mTruth, truth, mOr, mAnd, mIte, mNot, xCmp, cop, eqo_nn, eqo_nb, eqo_ni, eqo_ns, eqo_nt, eqo_nl, eqo_nd, eqo_bn, eqo_bb, eqo_bi, eqo_bs, eqo_bt, eqo_bl, eqo_bd, eqo_in, eqo_ib, eqo_ii, eqo_is, eqo_it, eqo_il, eqo_id, eqo_sn, eqo_sb, eqo_si, eqo_ss, eqo_st, eqo_sl, eqo_sd, eqo_tn, eqo_tb, eqo_ti, eqo_ts, eqo_tt, eqo_tl, eqo_td, eqo_ln, eqo_lb, eqo_li, eqo_ls, eqo_lt, eqo_ll, eqo_ld, eqo_dn, eqo_db, eqo_di, eqo_ds, eqo_dt, eqo_dl, eqo_dd, inOk, D.flat, xTup, aNil, aCons, mSet, plain_str, plain_tup, plain_int, plain_bl, plains_nil, plains_cons, eqb_str, eqb_int, eqb_bl, eqb_tup, eqbs_nil, eqbs_cn, eqbs_nc, eqbs_cc, eqb_nn, eqb_nb, eqb_ni, eqb_ns, eqb_nt, eqb_nl, eqb_nd, eqb_bn, eqb_bi, eqb_bs, eqb_bt, eqb_b_l, eqb_bd, eqb_in, eqb_ib, eqb_is, eqb_it, eqb_il, eqb_id, eqb_sn, eqb_sb, eqb_si, eqb_sl, eqb_sd, eqb_tn, eqb_tb, eqb_ti, eqb_tl, eqb_td, eqb_ln, eqb_lb, eqb_li, eqb_ls, eqb_lt, eqb_ll, eqb_ld, eqb_dn, eqb_db, eqb_di, eqb_ds, eqb_dt, eqb_dl, eqb_dd, plain_non, plain_lst, plain_dic, eqb_st, eqb_ts, xLen, bip, xIdx, mIdx, index, mItems, mList, xCall, pp_call, xBin, bop_ai, bop_as, bop_at, bop_al, bop_si, bop_mi, bop_ml, bop_mt, bop_ms, bop_mo, bop_fd, bop_pw, SZ, mSlc, mPart, slice, gUnp, gCon, gEnd, mLst, M.bad, mChn, sFor, loopM, xBi, xFz, fLst, mCalk, srcOf, isn_n, isn_b, isn_i, isn_s, isn_t, isn_l, isn_d, isn_r, isn_enc, gStar, dget, atI, fComp, noX, Res.noX, mWipe, cmpR, wipeE, blsOf, intsOf, txtsOf, mZs, zsOf, zipD, mZip, zipOf, mRng1, mRng2, rngD, mCount, mIndexL, mMt, tyIs, mtp, findD, sTryAs, mIsE, noEx, sPar, sPar3, xRev, revD, sTry, reps, b_188, c3, c4, c1, c1e, c1e2, h1, h2, h3, h6, hl, hz, hh, ea, eb]
                · simp only [h5, if_false]
                  generalize (t.drop e).take 1 = we at *
                  generalize (p : Int) = pi at *
                  simp (decide := true) [runD, enc, sSeq, sIf, sRet, sNx, sAsg, sEx, sRai, ↓mb, Res.bind, mp, M.of, mT, xIsi, mBor, mVar, isTy, mTruth, truth, mOr, mAnd, mIte, mNot, xCmp, cop, eqo_nn, eqo_nb, eqo_ni, eqo_ns, eqo_nt, eqo_nl, eqo_nd, eqo_bn, eqo_bb, eqo_bi, eqo_bs, eqo_bt, eqo_bl, eqo_bd, eqo_in, eqo_ib, eqo_ii, eqo_is, eqo_it, eqo_il, eqo_id, eqo_sn, eqo_sb, eqo_si, eqo_ss, eqo_st, eqo_sl, eqo_sd, eqo_tn, eqo_tb, eqo_ti, eqo_ts, eqo_tt, eqo_tl, eqo_td, eqo_ln, eqo_lb, eqo_li, eqo_ls, eqo_lt, eqo_ll, eqo_ld, eqo_dn, eqo_db, eqo_di, eqo_ds, eqo_dt, eqo_dl, eqo_dd, inOk, D.flat, xTup, aNil, aCons, mSet, plain_str, plain_tup, plain_int, plain_bl, plains_nil, plains_cons, eqb_str, eqb_int, eqb_bl, eqb_tup, eqbs_nil, eqbs_cn, eqbs_nc, eqbs_cc, eqb_nn, eqb_nb, eqb_ni, eqb_ns, eqb_nt, eqb_nl, eqb_nd, eqb_bn, eqb_bi, eqb_bs, eqb_bt, eqb_b_l, eqb_bd, eqb_in, eqb_ib, eqb_is, eqb_it, eqb_il, eqb_id, eqb_sn, eqb_sb, eqb_si, eqb_sl, eqb_sd, eqb_tn, eqb_tb, eqb_ti, eqb_tl, eqb_td, eqb_ln, eqb_lb, eqb_li, eqb_ls, eqb_lt, eqb_ll, eqb_ld, eqb_dn, eqb_db, eqb_di, eqb_ds, eqb_dt, eqb_dl, eqb_dd, plain_non, plain_lst, plain_dic, eqb_st, eqb_ts, xLen, bip, xIdx, mIdx, index, mItems, mList, xCall, pp_call, xBin, bop_ai, bop_as, bop_at, bop_al, bop_si, bop_mi, bop_ml, bop_mt, bop_ms, bop_mo, bop_fd, bop_pw, SZ, mSlc, mPart, slice, gUnp, gCon, gEnd, mLst, M.bad, mChn, sFor, loopM, xBi, xFz, fLst, mCalk, srcOf, isn_n, isn_b, isn_i, isn_s, isn_t, isn_l, isn_d, isn_r, isn_enc, gStar, dget, atI, fComp, noX, Res.noX, mWipe, cmpR, wipeE, blsOf, intsOf, txtsOf, mZs, zsOf, zipD, mZip, zipOf, mRng1, mRng2, rngD, mCount, mIndexL, mMt, tyIs, mtp, findD, sTryAs, mIsE, noEx, sPar, sPar3, xRev, revD, sTry, reps, b_188, c3, c4, c1, c1e, h1, h2, h3, h5, hl, hz, hh, ea]
            · simp only [h4, h4b, if_false]
              generalize (t.drop p).take 1 = w1 at *
              have g1 : ¬ ([91] : Txt) = w1 := fun z => h4 z.symm
              have g2 : ¬ ([40] : Txt) = w1 := fun z => h4b z.symm
              generalize (p : Int) = pi at *
              simp (decide := true) [runD, enc, sSeq, sIf, sRet, sNx, sAsg, sEx, sRai, ↓mb, Res.bind, mp, M.of, mT, xIsi, mBor, mVar, isTy, mTruth, truth, mOr, mAnd, mIte, mNot, xCmp, cop, eqo_nn, eqo_nb, eqo_ni, eqo_ns, eqo_nt, eqo_nl, eqo_nd, eqo_bn, eqo_bb, eqo_bi, eqo_bs, eqo_bt, eqo_bl, eqo_bd, eqo_in, eqo_ib, eqo_ii, eqo_is, eqo_it, eqo_il, eqo_id, eqo_sn, eqo_sb, eqo_si, eqo_ss, eqo_st, eqo_sl, eqo_sd, eqo_tn, eqo_tb, eqo_ti, eqo_ts, eqo_tt, eqo_tl, eqo_td, eqo_ln, eqo_lb, eqo_li, eqo_ls, eqo_lt, eqo_ll, eqo_ld, eqo_dn, eqo_db, eqo_di, eqo_ds, eqo_dt, eqo_dl, eqo_dd, inOk, D.flat, xTup, aNil, aCons, mSet, plain_str, plain_tup, plain_int, plain_bl, plains_nil, plains_cons, eqb_str, eqb_int, eqb_bl, eqb_tup, eqbs_nil, eqbs_cn, eqbs_nc, eqbs_cc, eqb_nn, eqb_nb, eqb_ni, eqb_ns, eqb_nt, eqb_nl, eqb_nd, eqb_bn, eqb_bi, eqb_bs, eqb_bt, eqb_b_l, eqb_bd, eqb_in, eqb_ib, eqb_is, eqb_it, eqb_il, eqb_id, eqb_sn, eqb_sb, eqb_si, eqb_sl, eqb_sd, eqb_tn, eqb_tb, eqb_ti, eqb_tl, eqb_td, eqb_ln, eqb_lb, eqb_li, eqb_ls, eqb_lt, eqb_ll, eqb_ld, eqb_dn, eqb_db, eqb_di, eqb_ds, eqb_dt, eqb_dl, eqb_dd, plain_non, plain_lst, plain_dic, eqb_st, eqb_ts, xLen, bip, xIdx, mIdx, index, mItems, mList, xCall, pp_call, xBin, bop_ai, bop_as, bop_at, bop_al, bop_si, bop_mi, bop_ml, bop_mt, bop_ms, bop_mo, bop_fd, bop_pw, SZ, mSlc, mPart, slice, gUnp, gCon, gEnd, mLst, M.bad, mChn, sFor, loopM, xBi, xFz, fLst, mCalk, srcOf, isn_n, isn_b, isn_i, isn_s, isn_t, isn_l, isn_d, isn_r, isn_enc, gStar, dget, atI, fComp, noX, Res.noX, mWipe, cmpR, wipeE, blsOf, intsOf, txtsOf, mZs, zsOf, zipD, mZip, zipOf, mRng1, mRng2, rngD, mCount, mIndexL, mMt, tyIs, mtp, findD, sTryAs, mIsE, noEx, sPar, sPar3, xRev, revD, sTry, reps, b_188, c3, c4, c1, h1, h2, h3, h4, h4b, g1, g2, hl, hz, hh]
theorem law_written (T : Tb) [Fn T 141 fd_141] (f : Form) : ∀ (k : Nat) (S : Sto), hgt f < k → hgt f ≤ 50 → (txt f).length ≤ 1000 → callT T k 141 [enc f] S = .ok (.str (txt f)) S := by
  induction f with
  | deed a b iha ihb =>
    intro k S hk h50 hl
    obtain ⟨k, rfl⟩ : ∃ j, k = j + 1 := ⟨k - 1, by omega⟩
    rw [call_step]
    have hp1 := plain_deed 60 a b (by omega)
    simp only [hgt] at hk h50
    simp only [txt, List.length_cons, List.length_append, List.length_nil] at hl
    have ea := iha k S (by omega) (by omega) (by omega)
    have eb := ihb k S (by omega) (by omega) (by omega)
    have l1 : 1 + (txt a).length ≤ 16777216 := by omega
    have l2 : 1 + (txt a).length + 1 ≤ 16777216 := by omega
    have l3 : (txt a).length + 1 + 1 ≤ 16777216 := by omega
    have l4 : (txt a).length + 1 ≤ 16777216 := by omega
    have l5 : (txt a).length + ((txt b).length + 1) ≤ 16777215 := by omega
    have l6 : (txt a).length ≤ 16777215 := by omega
    have l7 : (txt a).length ≤ 16777214 := by omega
    have l8 : (txt a).length + 1 + 1 + (txt b).length ≤ 16777216 := by omega
    have l9 : (txt a).length + 1 + (txt b).length ≤ 16777215 := by omega
    have l10 : (txt a).length + ((txt b).length + 1) + 1 ≤ 16777216 := by omega
    have l11 : (txt a).length + ((txt b).length + 1) ≤ 16777214 := by omega
    simp (decide := true) [runD, enc, sSeq, sIf, sRet, sNx, sAsg, sEx, sRai, ↓mb, Res.bind, mp, M.of, mT, xIsi, mBor, mVar, isTy, mTruth, truth, mOr, mAnd, mIte, mNot, xCmp, cop, eqo_nn, eqo_nb, eqo_ni, eqo_ns, eqo_nt, eqo_nl, eqo_nd, eqo_bn, eqo_bb, eqo_bi, eqo_bs, eqo_bt, eqo_bl, eqo_bd, eqo_in, eqo_ib, eqo_ii, eqo_is, eqo_it, eqo_il, eqo_id, eqo_sn, eqo_sb, eqo_si, eqo_ss, eqo_st, eqo_sl, eqo_sd, eqo_tn, eqo_tb, eqo_ti, eqo_ts, eqo_tt, eqo_tl, eqo_td, eqo_ln, eqo_lb, eqo_li, eqo_ls, eqo_lt, eqo_ll, eqo_ld, eqo_dn, eqo_db, eqo_di, eqo_ds, eqo_dt, eqo_dl, eqo_dd, inOk, D.flat, xTup, aNil, aCons, mSet, plain_str, plain_tup, plain_int, plain_bl, plains_nil, plains_cons, eqb_str, eqb_int, eqb_bl, eqb_tup, eqbs_nil, eqbs_cn, eqbs_nc, eqbs_cc, eqb_nn, eqb_nb, eqb_ni, eqb_ns, eqb_nt, eqb_nl, eqb_nd, eqb_bn, eqb_bi, eqb_bs, eqb_bt, eqb_b_l, eqb_bd, eqb_in, eqb_ib, eqb_is, eqb_it, eqb_il, eqb_id, eqb_sn, eqb_sb, eqb_si, eqb_sl, eqb_sd, eqb_tn, eqb_tb, eqb_ti, eqb_tl, eqb_td, eqb_ln, eqb_lb, eqb_li, eqb_ls, eqb_lt, eqb_ll, eqb_ld, eqb_dn, eqb_db, eqb_di, eqb_ds, eqb_dt, eqb_dl, eqb_dd, plain_non, plain_lst, plain_dic, eqb_st, eqb_ts, xLen, bip, xIdx, mIdx, index, mItems, mList, xCall, pp_call, xBin, bop_ai, bop_as, bop_at, bop_al, bop_si, bop_mi, bop_ml, bop_mt, bop_ms, bop_mo, bop_fd, bop_pw, SZ, mSlc, mPart, slice, gUnp, gCon, gEnd, mLst, M.bad, mChn, sFor, loopM, xBi, xFz, fLst, mCalk, srcOf, isn_n, isn_b, isn_i, isn_s, isn_t, isn_l, isn_d, isn_r, isn_enc, gStar, dget, atI, fComp, noX, Res.noX, mWipe, cmpR, wipeE, blsOf, intsOf, txtsOf, cut, sIx, mZs, zsOf, zipD, mZip, zipOf, mRng1, mRng2, rngD, mCount, mIndexL, mMt, tyIs, mtp, findD, sTryAs, mIsE, noEx, sPar, sPar3, xRev, revD, sTry, reps, b_141, txt, hp1, ea, eb, l1, l2, l3, l4, l5, l6, l7, l8, l9, l10, l11]
  | box a iha =>
    intro k S hk h50 hl
    obtain ⟨k, rfl⟩ : ∃ j, k = j + 1 := ⟨k - 1, by omega⟩
    rw [call_step]
    have hp1 := plain_box 60 a (by omega)
    simp only [hgt] at hk h50
    simp only [txt, List.length_cons, List.length_append, List.length_nil] at hl
    have ea := iha k S (by omega) (by omega) (by omega)
    have l1 : 1 + (txt a).length ≤ 16777216 := by omega
    have l3 : (txt a).length + 1 + 1 ≤ 16777216 := by omega
    have l4 : (txt a).length + 1 ≤ 16777216 := by omega
    have l6 : (txt a).length ≤ 16777215 := by omega
    have l7 : (txt a).length ≤ 16777214 := by omega
    simp (decide := true) [runD, enc, sSeq, sIf, sRet, sNx, sAsg, sEx, sRai, ↓mb, Res.bind, mp, M.of, mT, xIsi, mBor, mVar, isTy, mTruth, truth, mOr, mAnd, mIte, mNot, xCmp, cop, eqo_nn, eqo_nb, eqo_ni, eqo_ns, eqo_nt, eqo_nl, eqo_nd, eqo_bn, eqo_bb, eqo_bi, eqo_bs, eqo_bt, eqo_bl, eqo_bd, eqo_in, eqo_ib, eqo_ii, eqo_is, eqo_it, eqo_il, eqo_id, eqo_sn, eqo_sb, eqo_si, eqo_ss, eqo_st, eqo_sl, eqo_sd, eqo_tn, eqo_tb, eqo_ti, eqo_ts, eqo_tt, eqo_tl, eqo_td, eqo_ln, eqo_lb, eqo_li, eqo_ls, eqo_lt, eqo_ll, eqo_ld, eqo_dn, eqo_db, eqo_di, eqo_ds, eqo_dt, eqo_dl, eqo_dd, inOk, D.flat, xTup, aNil, aCons, mSet, plain_str, plain_tup, plain_int, plain_bl, plains_nil, plains_cons, eqb_str, eqb_int, eqb_bl, eqb_tup, eqbs_nil, eqbs_cn, eqbs_nc, eqbs_cc, eqb_nn, eqb_nb, eqb_ni, eqb_ns, eqb_nt, eqb_nl, eqb_nd, eqb_bn, eqb_bi, eqb_bs, eqb_bt, eqb_b_l, eqb_bd, eqb_in, eqb_ib, eqb_is, eqb_it, eqb_il, eqb_id, eqb_sn, eqb_sb, eqb_si, eqb_sl, eqb_sd, eqb_tn, eqb_tb, eqb_ti, eqb_tl, eqb_td, eqb_ln, eqb_lb, eqb_li, eqb_ls, eqb_lt, eqb_ll, eqb_ld, eqb_dn, eqb_db, eqb_di, eqb_ds, eqb_dt, eqb_dl, eqb_dd, plain_non, plain_lst, plain_dic, eqb_st, eqb_ts, xLen, bip, xIdx, mIdx, index, mItems, mList, xCall, pp_call, xBin, bop_ai, bop_as, bop_at, bop_al, bop_si, bop_mi, bop_ml, bop_mt, bop_ms, bop_mo, bop_fd, bop_pw, SZ, mSlc, mPart, slice, gUnp, gCon, gEnd, mLst, M.bad, mChn, sFor, loopM, xBi, xFz, fLst, mCalk, srcOf, isn_n, isn_b, isn_i, isn_s, isn_t, isn_l, isn_d, isn_r, isn_enc, gStar, dget, atI, fComp, noX, Res.noX, mWipe, cmpR, wipeE, blsOf, intsOf, txtsOf, cut, sIx, mZs, zsOf, zipD, mZip, zipOf, mRng1, mRng2, rngD, mCount, mIndexL, mMt, tyIs, mtp, findD, sTryAs, mIsE, noEx, sPar, sPar3, xRev, revD, sTry, reps, b_141, txt, hp1, ea, l1, l3, l4, l6, l7]
  | _ =>
    intro k S hk h50 hl
    obtain ⟨k, rfl⟩ : ∃ j, k = j + 1 := ⟨k - 1, by omega⟩
    rw [call_step]
    simp (decide := true) [runD, enc, sSeq, sIf, sRet, sNx, sAsg, sEx, sRai, ↓mb, Res.bind, mp, M.of, mT, xIsi, mBor, mVar, isTy, mTruth, truth, mOr, mAnd, mIte, mNot, xCmp, cop, eqo_nn, eqo_nb, eqo_ni, eqo_ns, eqo_nt, eqo_nl, eqo_nd, eqo_bn, eqo_bb, eqo_bi, eqo_bs, eqo_bt, eqo_bl, eqo_bd, eqo_in, eqo_ib, eqo_ii, eqo_is, eqo_it, eqo_il, eqo_id, eqo_sn, eqo_sb, eqo_si, eqo_ss, eqo_st, eqo_sl, eqo_sd, eqo_tn, eqo_tb, eqo_ti, eqo_ts, eqo_tt, eqo_tl, eqo_td, eqo_ln, eqo_lb, eqo_li, eqo_ls, eqo_lt, eqo_ll, eqo_ld, eqo_dn, eqo_db, eqo_di, eqo_ds, eqo_dt, eqo_dl, eqo_dd, inOk, D.flat, xTup, aNil, aCons, mSet, plain_str, plain_tup, plain_int, plain_bl, plains_nil, plains_cons, eqb_str, eqb_int, eqb_bl, eqb_tup, eqbs_nil, eqbs_cn, eqbs_nc, eqbs_cc, eqb_nn, eqb_nb, eqb_ni, eqb_ns, eqb_nt, eqb_nl, eqb_nd, eqb_bn, eqb_bi, eqb_bs, eqb_bt, eqb_b_l, eqb_bd, eqb_in, eqb_ib, eqb_is, eqb_it, eqb_il, eqb_id, eqb_sn, eqb_sb, eqb_si, eqb_sl, eqb_sd, eqb_tn, eqb_tb, eqb_ti, eqb_tl, eqb_td, eqb_ln, eqb_lb, eqb_li, eqb_ls, eqb_lt, eqb_ll, eqb_ld, eqb_dn, eqb_db, eqb_di, eqb_ds, eqb_dt, eqb_dl, eqb_dd, plain_non, plain_lst, plain_dic, eqb_st, eqb_ts, xLen, bip, xIdx, mIdx, index, mItems, mList, xCall, pp_call, xBin, bop_ai, bop_as, bop_at, bop_al, bop_si, bop_mi, bop_ml, bop_mt, bop_ms, bop_mo, bop_fd, bop_pw, SZ, mSlc, mPart, slice, gUnp, gCon, gEnd, mLst, M.bad, mChn, sFor, loopM, xBi, xFz, fLst, mCalk, srcOf, isn_n, isn_b, isn_i, isn_s, isn_t, isn_l, isn_d, isn_r, isn_enc, gStar, dget, atI, fComp, noX, Res.noX, mWipe, cmpR, wipeE, blsOf, intsOf, txtsOf, cut, sIx, mZs, zsOf, zipD, mZip, zipOf, mRng1, mRng2, rngD, mCount, mIndexL, mMt, tyIs, mtp, findD, sTryAs, mIsE, noEx, sPar, sPar3, xRev, revD, sTry, reps, b_141, txt]
/-! ### picked -/
theorem pick_lst (T : Tb) [Fn T 113 fd_113] [Fn T 127 fd_127] (xs : List D) (h0 : 0 < xs.length) (h1 : xs.length ≤ 1000) (S : Sto) (n k : Nat) (hp : Pot S n) (hk : 1 < k) : ∃ (i : Nat) (d : D) (S' : Sto), callT T k 127 [.ref n, .lst xs] S = .ok d S' ∧ xs[i]? = some d ∧ i < xs.length ∧ Pot S' n := by
  obtain ⟨k, rfl⟩ : ∃ j, k = j + 1 := ⟨k - 1, by omega⟩
  rw [call_step]
  obtain ⟨i, S1, e1, hi, p1, _⟩ := digit T hp xs.length h0 (Nat.le_trans h1 (by decide)) k (by omega)
  have hx : xs[i]? = some xs[i] := List.getElem?_eq_getElem hi
  have ha : atI xs (i : Int) = some xs[i] := by unfold atI; rw [if_pos (by omega)]; simpa using hx
  exact ⟨i, xs[i], S1, by simp (decide := true) [runD, enc, sSeq, sIf, sRet, sNx, sAsg, sEx, sRai, ↓mb, Res.bind, mp, M.of, mT, xIsi, mBor, mVar, isTy, mTruth, truth, mOr, mAnd, mIte, mNot, xCmp, cop, eqo_nn, eqo_nb, eqo_ni, eqo_ns, eqo_nt, eqo_nl, eqo_nd, eqo_bn, eqo_bb, eqo_bi, eqo_bs, eqo_bt, eqo_bl, eqo_bd, eqo_in, eqo_ib, eqo_ii, eqo_is, eqo_it, eqo_il, eqo_id, eqo_sn, eqo_sb, eqo_si, eqo_ss, eqo_st, eqo_sl, eqo_sd, eqo_tn, eqo_tb, eqo_ti, eqo_ts, eqo_tt, eqo_tl, eqo_td, eqo_ln, eqo_lb, eqo_li, eqo_ls, eqo_lt, eqo_ll, eqo_ld, eqo_dn, eqo_db, eqo_di, eqo_ds, eqo_dt, eqo_dl, eqo_dd, inOk, D.flat, xTup, aNil, aCons, mSet, plain_str, plain_tup, plain_int, plain_bl, plains_nil, plains_cons, eqb_str, eqb_int, eqb_bl, eqb_tup, eqbs_nil, eqbs_cn, eqbs_nc, eqbs_cc, eqb_nn, eqb_nb, eqb_ni, eqb_ns, eqb_nt, eqb_nl, eqb_nd, eqb_bn, eqb_bi, eqb_bs, eqb_bt, eqb_b_l, eqb_bd, eqb_in, eqb_ib, eqb_is, eqb_it, eqb_il, eqb_id, eqb_sn, eqb_sb, eqb_si, eqb_sl, eqb_sd, eqb_tn, eqb_tb, eqb_ti, eqb_tl, eqb_td, eqb_ln, eqb_lb, eqb_li, eqb_ls, eqb_lt, eqb_ll, eqb_ld, eqb_dn, eqb_db, eqb_di, eqb_ds, eqb_dt, eqb_dl, eqb_dd, plain_non, plain_lst, plain_dic, eqb_st, eqb_ts, xLen, bip, xIdx, mIdx, index, mItems, mList, xCall, pp_call, xBin, bop_ai, bop_as, bop_at, bop_al, bop_si, bop_mi, bop_ml, bop_mt, bop_ms, bop_mo, bop_fd, bop_pw, SZ, mSlc, mPart, slice, gUnp, gCon, gEnd, mLst, M.bad, mChn, sFor, loopM, xBi, xFz, fLst, mCalk, srcOf, isn_n, isn_b, isn_i, isn_s, isn_t, isn_l, isn_d, isn_r, isn_enc, b_127, e1, ha], hx, hi, p1⟩
theorem pick_str (T : Tb) [Fn T 113 fd_113] [Fn T 127 fd_127] (x : Txt) (h0 : 0 < x.length) (h1 : x.length ≤ 1000) (S : Sto) (n k : Nat) (hp : Pot S n) (hk : 1 < k) : ∃ (c : Nat) (S' : Sto), callT T k 127 [.ref n, .str x] S = .ok (.str [c]) S' ∧ c ∈ x ∧ Pot S' n := by
  obtain ⟨k, rfl⟩ : ∃ j, k = j + 1 := ⟨k - 1, by omega⟩
  rw [call_step]
  have hz : x.length ≤ 16777216 := by omega
  obtain ⟨i, S1, e1, hi, p1, _⟩ := digit T hp x.length h0 (Nat.le_trans h1 (by decide)) k (by omega)
  have hx : x[i]? = some x[i] := List.getElem?_eq_getElem hi
  have ha : atI x (i : Int) = some x[i] := by unfold atI; rw [if_pos (by omega)]; simpa using hx
  exact ⟨x[i], S1, by simp (decide := true) [runD, enc, sSeq, sIf, sRet, sNx, sAsg, sEx, sRai, ↓mb, Res.bind, mp, M.of, mT, xIsi, mBor, mVar, isTy, mTruth, truth, mOr, mAnd, mIte, mNot, xCmp, cop, eqo_nn, eqo_nb, eqo_ni, eqo_ns, eqo_nt, eqo_nl, eqo_nd, eqo_bn, eqo_bb, eqo_bi, eqo_bs, eqo_bt, eqo_bl, eqo_bd, eqo_in, eqo_ib, eqo_ii, eqo_is, eqo_it, eqo_il, eqo_id, eqo_sn, eqo_sb, eqo_si, eqo_ss, eqo_st, eqo_sl, eqo_sd, eqo_tn, eqo_tb, eqo_ti, eqo_ts, eqo_tt, eqo_tl, eqo_td, eqo_ln, eqo_lb, eqo_li, eqo_ls, eqo_lt, eqo_ll, eqo_ld, eqo_dn, eqo_db, eqo_di, eqo_ds, eqo_dt, eqo_dl, eqo_dd, inOk, D.flat, xTup, aNil, aCons, mSet, plain_str, plain_tup, plain_int, plain_bl, plains_nil, plains_cons, eqb_str, eqb_int, eqb_bl, eqb_tup, eqbs_nil, eqbs_cn, eqbs_nc, eqbs_cc, eqb_nn, eqb_nb, eqb_ni, eqb_ns, eqb_nt, eqb_nl, eqb_nd, eqb_bn, eqb_bi, eqb_bs, eqb_bt, eqb_b_l, eqb_bd, eqb_in, eqb_ib, eqb_is, eqb_it, eqb_il, eqb_id, eqb_sn, eqb_sb, eqb_si, eqb_sl, eqb_sd, eqb_tn, eqb_tb, eqb_ti, eqb_tl, eqb_td, eqb_ln, eqb_lb, eqb_li, eqb_ls, eqb_lt, eqb_ll, eqb_ld, eqb_dn, eqb_db, eqb_di, eqb_ds, eqb_dt, eqb_dl, eqb_dd, plain_non, plain_lst, plain_dic, eqb_st, eqb_ts, xLen, bip, xIdx, mIdx, index, mItems, mList, xCall, pp_call, xBin, bop_ai, bop_as, bop_at, bop_al, bop_si, bop_mi, bop_ml, bop_mt, bop_ms, bop_mo, bop_fd, bop_pw, SZ, mSlc, mPart, slice, gUnp, gCon, gEnd, mLst, M.bad, mChn, sFor, loopM, xBi, xFz, fLst, mCalk, srcOf, isn_n, isn_b, isn_i, isn_s, isn_t, isn_l, isn_d, isn_r, isn_enc, b_127, e1, ha, hz], List.getElem_mem hi, p1⟩
theorem cut_len (t : Txt) (lo hi : Option Int) : (cut t lo hi).length ≤ t.length := by
  unfold cut
  rw [List.length_take, List.length_drop]
  omega
end Ev


set_option Elab.async false
set_option linter.all false
set_option autoImplicit false
set_option maxRecDepth 100000
set_option maxHeartbeats 4000000
namespace Ev
open PySem
namespace k15
open Form
def noneD : D := .tup [.str [110,111,110,101], .bl true]
def readD (x : D) : D := .tup [.str [114,101,97,100], x]
theorem due (t : Txt) (hl : t.length ≤ 16777216) (k : Nat) (S : Sto) (hk : 7 < k) : callT TT k 172 [.str t] S = .ok (match rd t with | some f => enc f | none => .non) S := by
  obtain ⟨k, rfl⟩ : ∃ j, k = j + 1 := ⟨k - 1, by omega⟩
  rw [call_step]
  have e1 := law_read_abs TT t hl 5 0 k S (by omega)
  have e1 : callT TT k 188 [.str t, .int 0, .int 5] S = _ := e1
  unfold rd
  cases q : pf t 5 0 with
  | none => rw [q] at e1; simp (decide := true) [runD, enc, sSeq, sIf, sRet, sNx, sAsg, sEx, sRai, ↓mb, Res.bind, mp, M.of, mT, xIsi, mBor, mVar, isTy, mTruth, truth, mOr, mAnd, mIte, mNot, xCmp, cop, eqo_nn, eqo_nb, eqo_ni, eqo_ns, eqo_nt, eqo_nl, eqo_nd, eqo_bn, eqo_bb, eqo_bi, eqo_bs, eqo_bt, eqo_bl, eqo_bd, eqo_in, eqo_ib, eqo_ii, eqo_is, eqo_it, eqo_il, eqo_id, eqo_sn, eqo_sb, eqo_si, eqo_ss, eqo_st, eqo_sl, eqo_sd, eqo_tn, eqo_tb, eqo_ti, eqo_ts, eqo_tt, eqo_tl, eqo_td, eqo_ln, eqo_lb, eqo_li, eqo_ls, eqo_lt, eqo_ll, eqo_ld, eqo_dn, eqo_db, eqo_di, eqo_ds, eqo_dt, eqo_dl, eqo_dd, inOk, D.flat, xTup, aNil, aCons, mSet, plain_str, plain_tup, plain_int, plain_bl, plains_nil, plains_cons, eqb_str, eqb_int, eqb_bl, eqb_tup, eqbs_nil, eqbs_cn, eqbs_nc, eqbs_cc, eqb_nn, eqb_nb, eqb_ni, eqb_ns, eqb_nt, eqb_nl, eqb_nd, eqb_bn, eqb_bi, eqb_bs, eqb_bt, eqb_b_l, eqb_bd, eqb_in, eqb_ib, eqb_is, eqb_it, eqb_il, eqb_id, eqb_sn, eqb_sb, eqb_si, eqb_sl, eqb_sd, eqb_tn, eqb_tb, eqb_ti, eqb_tl, eqb_td, eqb_ln, eqb_lb, eqb_li, eqb_ls, eqb_lt, eqb_ll, eqb_ld, eqb_dn, eqb_db, eqb_di, eqb_ds, eqb_dt, eqb_dl, eqb_dd, plain_non, plain_lst, plain_dic, eqb_st, eqb_ts, xLen, bip, xIdx, mIdx, index, mItems, mList, xCall, pp_call, xBin, bop_ai, bop_as, bop_at, bop_al, bop_si, bop_mi, bop_ml, bop_mt, bop_ms, bop_mo, bop_fd, bop_pw, SZ, mSlc, mPart, slice, gUnp, gCon, gEnd, mLst, M.bad, mChn, sFor, loopM, xBi, xFz, fLst, mCalk, srcOf, isn_n, isn_b, isn_i, isn_s, isn_t, isn_l, isn_d, isn_r, isn_enc, gStar, dget, atI, fComp, noX, Res.noX, mWipe, cmpR, wipeE, blsOf, intsOf, txtsOf, mZs, zsOf, zipD, mZip, zipOf, mRng1, mRng2, rngD, mCount, mIndexL, mMt, tyIs, mtp, findD, sTryAs, mIsE, noEx, sPar, sPar3, xRev, revD, sTry, reps, b_172, e1, hl]
  | some fe =>
    obtain ⟨f, e⟩ := fe
    rw [q] at e1
    simp only [] at e1 ⊢
    by_cases h : e = t.length
    · subst h
      simp (decide := true) [runD, enc, sSeq, sIf, sRet, sNx, sAsg, sEx, sRai, ↓mb, Res.bind, mp, M.of, mT, xIsi, mBor, mVar, isTy, mTruth, truth, mOr, mAnd, mIte, mNot, xCmp, cop, eqo_nn, eqo_nb, eqo_ni, eqo_ns, eqo_nt, eqo_nl, eqo_nd, eqo_bn, eqo_bb, eqo_bi, eqo_bs, eqo_bt, eqo_bl, eqo_bd, eqo_in, eqo_ib, eqo_ii, eqo_is, eqo_it, eqo_il, eqo_id, eqo_sn, eqo_sb, eqo_si, eqo_ss, eqo_st, eqo_sl, eqo_sd, eqo_tn, eqo_tb, eqo_ti, eqo_ts, eqo_tt, eqo_tl, eqo_td, eqo_ln, eqo_lb, eqo_li, eqo_ls, eqo_lt, eqo_ll, eqo_ld, eqo_dn, eqo_db, eqo_di, eqo_ds, eqo_dt, eqo_dl, eqo_dd, inOk, D.flat, xTup, aNil, aCons, mSet, plain_str, plain_tup, plain_int, plain_bl, plains_nil, plains_cons, eqb_str, eqb_int, eqb_bl, eqb_tup, eqbs_nil, eqbs_cn, eqbs_nc, eqbs_cc, eqb_nn, eqb_nb, eqb_ni, eqb_ns, eqb_nt, eqb_nl, eqb_nd, eqb_bn, eqb_bi, eqb_bs, eqb_bt, eqb_b_l, eqb_bd, eqb_in, eqb_ib, eqb_is, eqb_it, eqb_il, eqb_id, eqb_sn, eqb_sb, eqb_si, eqb_sl, eqb_sd, eqb_tn, eqb_tb, eqb_ti, eqb_tl, eqb_td, eqb_ln, eqb_lb, eqb_li, eqb_ls, eqb_lt, eqb_ll, eqb_ld, eqb_dn, eqb_db, eqb_di, eqb_ds, eqb_dt, eqb_dl, eqb_dd, plain_non, plain_lst, plain_dic, eqb_st, eqb_ts, xLen, bip, xIdx, mIdx, index, mItems, mList, xCall, pp_call, xBin, bop_ai, bop_as, bop_at, bop_al, bop_si, bop_mi, bop_ml, bop_mt, bop_ms, bop_mo, bop_fd, bop_pw, SZ, mSlc, mPart, slice, gUnp, gCon, gEnd, mLst, M.bad, mChn, sFor, loopM, xBi, xFz, fLst, mCalk, srcOf, isn_n, isn_b, isn_i, isn_s, isn_t, isn_l, isn_d, isn_r, isn_enc, gStar, dget, atI, fComp, noX, Res.noX, mWipe, cmpR, wipeE, blsOf, intsOf, txtsOf, mZs, zsOf, zipD, mZip, zipOf, mRng1, mRng2, rngD, mCount, mIndexL, mMt, tyIs, mtp, findD, sTryAs, mIsE, noEx, sPar, sPar3, xRev, revD, sTry, reps, b_172, e1, hl]
    · have h' : ¬ (e : Int) = (t.length : Nat) := by omega
      simp (decide := true) [runD, enc, sSeq, sIf, sRet, sNx, sAsg, sEx, sRai, ↓mb, Res.bind, mp, M.of, mT, xIsi, mBor, mVar, isTy, mTruth, truth, mOr, mAnd, mIte, mNot, xCmp, cop, eqo_nn, eqo_nb, eqo_ni, eqo_ns, eqo_nt, eqo_nl, eqo_nd, eqo_bn, eqo_bb, eqo_bi, eqo_bs, eqo_bt, eqo_bl, eqo_bd, eqo_in, eqo_ib, eqo_ii, eqo_is, eqo_it, eqo_il, eqo_id, eqo_sn, eqo_sb, eqo_si, eqo_ss, eqo_st, eqo_sl, eqo_sd, eqo_tn, eqo_tb, eqo_ti, eqo_ts, eqo_tt, eqo_tl, eqo_td, eqo_ln, eqo_lb, eqo_li, eqo_ls, eqo_lt, eqo_ll, eqo_ld, eqo_dn, eqo_db, eqo_di, eqo_ds, eqo_dt, eqo_dl, eqo_dd, inOk, D.flat, xTup, aNil, aCons, mSet, plain_str, plain_tup, plain_int, plain_bl, plains_nil, plains_cons, eqb_str, eqb_int, eqb_bl, eqb_tup, eqbs_nil, eqbs_cn, eqbs_nc, eqbs_cc, eqb_nn, eqb_nb, eqb_ni, eqb_ns, eqb_nt, eqb_nl, eqb_nd, eqb_bn, eqb_bi, eqb_bs, eqb_bt, eqb_b_l, eqb_bd, eqb_in, eqb_ib, eqb_is, eqb_it, eqb_il, eqb_id, eqb_sn, eqb_sb, eqb_si, eqb_sl, eqb_sd, eqb_tn, eqb_tb, eqb_ti, eqb_tl, eqb_td, eqb_ln, eqb_lb, eqb_li, eqb_ls, eqb_lt, eqb_ll, eqb_ld, eqb_dn, eqb_db, eqb_di, eqb_ds, eqb_dt, eqb_dl, eqb_dd, plain_non, plain_lst, plain_dic, eqb_st, eqb_ts, xLen, bip, xIdx, mIdx, index, mItems, mList, xCall, pp_call, xBin, bop_ai, bop_as, bop_at, bop_al, bop_si, bop_mi, bop_ml, bop_mt, bop_ms, bop_mo, bop_fd, bop_pw, SZ, mSlc, mPart, slice, gUnp, gCon, gEnd, mLst, M.bad, mChn, sFor, loopM, xBi, xFz, fLst, mCalk, srcOf, isn_n, isn_b, isn_i, isn_s, isn_t, isn_l, isn_d, isn_r, isn_enc, gStar, dget, atI, fComp, noX, Res.noX, mWipe, cmpR, wipeE, blsOf, intsOf, txtsOf, mZs, zsOf, zipD, mZip, zipOf, mRng1, mRng2, rngD, mCount, mIndexL, mMt, tyIs, mtp, findD, sTryAs, mIsE, noEx, sPar, sPar3, xRev, revD, sTry, reps, b_172, e1, hl, h, h']
theorem told_yes (t : Txt) (f : Form) (hl : t.length ≤ 16777216) (h : rd t = some f) (k : Nat) (S : Sto) (hk : 9 < k) : callT TT k 124 [.str t] S = .ok (readD (enc f)) S := by
  obtain ⟨k, rfl⟩ : ∃ j, k = j + 1 := ⟨k - 1, by omega⟩
  rw [call_step]
  have e1 := read_form_abs TT t hl k S (by omega)
  rw [h] at e1
  simp (decide := true) [runD, enc, sSeq, sIf, sRet, sNx, sAsg, sEx, sRai, ↓mb, Res.bind, mp, M.of, mT, xIsi, mBor, mVar, isTy, mTruth, truth, mOr, mAnd, mIte, mNot, xCmp, cop, eqo_nn, eqo_nb, eqo_ni, eqo_ns, eqo_nt, eqo_nl, eqo_nd, eqo_bn, eqo_bb, eqo_bi, eqo_bs, eqo_bt, eqo_bl, eqo_bd, eqo_in, eqo_ib, eqo_ii, eqo_is, eqo_it, eqo_il, eqo_id, eqo_sn, eqo_sb, eqo_si, eqo_ss, eqo_st, eqo_sl, eqo_sd, eqo_tn, eqo_tb, eqo_ti, eqo_ts, eqo_tt, eqo_tl, eqo_td, eqo_ln, eqo_lb, eqo_li, eqo_ls, eqo_lt, eqo_ll, eqo_ld, eqo_dn, eqo_db, eqo_di, eqo_ds, eqo_dt, eqo_dl, eqo_dd, inOk, D.flat, xTup, aNil, aCons, mSet, plain_str, plain_tup, plain_int, plain_bl, plains_nil, plains_cons, eqb_str, eqb_int, eqb_bl, eqb_tup, eqbs_nil, eqbs_cn, eqbs_nc, eqbs_cc, eqb_nn, eqb_nb, eqb_ni, eqb_ns, eqb_nt, eqb_nl, eqb_nd, eqb_bn, eqb_bi, eqb_bs, eqb_bt, eqb_b_l, eqb_bd, eqb_in, eqb_ib, eqb_is, eqb_it, eqb_il, eqb_id, eqb_sn, eqb_sb, eqb_si, eqb_sl, eqb_sd, eqb_tn, eqb_tb, eqb_ti, eqb_tl, eqb_td, eqb_ln, eqb_lb, eqb_li, eqb_ls, eqb_lt, eqb_ll, eqb_ld, eqb_dn, eqb_db, eqb_di, eqb_ds, eqb_dt, eqb_dl, eqb_dd, plain_non, plain_lst, plain_dic, eqb_st, eqb_ts, xLen, bip, xIdx, mIdx, index, mItems, mList, xCall, pp_call, xBin, bop_ai, bop_as, bop_at, bop_al, bop_si, bop_mi, bop_ml, bop_mt, bop_ms, bop_mo, bop_fd, bop_pw, SZ, mSlc, mPart, slice, gUnp, gCon, gEnd, mLst, M.bad, mChn, sFor, loopM, xBi, xFz, fLst, mCalk, srcOf, isn_n, isn_b, isn_i, isn_s, isn_t, isn_l, isn_d, isn_r, isn_enc, gStar, dget, atI, fComp, noX, Res.noX, mWipe, cmpR, wipeE, blsOf, intsOf, txtsOf, cut, sIx, mZs, zsOf, zipD, mZip, zipOf, mRng1, mRng2, rngD, mCount, mIndexL, mMt, tyIs, mtp, findD, sTryAs, mIsE, noEx, sPar, sPar3, xRev, revD, sTry, reps, b_124, readD, e1]
theorem told_no (d : D) (k : Nat) (S : Sto) (h : callT TT k 139 [d] S = .exc ⟨103, []⟩ S) : callT TT (k + 1) 124 [d] S = .ok noneD S := by
  rw [call_step]
  simp (decide := true) [runD, enc, sSeq, sIf, sRet, sNx, sAsg, sEx, sRai, ↓mb, Res.bind, mp, M.of, mT, xIsi, mBor, mVar, isTy, mTruth, truth, mOr, mAnd, mIte, mNot, xCmp, cop, eqo_nn, eqo_nb, eqo_ni, eqo_ns, eqo_nt, eqo_nl, eqo_nd, eqo_bn, eqo_bb, eqo_bi, eqo_bs, eqo_bt, eqo_bl, eqo_bd, eqo_in, eqo_ib, eqo_ii, eqo_is, eqo_it, eqo_il, eqo_id, eqo_sn, eqo_sb, eqo_si, eqo_ss, eqo_st, eqo_sl, eqo_sd, eqo_tn, eqo_tb, eqo_ti, eqo_ts, eqo_tt, eqo_tl, eqo_td, eqo_ln, eqo_lb, eqo_li, eqo_ls, eqo_lt, eqo_ll, eqo_ld, eqo_dn, eqo_db, eqo_di, eqo_ds, eqo_dt, eqo_dl, eqo_dd, inOk, D.flat, xTup, aNil, aCons, mSet, plain_str, plain_tup, plain_int, plain_bl, plains_nil, plains_cons, eqb_str, eqb_int, eqb_bl, eqb_tup, eqbs_nil, eqbs_cn, eqbs_nc, eqbs_cc, eqb_nn, eqb_nb, eqb_ni, eqb_ns, eqb_nt, eqb_nl, eqb_nd, eqb_bn, eqb_bi, eqb_bs, eqb_bt, eqb_b_l, eqb_bd, eqb_in, eqb_ib, eqb_is, eqb_it, eqb_il, eqb_id, eqb_sn, eqb_sb, eqb_si, eqb_sl, eqb_sd, eqb_tn, eqb_tb, eqb_ti, eqb_tl, eqb_td, eqb_ln, eqb_lb, eqb_li, eqb_ls, eqb_lt, eqb_ll, eqb_ld, eqb_dn, eqb_db, eqb_di, eqb_ds, eqb_dt, eqb_dl, eqb_dd, plain_non, plain_lst, plain_dic, eqb_st, eqb_ts, xLen, bip, xIdx, mIdx, index, mItems, mList, xCall, pp_call, xBin, bop_ai, bop_as, bop_at, bop_al, bop_si, bop_mi, bop_ml, bop_mt, bop_ms, bop_mo, bop_fd, bop_pw, SZ, mSlc, mPart, slice, gUnp, gCon, gEnd, mLst, M.bad, mChn, sFor, loopM, xBi, xFz, fLst, mCalk, srcOf, isn_n, isn_b, isn_i, isn_s, isn_t, isn_l, isn_d, isn_r, isn_enc, gStar, dget, atI, fComp, noX, Res.noX, mWipe, cmpR, wipeE, blsOf, intsOf, txtsOf, cut, sIx, mZs, zsOf, zipD, mZip, zipOf, mRng1, mRng2, rngD, mCount, mIndexL, mMt, tyIs, mtp, findD, sTryAs, mIsE, noEx, sPar, sPar3, xRev, revD, sTry, reps, b_124, noneD, h]
theorem none_sm : ∃ t, shownD noneD = some t := (sm_tup (k := 59) (sms_cons (sm_str [110,111,110,101] (by decide) 4 (by decide)) (sms_cons (sm_bl true) sms_nil))).shown (by decide)
theorem read_sm (f : Form) (hf : hgt f ≤ 6) : ∃ t, shownD (readD (enc f)) = some t := (sm_tup (k := 59) (sms_cons (sm_str [114,101,97,100] (by decide) 4 (by decide)) (sms_cons (sm_enc f hf (by decide)) sms_nil))).shown (by decide)
theorem right_ok (t : Txt) (hl : t.length ≤ 16777216) (k : Nat) (S : Sto) (hk : 30 < k) : callT TT k 125 [.str t] S = .ok (.bl true) S := by
  obtain ⟨k, rfl⟩ : ∃ j, k = j + 1 := ⟨k - 1, by omega⟩
  rw [call_step]
  have e1 := due t hl k S (by omega)
  cases h : rd t with
  | none =>
    rw [h] at e1
    obtain ⟨j, rfl⟩ : ∃ j, k = j + 1 := ⟨k - 1, by omega⟩
    have e2 := told_no (.str t) j S (by rw [read_form_abs TT t hl j S (by omega), h])
    obtain ⟨u, hu⟩ := none_sm
    unfold noneD at hu e2
    simp (decide := true) [runD, enc, sSeq, sIf, sRet, sNx, sAsg, sEx, sRai, ↓mb, Res.bind, mp, M.of, mT, xIsi, mBor, mVar, isTy, mTruth, truth, mOr, mAnd, mIte, mNot, xCmp, cop, eqo_nn, eqo_nb, eqo_ni, eqo_ns, eqo_nt, eqo_nl, eqo_nd, eqo_bn, eqo_bb, eqo_bi, eqo_bs, eqo_bt, eqo_bl, eqo_bd, eqo_in, eqo_ib, eqo_ii, eqo_is, eqo_it, eqo_il, eqo_id, eqo_sn, eqo_sb, eqo_si, eqo_ss, eqo_st, eqo_sl, eqo_sd, eqo_tn, eqo_tb, eqo_ti, eqo_ts, eqo_tt, eqo_tl, eqo_td, eqo_ln, eqo_lb, eqo_li, eqo_ls, eqo_lt, eqo_ll, eqo_ld, eqo_dn, eqo_db, eqo_di, eqo_ds, eqo_dt, eqo_dl, eqo_dd, inOk, D.flat, xTup, aNil, aCons, mSet, plain_str, plain_tup, plain_int, plain_bl, plains_nil, plains_cons, eqb_str, eqb_int, eqb_bl, eqb_tup, eqbs_nil, eqbs_cn, eqbs_nc, eqbs_cc, eqb_nn, eqb_nb, eqb_ni, eqb_ns, eqb_nt, eqb_nl, eqb_nd, eqb_bn, eqb_bi, eqb_bs, eqb_bt, eqb_b_l, eqb_bd, eqb_in, eqb_ib, eqb_is, eqb_it, eqb_il, eqb_id, eqb_sn, eqb_sb, eqb_si, eqb_sl, eqb_sd, eqb_tn, eqb_tb, eqb_ti, eqb_tl, eqb_td, eqb_ln, eqb_lb, eqb_li, eqb_ls, eqb_lt, eqb_ll, eqb_ld, eqb_dn, eqb_db, eqb_di, eqb_ds, eqb_dt, eqb_dl, eqb_dd, plain_non, plain_lst, plain_dic, eqb_st, eqb_ts, xLen, bip, xIdx, mIdx, index, mItems, mList, xCall, pp_call, xBin, bop_ai, bop_as, bop_at, bop_al, bop_si, bop_mi, bop_ml, bop_mt, bop_ms, bop_mo, bop_fd, bop_pw, SZ, mSlc, mPart, slice, gUnp, gCon, gEnd, mLst, M.bad, mChn, sFor, loopM, xBi, xFz, fLst, mCalk, srcOf, isn_n, isn_b, isn_i, isn_s, isn_t, isn_l, isn_d, isn_r, isn_enc, gStar, dget, atI, fComp, noX, Res.noX, mWipe, cmpR, wipeE, blsOf, intsOf, txtsOf, mZs, zsOf, zipD, mZip, zipOf, mRng1, mRng2, rngD, mCount, mIndexL, mMt, tyIs, mtp, findD, sTryAs, mIsE, noEx, sPar, sPar3, xRev, revD, sTry, reps, b_125, e1, e2, hu]
  | some f =>
    rw [h] at e1
    obtain ⟨q1, q2⟩ := rd_sound h
    have e2 := told_yes t f hl h k S (by omega)
    have e3 := form_text TT f k S (by omega) q2
    rw [q1] at e3
    obtain ⟨u, hu⟩ := read_sm f (by omega)
    unfold readD at hu e2
    simp only [] at e1
    have hn := isn_enc f
    generalize enc f = x at *
    simp (decide := true) [runD, enc, sSeq, sIf, sRet, sNx, sAsg, sEx, sRai, ↓mb, Res.bind, mp, M.of, mT, xIsi, mBor, mVar, isTy, mTruth, truth, mOr, mAnd, mIte, mNot, xCmp, cop, eqo_nn, eqo_nb, eqo_ni, eqo_ns, eqo_nt, eqo_nl, eqo_nd, eqo_bn, eqo_bb, eqo_bi, eqo_bs, eqo_bt, eqo_bl, eqo_bd, eqo_in, eqo_ib, eqo_ii, eqo_is, eqo_it, eqo_il, eqo_id, eqo_sn, eqo_sb, eqo_si, eqo_ss, eqo_st, eqo_sl, eqo_sd, eqo_tn, eqo_tb, eqo_ti, eqo_ts, eqo_tt, eqo_tl, eqo_td, eqo_ln, eqo_lb, eqo_li, eqo_ls, eqo_lt, eqo_ll, eqo_ld, eqo_dn, eqo_db, eqo_di, eqo_ds, eqo_dt, eqo_dl, eqo_dd, inOk, D.flat, xTup, aNil, aCons, mSet, plain_str, plain_tup, plain_int, plain_bl, plains_nil, plains_cons, eqb_str, eqb_int, eqb_bl, eqb_tup, eqbs_nil, eqbs_cn, eqbs_nc, eqbs_cc, eqb_nn, eqb_nb, eqb_ni, eqb_ns, eqb_nt, eqb_nl, eqb_nd, eqb_bn, eqb_bi, eqb_bs, eqb_bt, eqb_b_l, eqb_bd, eqb_in, eqb_ib, eqb_is, eqb_it, eqb_il, eqb_id, eqb_sn, eqb_sb, eqb_si, eqb_sl, eqb_sd, eqb_tn, eqb_tb, eqb_ti, eqb_tl, eqb_td, eqb_ln, eqb_lb, eqb_li, eqb_ls, eqb_lt, eqb_ll, eqb_ld, eqb_dn, eqb_db, eqb_di, eqb_ds, eqb_dt, eqb_dl, eqb_dd, plain_non, plain_lst, plain_dic, eqb_st, eqb_ts, xLen, bip, xIdx, mIdx, index, mItems, mList, xCall, pp_call, xBin, bop_ai, bop_as, bop_at, bop_al, bop_si, bop_mi, bop_ml, bop_mt, bop_ms, bop_mo, bop_fd, bop_pw, SZ, mSlc, mPart, slice, gUnp, gCon, gEnd, mLst, M.bad, mChn, sFor, loopM, xBi, xFz, fLst, mCalk, srcOf, isn_n, isn_b, isn_i, isn_s, isn_t, isn_l, isn_d, isn_r, isn_enc, gStar, dget, atI, fComp, noX, Res.noX, mWipe, cmpR, wipeE, blsOf, intsOf, txtsOf, mZs, zsOf, zipD, mZip, zipOf, mRng1, mRng2, rngD, mCount, mIndexL, mMt, tyIs, mtp, findD, sTryAs, mIsE, noEx, sPar, sPar3, xRev, revD, sTry, reps, b_125, e1, e2, e3, hu, hn]
theorem spoilt_ok (t : Txt) (hl : t.length ≤ 5000) (S : Sto) (n k : Nat) (hp : Pot S n) (hk : 2 < k) : ∃ (u : Txt) (S' : Sto), callT TT k 145 [.ref n, .str t] S = .ok (.str u) S' ∧ u.length ≤ 2 * t.length + 10 ∧ Pot S' n := by
  obtain ⟨k, rfl⟩ : ∃ j, k = j + 1 := ⟨k - 1, by omega⟩
  rw [call_step]
  have hl2 : t.length ≤ 16777216 := by omega
  obtain ⟨d1, S1, e1, hd1, p1, _⟩ := digit TT hp (t.length + 1) (by omega) (Nat.le_trans (show t.length + 1 ≤ 5001 by omega) (by decide)) k (by omega)
  rw [show ((t.length + 1 : Nat) : Int) = (t.length : Int) + 1 by omega] at e1
  obtain ⟨c, S2, e2, hc, p2⟩ := pick_str TT [40,41,91,93,62,62,97,110,117,109,116,101,120,116,100,101,98,32,44,45] (by decide) (by decide) S1 n k p1 (by omega)
  obtain ⟨d3, S3, e3, hd3, p3, _⟩ := digit TT p2 8 (by omega) (by decide) k (by omega)
  have e3 : callT TT k 113 [.ref n, .int 8] S2 = .ok (.int d3) S3 := e3
  have a1 := cut_len t none (some (d1 : Int))
  have a2 := cut_len t (some (d1 : Int)) none
  have a3 := cut_len t (some ((d1 : Int) + 1)) none
  have a4 := cut_len t (some (d1 : Int)) (some ((d1 : Int) + 2))
  have a5 := cut_len t (some ((d1 : Int) + 2)) none
  have a6 := cut_len t none (some 3)
  have a6' : (cut t none (some 3)).length ≤ 3 := by
    unfold cut
    rw [List.length_take]
    have : sIx t.length t.length (some 3) ≤ 3 := by
      show (if (3 : Int) < 0 then ((3 : Int) + (t.length : Nat)).toNat else min (3 : Int).toNat t.length) ≤ 3
      rw [if_neg (by decide)]
      have : (3 : Int).toNat = 3 := rfl
      omega
    omega
  have a12 : (cut t none (some (d1 : Int))).length + (cut t (some (d1 : Int)) none).length ≤ 2 * t.length := by omega
  have a14 : (cut t (some (d1 : Int)) (some ((d1 : Int) + 2))).length ≤ 2 := by
    have q := cut_abs t d1 2
    have q : cut t (some (d1 : Int)) (some ((d1 : Int) + 2)) = (t.drop d1).take 2 := q
    rw [q, List.length_take]; omega
  generalize (d1 : Int) = di at *
  generalize hA : cut t none (some di) = A at *
  generalize hB : cut t (some di) none = B at *
  generalize hC : cut t (some (di + 1)) none = C at *
  generalize hE : cut t (some di) (some (di + 2)) = E at *
  generalize hF : cut t (some (di + 2)) none = F at *
  generalize hG : cut t none (some 3) = G at *
  rcases (show d3 = 0 ∨ d3 = 1 ∨ d3 = 2 ∨ d3 = 3 ∨ d3 = 4 ∨ d3 = 5 ∨ d3 = 6 ∨ d3 = 7 by omega) with rfl | rfl | rfl | rfl | rfl | rfl | rfl | rfl
  · have b1 : bop .add (.str A) (.str [c]) = some (.str (A ++ [c])) := bop_asC _ _ (by simp; omega)
    have b2 : bop .add (.str (A ++ [c])) (.str B) = some (.str (A ++ [c] ++ B)) := bop_asC _ _ (by simp; omega)
    exact ⟨A ++ [c] ++ B, S3, by simp (decide := true) [runD, enc, sSeq, sIf, sRet, sNx, sAsg, sEx, sRai, ↓mb, Res.bind, mp, M.of, mT, xIsi, mBor, mVar, isTy, mTruth, truth, mOr, mAnd, mIte, mNot, xCmp, cop, eqo_nn, eqo_nb, eqo_ni, eqo_ns, eqo_nt, eqo_nl, eqo_nd, eqo_bn, eqo_bb, eqo_bi, eqo_bs, eqo_bt, eqo_bl, eqo_bd, eqo_in, eqo_ib, eqo_ii, eqo_is, eqo_it, eqo_il, eqo_id, eqo_sn, eqo_sb, eqo_si, eqo_ss, eqo_st, eqo_sl, eqo_sd, eqo_tn, eqo_tb, eqo_ti, eqo_ts, eqo_tt, eqo_tl, eqo_td, eqo_ln, eqo_lb, eqo_li, eqo_ls, eqo_lt, eqo_ll, eqo_ld, eqo_dn, eqo_db, eqo_di, eqo_ds, eqo_dt, eqo_dl, eqo_dd, inOk, D.flat, xTup, aNil, aCons, mSet, plain_str, plain_tup, plain_int, plain_bl, plains_nil, plains_cons, eqb_str, eqb_int, eqb_bl, eqb_tup, eqbs_nil, eqbs_cn, eqbs_nc, eqbs_cc, eqb_nn, eqb_nb, eqb_ni, eqb_ns, eqb_nt, eqb_nl, eqb_nd, eqb_bn, eqb_bi, eqb_bs, eqb_bt, eqb_b_l, eqb_bd, eqb_in, eqb_ib, eqb_is, eqb_it, eqb_il, eqb_id, eqb_sn, eqb_sb, eqb_si, eqb_sl, eqb_sd, eqb_tn, eqb_tb, eqb_ti, eqb_tl, eqb_td, eqb_ln, eqb_lb, eqb_li, eqb_ls, eqb_lt, eqb_ll, eqb_ld, eqb_dn, eqb_db, eqb_di, eqb_ds, eqb_dt, eqb_dl, eqb_dd, plain_non, plain_lst, plain_dic, eqb_st, eqb_ts, xLen, bip, xIdx, mIdx, index, mItems, mList, xCall, pp_call, xBin, bop_ai, bop_at, bop_al, bop_si, bop_mi, bop_ml, bop_mt, bop_ms, bop_mo, bop_fd, bop_pw, SZ, mSlc, mPart, slice, gUnp, gCon, gEnd, mLst, M.bad, mChn, sFor, loopM, xBi, xFz, fLst, mCalk, srcOf, isn_n, isn_b, isn_i, isn_s, isn_t, isn_l, isn_d, isn_r, isn_enc, gStar, dget, atI, fComp, noX, Res.noX, mWipe, cmpR, wipeE, blsOf, intsOf, txtsOf, mZs, zsOf, zipD, mZip, zipOf, mRng1, mRng2, rngD, mCount, mIndexL, mMt, tyIs, mtp, findD, sTryAs, mIsE, noEx, sPar, sPar3, xRev, revD, sTry, reps, b_145, e1, e2, e3, hl2, hA, hB, hC, hE, hF, hG, b1, b2], by simp; omega, p3⟩
  · have b1 : bop .add (.str A) (.str [c]) = some (.str (A ++ [c])) := bop_asC _ _ (by simp; omega)
    have b2 : bop .add (.str (A ++ [c])) (.str B) = some (.str (A ++ [c] ++ B)) := bop_asC _ _ (by simp; omega)
    exact ⟨A ++ [c] ++ B, S3, by simp (decide := true) [runD, enc, sSeq, sIf, sRet, sNx, sAsg, sEx, sRai, ↓mb, Res.bind, mp, M.of, mT, xIsi, mBor, mVar, isTy, mTruth, truth, mOr, mAnd, mIte, mNot, xCmp, cop, eqo_nn, eqo_nb, eqo_ni, eqo_ns, eqo_nt, eqo_nl, eqo_nd, eqo_bn, eqo_bb, eqo_bi, eqo_bs, eqo_bt, eqo_bl, eqo_bd, eqo_in, eqo_ib, eqo_ii, eqo_is, eqo_it, eqo_il, eqo_id, eqo_sn, eqo_sb, eqo_si, eqo_ss, eqo_st, eqo_sl, eqo_sd, eqo_tn, eqo_tb, eqo_ti, eqo_ts, eqo_tt, eqo_tl, eqo_td, eqo_ln, eqo_lb, eqo_li, eqo_ls, eqo_lt, eqo_ll, eqo_ld, eqo_dn, eqo_db, eqo_di, eqo_ds, eqo_dt, eqo_dl, eqo_dd, inOk, D.flat, xTup, aNil, aCons, mSet, plain_str, plain_tup, plain_int, plain_bl, plains_nil, plains_cons, eqb_str, eqb_int, eqb_bl, eqb_tup, eqbs_nil, eqbs_cn, eqbs_nc, eqbs_cc, eqb_nn, eqb_nb, eqb_ni, eqb_ns, eqb_nt, eqb_nl, eqb_nd, eqb_bn, eqb_bi, eqb_bs, eqb_bt, eqb_b_l, eqb_bd, eqb_in, eqb_ib, eqb_is, eqb_it, eqb_il, eqb_id, eqb_sn, eqb_sb, eqb_si, eqb_sl, eqb_sd, eqb_tn, eqb_tb, eqb_ti, eqb_tl, eqb_td, eqb_ln, eqb_lb, eqb_li, eqb_ls, eqb_lt, eqb_ll, eqb_ld, eqb_dn, eqb_db, eqb_di, eqb_ds, eqb_dt, eqb_dl, eqb_dd, plain_non, plain_lst, plain_dic, eqb_st, eqb_ts, xLen, bip, xIdx, mIdx, index, mItems, mList, xCall, pp_call, xBin, bop_ai, bop_at, bop_al, bop_si, bop_mi, bop_ml, bop_mt, bop_ms, bop_mo, bop_fd, bop_pw, SZ, mSlc, mPart, slice, gUnp, gCon, gEnd, mLst, M.bad, mChn, sFor, loopM, xBi, xFz, fLst, mCalk, srcOf, isn_n, isn_b, isn_i, isn_s, isn_t, isn_l, isn_d, isn_r, isn_enc, gStar, dget, atI, fComp, noX, Res.noX, mWipe, cmpR, wipeE, blsOf, intsOf, txtsOf, mZs, zsOf, zipD, mZip, zipOf, mRng1, mRng2, rngD, mCount, mIndexL, mMt, tyIs, mtp, findD, sTryAs, mIsE, noEx, sPar, sPar3, xRev, revD, sTry, reps, b_145, e1, e2, e3, hl2, hA, hB, hC, hE, hF, hG, b1, b2], by simp; omega, p3⟩
  · have b1 : bop .add (.str A) (.str [c]) = some (.str (A ++ [c])) := bop_asC _ _ (by simp; omega)
    have b2 : bop .add (.str (A ++ [c])) (.str C) = some (.str (A ++ [c] ++ C)) := bop_asC _ _ (by simp; omega)
    exact ⟨A ++ [c] ++ C, S3, by simp (decide := true) [runD, enc, sSeq, sIf, sRet, sNx, sAsg, sEx, sRai, ↓mb, Res.bind, mp, M.of, mT, xIsi, mBor, mVar, isTy, mTruth, truth, mOr, mAnd, mIte, mNot, xCmp, cop, eqo_nn, eqo_nb, eqo_ni, eqo_ns, eqo_nt, eqo_nl, eqo_nd, eqo_bn, eqo_bb, eqo_bi, eqo_bs, eqo_bt, eqo_bl, eqo_bd, eqo_in, eqo_ib, eqo_ii, eqo_is, eqo_it, eqo_il, eqo_id, eqo_sn, eqo_sb, eqo_si, eqo_ss, eqo_st, eqo_sl, eqo_sd, eqo_tn, eqo_tb, eqo_ti, eqo_ts, eqo_tt, eqo_tl, eqo_td, eqo_ln, eqo_lb, eqo_li, eqo_ls, eqo_lt, eqo_ll, eqo_ld, eqo_dn, eqo_db, eqo_di, eqo_ds, eqo_dt, eqo_dl, eqo_dd, inOk, D.flat, xTup, aNil, aCons, mSet, plain_str, plain_tup, plain_int, plain_bl, plains_nil, plains_cons, eqb_str, eqb_int, eqb_bl, eqb_tup, eqbs_nil, eqbs_cn, eqbs_nc, eqbs_cc, eqb_nn, eqb_nb, eqb_ni, eqb_ns, eqb_nt, eqb_nl, eqb_nd, eqb_bn, eqb_bi, eqb_bs, eqb_bt, eqb_b_l, eqb_bd, eqb_in, eqb_ib, eqb_is, eqb_it, eqb_il, eqb_id, eqb_sn, eqb_sb, eqb_si, eqb_sl, eqb_sd, eqb_tn, eqb_tb, eqb_ti, eqb_tl, eqb_td, eqb_ln, eqb_lb, eqb_li, eqb_ls, eqb_lt, eqb_ll, eqb_ld, eqb_dn, eqb_db, eqb_di, eqb_ds, eqb_dt, eqb_dl, eqb_dd, plain_non, plain_lst, plain_dic, eqb_st, eqb_ts, xLen, bip, xIdx, mIdx, index, mItems, mList, xCall, pp_call, xBin, bop_ai, bop_at, bop_al, bop_si, bop_mi, bop_ml, bop_mt, bop_ms, bop_mo, bop_fd, bop_pw, SZ, mSlc, mPart, slice, gUnp, gCon, gEnd, mLst, M.bad, mChn, sFor, loopM, xBi, xFz, fLst, mCalk, srcOf, isn_n, isn_b, isn_i, isn_s, isn_t, isn_l, isn_d, isn_r, isn_enc, gStar, dget, atI, fComp, noX, Res.noX, mWipe, cmpR, wipeE, blsOf, intsOf, txtsOf, mZs, zsOf, zipD, mZip, zipOf, mRng1, mRng2, rngD, mCount, mIndexL, mMt, tyIs, mtp, findD, sTryAs, mIsE, noEx, sPar, sPar3, xRev, revD, sTry, reps, b_145, e1, e2, e3, hl2, hA, hB, hC, hE, hF, hG, b1, b2], by simp; omega, p3⟩
  · have b1 : bop .add (.str A) (.str C) = some (.str (A ++ C)) := bop_asC _ _ (by omega)
    exact ⟨A ++ C, S3, by simp (decide := true) [runD, enc, sSeq, sIf, sRet, sNx, sAsg, sEx, sRai, ↓mb, Res.bind, mp, M.of, mT, xIsi, mBor, mVar, isTy, mTruth, truth, mOr, mAnd, mIte, mNot, xCmp, cop, eqo_nn, eqo_nb, eqo_ni, eqo_ns, eqo_nt, eqo_nl, eqo_nd, eqo_bn, eqo_bb, eqo_bi, eqo_bs, eqo_bt, eqo_bl, eqo_bd, eqo_in, eqo_ib, eqo_ii, eqo_is, eqo_it, eqo_il, eqo_id, eqo_sn, eqo_sb, eqo_si, eqo_ss, eqo_st, eqo_sl, eqo_sd, eqo_tn, eqo_tb, eqo_ti, eqo_ts, eqo_tt, eqo_tl, eqo_td, eqo_ln, eqo_lb, eqo_li, eqo_ls, eqo_lt, eqo_ll, eqo_ld, eqo_dn, eqo_db, eqo_di, eqo_ds, eqo_dt, eqo_dl, eqo_dd, inOk, D.flat, xTup, aNil, aCons, mSet, plain_str, plain_tup, plain_int, plain_bl, plains_nil, plains_cons, eqb_str, eqb_int, eqb_bl, eqb_tup, eqbs_nil, eqbs_cn, eqbs_nc, eqbs_cc, eqb_nn, eqb_nb, eqb_ni, eqb_ns, eqb_nt, eqb_nl, eqb_nd, eqb_bn, eqb_bi, eqb_bs, eqb_bt, eqb_b_l, eqb_bd, eqb_in, eqb_ib, eqb_is, eqb_it, eqb_il, eqb_id, eqb_sn, eqb_sb, eqb_si, eqb_sl, eqb_sd, eqb_tn, eqb_tb, eqb_ti, eqb_tl, eqb_td, eqb_ln, eqb_lb, eqb_li, eqb_ls, eqb_lt, eqb_ll, eqb_ld, eqb_dn, eqb_db, eqb_di, eqb_ds, eqb_dt, eqb_dl, eqb_dd, plain_non, plain_lst, plain_dic, eqb_st, eqb_ts, xLen, bip, xIdx, mIdx, index, mItems, mList, xCall, pp_call, xBin, bop_ai, bop_at, bop_al, bop_si, bop_mi, bop_ml, bop_mt, bop_ms, bop_mo, bop_fd, bop_pw, SZ, mSlc, mPart, slice, gUnp, gCon, gEnd, mLst, M.bad, mChn, sFor, loopM, xBi, xFz, fLst, mCalk, srcOf, isn_n, isn_b, isn_i, isn_s, isn_t, isn_l, isn_d, isn_r, isn_enc, gStar, dget, atI, fComp, noX, Res.noX, mWipe, cmpR, wipeE, blsOf, intsOf, txtsOf, mZs, zsOf, zipD, mZip, zipOf, mRng1, mRng2, rngD, mCount, mIndexL, mMt, tyIs, mtp, findD, sTryAs, mIsE, noEx, sPar, sPar3, xRev, revD, sTry, reps, b_145, e1, e2, e3, hl2, hA, hB, hC, hE, hF, hG, b1], by simp; omega, p3⟩
  · have b1 : bop .add (.str A) (.str E.reverse) = some (.str (A ++ E.reverse)) := bop_asC _ _ (by simp; omega)
    have b2 : bop .add (.str (A ++ E.reverse)) (.str F) = some (.str (A ++ E.reverse ++ F)) := bop_asC _ _ (by simp; omega)
    have hEl : E.length ≤ 16777216 := by omega
    exact ⟨A ++ E.reverse ++ F, S3, by simp (decide := true) [runD, enc, sSeq, sIf, sRet, sNx, sAsg, sEx, sRai, ↓mb, Res.bind, mp, M.of, mT, xIsi, mBor, mVar, isTy, mTruth, truth, mOr, mAnd, mIte, mNot, xCmp, cop, eqo_nn, eqo_nb, eqo_ni, eqo_ns, eqo_nt, eqo_nl, eqo_nd, eqo_bn, eqo_bb, eqo_bi, eqo_bs, eqo_bt, eqo_bl, eqo_bd, eqo_in, eqo_ib, eqo_ii, eqo_is, eqo_it, eqo_il, eqo_id, eqo_sn, eqo_sb, eqo_si, eqo_ss, eqo_st, eqo_sl, eqo_sd, eqo_tn, eqo_tb, eqo_ti, eqo_ts, eqo_tt, eqo_tl, eqo_td, eqo_ln, eqo_lb, eqo_li, eqo_ls, eqo_lt, eqo_ll, eqo_ld, eqo_dn, eqo_db, eqo_di, eqo_ds, eqo_dt, eqo_dl, eqo_dd, inOk, D.flat, xTup, aNil, aCons, mSet, plain_str, plain_tup, plain_int, plain_bl, plains_nil, plains_cons, eqb_str, eqb_int, eqb_bl, eqb_tup, eqbs_nil, eqbs_cn, eqbs_nc, eqbs_cc, eqb_nn, eqb_nb, eqb_ni, eqb_ns, eqb_nt, eqb_nl, eqb_nd, eqb_bn, eqb_bi, eqb_bs, eqb_bt, eqb_b_l, eqb_bd, eqb_in, eqb_ib, eqb_is, eqb_it, eqb_il, eqb_id, eqb_sn, eqb_sb, eqb_si, eqb_sl, eqb_sd, eqb_tn, eqb_tb, eqb_ti, eqb_tl, eqb_td, eqb_ln, eqb_lb, eqb_li, eqb_ls, eqb_lt, eqb_ll, eqb_ld, eqb_dn, eqb_db, eqb_di, eqb_ds, eqb_dt, eqb_dl, eqb_dd, plain_non, plain_lst, plain_dic, eqb_st, eqb_ts, xLen, bip, xIdx, mIdx, index, mItems, mList, xCall, pp_call, xBin, bop_ai, bop_at, bop_al, bop_si, bop_mi, bop_ml, bop_mt, bop_ms, bop_mo, bop_fd, bop_pw, SZ, mSlc, mPart, slice, gUnp, gCon, gEnd, mLst, M.bad, mChn, sFor, loopM, xBi, xFz, fLst, mCalk, srcOf, isn_n, isn_b, isn_i, isn_s, isn_t, isn_l, isn_d, isn_r, isn_enc, gStar, dget, atI, fComp, noX, Res.noX, mWipe, cmpR, wipeE, blsOf, intsOf, txtsOf, mZs, zsOf, zipD, mZip, zipOf, mRng1, mRng2, rngD, mCount, mIndexL, mMt, tyIs, mtp, findD, sTryAs, mIsE, noEx, sPar, sPar3, xRev, revD, sTry, reps, b_145, e1, e2, e3, hl2, hA, hB, hC, hE, hF, hG, b1, b2, hEl], by simp; omega, p3⟩
  · have b1 : bop .add (.str A) (.str G) = some (.str (A ++ G)) := bop_asC _ _ (by omega)
    have b2 : bop .add (.str (A ++ G)) (.str B) = some (.str (A ++ G ++ B)) := bop_asC _ _ (by simp; omega)
    exact ⟨A ++ G ++ B, S3, by simp (decide := true) [runD, enc, sSeq, sIf, sRet, sNx, sAsg, sEx, sRai, ↓mb, Res.bind, mp, M.of, mT, xIsi, mBor, mVar, isTy, mTruth, truth, mOr, mAnd, mIte, mNot, xCmp, cop, eqo_nn, eqo_nb, eqo_ni, eqo_ns, eqo_nt, eqo_nl, eqo_nd, eqo_bn, eqo_bb, eqo_bi, eqo_bs, eqo_bt, eqo_bl, eqo_bd, eqo_in, eqo_ib, eqo_ii, eqo_is, eqo_it, eqo_il, eqo_id, eqo_sn, eqo_sb, eqo_si, eqo_ss, eqo_st, eqo_sl, eqo_sd, eqo_tn, eqo_tb, eqo_ti, eqo_ts, eqo_tt, eqo_tl, eqo_td, eqo_ln, eqo_lb, eqo_li, eqo_ls, eqo_lt, eqo_ll, eqo_ld, eqo_dn, eqo_db, eqo_di, eqo_ds, eqo_dt, eqo_dl, eqo_dd, inOk, D.flat, xTup, aNil, aCons, mSet, plain_str, plain_tup, plain_int, plain_bl, plains_nil, plains_cons, eqb_str, eqb_int, eqb_bl, eqb_tup, eqbs_nil, eqbs_cn, eqbs_nc, eqbs_cc, eqb_nn, eqb_nb, eqb_ni, eqb_ns, eqb_nt, eqb_nl, eqb_nd, eqb_bn, eqb_bi, eqb_bs, eqb_bt, eqb_b_l, eqb_bd, eqb_in, eqb_ib, eqb_is, eqb_it, eqb_il, eqb_id, eqb_sn, eqb_sb, eqb_si, eqb_sl, eqb_sd, eqb_tn, eqb_tb, eqb_ti, eqb_tl, eqb_td, eqb_ln, eqb_lb, eqb_li, eqb_ls, eqb_lt, eqb_ll, eqb_ld, eqb_dn, eqb_db, eqb_di, eqb_ds, eqb_dt, eqb_dl, eqb_dd, plain_non, plain_lst, plain_dic, eqb_st, eqb_ts, xLen, bip, xIdx, mIdx, index, mItems, mList, xCall, pp_call, xBin, bop_ai, bop_at, bop_al, bop_si, bop_mi, bop_ml, bop_mt, bop_ms, bop_mo, bop_fd, bop_pw, SZ, mSlc, mPart, slice, gUnp, gCon, gEnd, mLst, M.bad, mChn, sFor, loopM, xBi, xFz, fLst, mCalk, srcOf, isn_n, isn_b, isn_i, isn_s, isn_t, isn_l, isn_d, isn_r, isn_enc, gStar, dget, atI, fComp, noX, Res.noX, mWipe, cmpR, wipeE, blsOf, intsOf, txtsOf, mZs, zsOf, zipD, mZip, zipOf, mRng1, mRng2, rngD, mCount, mIndexL, mMt, tyIs, mtp, findD, sTryAs, mIsE, noEx, sPar, sPar3, xRev, revD, sTry, reps, b_145, e1, e2, e3, hl2, hA, hB, hC, hE, hF, hG, b1, b2], by simp; omega, p3⟩
  all_goals
    obtain ⟨d4, S4, e4, hd4, p4, _⟩ := digit TT p3 4 (by omega) (by decide) k (by omega)
    have e4 : callT TT k 113 [.ref n, .int 4] S3 = .ok (.int d4) S4 := e4
    have b1 : bop .add (.str t) (.str t) = some (.str (t ++ t)) := bop_asC _ _ (by omega)
    have f1 : 1 + t.length ≤ 16777216 := by omega
    have f2 : 1 + t.length + 1 ≤ 16777216 := by omega
    have f3 : t.length + 1 ≤ 16777216 := by omega
    have f4 : t.length + 5 ≤ 16777216 := by omega
    have f5 : t.length + 5 + 1 ≤ 16777216 := by omega
    have f6 : t.length + 1 + 1 ≤ 16777216 := by omega
    have f7 : t.length + 1 + 5 ≤ 16777216 := by omega
    have f8 : 5 + t.length ≤ 16777216 := by omega
    have f9 : t.length + 1 + 1 + 1 + 1 + 1 + 1 ≤ 16777216 := by omega
    have f10 : t.length ≤ 16777210 := by omega
    rcases (show d4 = 0 ∨ d4 = 1 ∨ d4 = 2 ∨ d4 = 3 by omega) with rfl | rfl | rfl | rfl
    · exact ⟨91 :: (t ++ [93]), S4, by simp (decide := true) [runD, enc, sSeq, sIf, sRet, sNx, sAsg, sEx, sRai, ↓mb, Res.bind, mp, M.of, mT, xIsi, mBor, mVar, isTy, mTruth, truth, mOr, mAnd, mIte, mNot, xCmp, cop, eqo_nn, eqo_nb, eqo_ni, eqo_ns, eqo_nt, eqo_nl, eqo_nd, eqo_bn, eqo_bb, eqo_bi, eqo_bs, eqo_bt, eqo_bl, eqo_bd, eqo_in, eqo_ib, eqo_ii, eqo_is, eqo_it, eqo_il, eqo_id, eqo_sn, eqo_sb, eqo_si, eqo_ss, eqo_st, eqo_sl, eqo_sd, eqo_tn, eqo_tb, eqo_ti, eqo_ts, eqo_tt, eqo_tl, eqo_td, eqo_ln, eqo_lb, eqo_li, eqo_ls, eqo_lt, eqo_ll, eqo_ld, eqo_dn, eqo_db, eqo_di, eqo_ds, eqo_dt, eqo_dl, eqo_dd, inOk, D.flat, xTup, aNil, aCons, mSet, plain_str, plain_tup, plain_int, plain_bl, plains_nil, plains_cons, eqb_str, eqb_int, eqb_bl, eqb_tup, eqbs_nil, eqbs_cn, eqbs_nc, eqbs_cc, eqb_nn, eqb_nb, eqb_ni, eqb_ns, eqb_nt, eqb_nl, eqb_nd, eqb_bn, eqb_bi, eqb_bs, eqb_bt, eqb_b_l, eqb_bd, eqb_in, eqb_ib, eqb_is, eqb_it, eqb_il, eqb_id, eqb_sn, eqb_sb, eqb_si, eqb_sl, eqb_sd, eqb_tn, eqb_tb, eqb_ti, eqb_tl, eqb_td, eqb_ln, eqb_lb, eqb_li, eqb_ls, eqb_lt, eqb_ll, eqb_ld, eqb_dn, eqb_db, eqb_di, eqb_ds, eqb_dt, eqb_dl, eqb_dd, plain_non, plain_lst, plain_dic, eqb_st, eqb_ts, xLen, bip, xIdx, mIdx, index, mItems, mList, xCall, pp_call, xBin, bop_ai, bop_at, bop_al, bop_si, bop_mi, bop_ml, bop_mt, bop_ms, bop_mo, bop_fd, bop_pw, SZ, mSlc, mPart, slice, gUnp, gCon, gEnd, mLst, M.bad, mChn, sFor, loopM, xBi, xFz, fLst, mCalk, srcOf, isn_n, isn_b, isn_i, isn_s, isn_t, isn_l, isn_d, isn_r, isn_enc, gStar, dget, atI, fComp, noX, Res.noX, mWipe, cmpR, wipeE, blsOf, intsOf, txtsOf, mZs, zsOf, zipD, mZip, zipOf, mRng1, mRng2, rngD, mCount, mIndexL, mMt, tyIs, mtp, findD, sTryAs, mIsE, noEx, sPar, sPar3, xRev, revD, sTry, reps, b_145, e1, e2, e3, e4, hl2, hA, hB, hC, hE, hF, hG, b1, mJoin, mFmt, f1, f2, f3, f4, f5, f6, f7, f8, f9, f10], by simp; omega, p4⟩
    · exact ⟨40 :: (t ++ [62,97,110,121,41]), S4, by simp (decide := true) [runD, enc, sSeq, sIf, sRet, sNx, sAsg, sEx, sRai, ↓mb, Res.bind, mp, M.of, mT, xIsi, mBor, mVar, isTy, mTruth, truth, mOr, mAnd, mIte, mNot, xCmp, cop, eqo_nn, eqo_nb, eqo_ni, eqo_ns, eqo_nt, eqo_nl, eqo_nd, eqo_bn, eqo_bb, eqo_bi, eqo_bs, eqo_bt, eqo_bl, eqo_bd, eqo_in, eqo_ib, eqo_ii, eqo_is, eqo_it, eqo_il, eqo_id, eqo_sn, eqo_sb, eqo_si, eqo_ss, eqo_st, eqo_sl, eqo_sd, eqo_tn, eqo_tb, eqo_ti, eqo_ts, eqo_tt, eqo_tl, eqo_td, eqo_ln, eqo_lb, eqo_li, eqo_ls, eqo_lt, eqo_ll, eqo_ld, eqo_dn, eqo_db, eqo_di, eqo_ds, eqo_dt, eqo_dl, eqo_dd, inOk, D.flat, xTup, aNil, aCons, mSet, plain_str, plain_tup, plain_int, plain_bl, plains_nil, plains_cons, eqb_str, eqb_int, eqb_bl, eqb_tup, eqbs_nil, eqbs_cn, eqbs_nc, eqbs_cc, eqb_nn, eqb_nb, eqb_ni, eqb_ns, eqb_nt, eqb_nl, eqb_nd, eqb_bn, eqb_bi, eqb_bs, eqb_bt, eqb_b_l, eqb_bd, eqb_in, eqb_ib, eqb_is, eqb_it, eqb_il, eqb_id, eqb_sn, eqb_sb, eqb_si, eqb_sl, eqb_sd, eqb_tn, eqb_tb, eqb_ti, eqb_tl, eqb_td, eqb_ln, eqb_lb, eqb_li, eqb_ls, eqb_lt, eqb_ll, eqb_ld, eqb_dn, eqb_db, eqb_di, eqb_ds, eqb_dt, eqb_dl, eqb_dd, plain_non, plain_lst, plain_dic, eqb_st, eqb_ts, xLen, bip, xIdx, mIdx, index, mItems, mList, xCall, pp_call, xBin, bop_ai, bop_at, bop_al, bop_si, bop_mi, bop_ml, bop_mt, bop_ms, bop_mo, bop_fd, bop_pw, SZ, mSlc, mPart, slice, gUnp, gCon, gEnd, mLst, M.bad, mChn, sFor, loopM, xBi, xFz, fLst, mCalk, srcOf, isn_n, isn_b, isn_i, isn_s, isn_t, isn_l, isn_d, isn_r, isn_enc, gStar, dget, atI, fComp, noX, Res.noX, mWipe, cmpR, wipeE, blsOf, intsOf, txtsOf, mZs, zsOf, zipD, mZip, zipOf, mRng1, mRng2, rngD, mCount, mIndexL, mMt, tyIs, mtp, findD, sTryAs, mIsE, noEx, sPar, sPar3, xRev, revD, sTry, reps, b_145, e1, e2, e3, e4, hl2, hA, hB, hC, hE, hF, hG, b1, mJoin, mFmt, f1, f2, f3, f4, f5, f6, f7, f8, f9, f10], by simp; omega, p4⟩
    · exact ⟨[40,110,117,109,62] ++ (t ++ [41]), S4, by simp (decide := true) [runD, enc, sSeq, sIf, sRet, sNx, sAsg, sEx, sRai, ↓mb, Res.bind, mp, M.of, mT, xIsi, mBor, mVar, isTy, mTruth, truth, mOr, mAnd, mIte, mNot, xCmp, cop, eqo_nn, eqo_nb, eqo_ni, eqo_ns, eqo_nt, eqo_nl, eqo_nd, eqo_bn, eqo_bb, eqo_bi, eqo_bs, eqo_bt, eqo_bl, eqo_bd, eqo_in, eqo_ib, eqo_ii, eqo_is, eqo_it, eqo_il, eqo_id, eqo_sn, eqo_sb, eqo_si, eqo_ss, eqo_st, eqo_sl, eqo_sd, eqo_tn, eqo_tb, eqo_ti, eqo_ts, eqo_tt, eqo_tl, eqo_td, eqo_ln, eqo_lb, eqo_li, eqo_ls, eqo_lt, eqo_ll, eqo_ld, eqo_dn, eqo_db, eqo_di, eqo_ds, eqo_dt, eqo_dl, eqo_dd, inOk, D.flat, xTup, aNil, aCons, mSet, plain_str, plain_tup, plain_int, plain_bl, plains_nil, plains_cons, eqb_str, eqb_int, eqb_bl, eqb_tup, eqbs_nil, eqbs_cn, eqbs_nc, eqbs_cc, eqb_nn, eqb_nb, eqb_ni, eqb_ns, eqb_nt, eqb_nl, eqb_nd, eqb_bn, eqb_bi, eqb_bs, eqb_bt, eqb_b_l, eqb_bd, eqb_in, eqb_ib, eqb_is, eqb_it, eqb_il, eqb_id, eqb_sn, eqb_sb, eqb_si, eqb_sl, eqb_sd, eqb_tn, eqb_tb, eqb_ti, eqb_tl, eqb_td, eqb_ln, eqb_lb, eqb_li, eqb_ls, eqb_lt, eqb_ll, eqb_ld, eqb_dn, eqb_db, eqb_di, eqb_ds, eqb_dt, eqb_dl, eqb_dd, plain_non, plain_lst, plain_dic, eqb_st, eqb_ts, xLen, bip, xIdx, mIdx, index, mItems, mList, xCall, pp_call, xBin, bop_ai, bop_at, bop_al, bop_si, bop_mi, bop_ml, bop_mt, bop_ms, bop_mo, bop_fd, bop_pw, SZ, mSlc, mPart, slice, gUnp, gCon, gEnd, mLst, M.bad, mChn, sFor, loopM, xBi, xFz, fLst, mCalk, srcOf, isn_n, isn_b, isn_i, isn_s, isn_t, isn_l, isn_d, isn_r, isn_enc, gStar, dget, atI, fComp, noX, Res.noX, mWipe, cmpR, wipeE, blsOf, intsOf, txtsOf, mZs, zsOf, zipD, mZip, zipOf, mRng1, mRng2, rngD, mCount, mIndexL, mMt, tyIs, mtp, findD, sTryAs, mIsE, noEx, sPar, sPar3, xRev, revD, sTry, reps, b_145, e1, e2, e3, e4, hl2, hA, hB, hC, hE, hF, hG, b1, mJoin, mFmt, f1, f2, f3, f4, f5, f6, f7, f8, f9, f10], by simp; omega, p4⟩
    · exact ⟨t ++ t, S4, by simp (decide := true) [runD, enc, sSeq, sIf, sRet, sNx, sAsg, sEx, sRai, ↓mb, Res.bind, mp, M.of, mT, xIsi, mBor, mVar, isTy, mTruth, truth, mOr, mAnd, mIte, mNot, xCmp, cop, eqo_nn, eqo_nb, eqo_ni, eqo_ns, eqo_nt, eqo_nl, eqo_nd, eqo_bn, eqo_bb, eqo_bi, eqo_bs, eqo_bt, eqo_bl, eqo_bd, eqo_in, eqo_ib, eqo_ii, eqo_is, eqo_it, eqo_il, eqo_id, eqo_sn, eqo_sb, eqo_si, eqo_ss, eqo_st, eqo_sl, eqo_sd, eqo_tn, eqo_tb, eqo_ti, eqo_ts, eqo_tt, eqo_tl, eqo_td, eqo_ln, eqo_lb, eqo_li, eqo_ls, eqo_lt, eqo_ll, eqo_ld, eqo_dn, eqo_db, eqo_di, eqo_ds, eqo_dt, eqo_dl, eqo_dd, inOk, D.flat, xTup, aNil, aCons, mSet, plain_str, plain_tup, plain_int, plain_bl, plains_nil, plains_cons, eqb_str, eqb_int, eqb_bl, eqb_tup, eqbs_nil, eqbs_cn, eqbs_nc, eqbs_cc, eqb_nn, eqb_nb, eqb_ni, eqb_ns, eqb_nt, eqb_nl, eqb_nd, eqb_bn, eqb_bi, eqb_bs, eqb_bt, eqb_b_l, eqb_bd, eqb_in, eqb_ib, eqb_is, eqb_it, eqb_il, eqb_id, eqb_sn, eqb_sb, eqb_si, eqb_sl, eqb_sd, eqb_tn, eqb_tb, eqb_ti, eqb_tl, eqb_td, eqb_ln, eqb_lb, eqb_li, eqb_ls, eqb_lt, eqb_ll, eqb_ld, eqb_dn, eqb_db, eqb_di, eqb_ds, eqb_dt, eqb_dl, eqb_dd, plain_non, plain_lst, plain_dic, eqb_st, eqb_ts, xLen, bip, xIdx, mIdx, index, mItems, mList, xCall, pp_call, xBin, bop_ai, bop_at, bop_al, bop_si, bop_mi, bop_ml, bop_mt, bop_ms, bop_mo, bop_fd, bop_pw, SZ, mSlc, mPart, slice, gUnp, gCon, gEnd, mLst, M.bad, mChn, sFor, loopM, xBi, xFz, fLst, mCalk, srcOf, isn_n, isn_b, isn_i, isn_s, isn_t, isn_l, isn_d, isn_r, isn_enc, gStar, dget, atI, fComp, noX, Res.noX, mWipe, cmpR, wipeE, blsOf, intsOf, txtsOf, mZs, zsOf, zipD, mZip, zipOf, mRng1, mRng2, rngD, mCount, mIndexL, mMt, tyIs, mtp, findD, sTryAs, mIsE, noEx, sPar, sPar3, xRev, revD, sTry, reps, b_145, e1, e2, e3, e4, hl2, hA, hB, hC, hE, hF, hG, b1, mJoin, mFmt, f1, f2, f3, f4, f5, f6, f7, f8, f9, f10], by simp; omega, p4⟩
def inner (P : Prm) : M Flow := (sSeq (sAsg (xCall P 145 2 (aCons (mVar 2) (aCons (mVar 4) aNil))) (mSet 4)) (sIf (mT (mOr (mNot (xCall P 125 1 (aCons (mVar 4) aNil))) (mNot (xCall P 125 1 (aCons (mVar 3) aNil))))) (sRet (M.pure (.bl false))) sNx))
def turn (P : Prm) : M Flow := (sSeq (sAsg (xCall P 112 2 (aCons (mVar 0) (aCons (mVar 1) aNil))) (mSet 2)) (sSeq (sAsg (xCall P 141 1 (aCons (xCall P 114 2 (aCons (mVar 2) (aCons (xCall P 113 2 (aCons (mVar 2) (aCons (M.pure (.int 6)) aNil))) aNil))) aNil)) (mSet 3)) (sSeq (sAsg (mVar 3) (mSet 4)) (sSeq (sFor (mRng1 (aCons (M.pure (.int 4)) aNil)) (mSet 5) (inner P)) (sSeq (sAsg (xBin .add (xBin .add (xBin .mul (M.pure (.str [91])) (M.pure (.int 5))) (xIdx (xFz (fLst (aCons (M.pure (.str [97,110,121])) (aCons (M.pure (.str [110,117,109])) (aCons (M.pure (.str [116,101,120,116])) aNil))))) (xCall P 113 2 (aCons (mVar 2) (aCons (M.pure (.int 3)) aNil))))) (xBin .mul (M.pure (.str [93])) (M.pure (.int 5)))) (mSet 6)) (sIf (mT (mOr (mNot (xCall P 125 1 (aCons (mVar 6) aNil))) (mOr (mNot (xCall P 125 1 (aCons (xBin .add (xBin .add (M.pure (.str [91])) (mVar 6)) (M.pure (.str [93]))) aNil))) (mNot (xCall P 125 1 (aCons (mJoin [(M.pure (.str [40])), (mFmt (mVar 6)), (M.pure (.str [62,110,117,109,41]))] []) aNil)))))) (sRet (M.pure (.bl false))) sNx))))))
def tail (P : Prm) : M Flow := (sSeq (sAsg (xFz (fLst (aCons (M.pure .non) (aCons (M.pure (.int 0)) (aCons (M.pure (.int 7)) (aCons (M.pure (.bl true)) (aCons (M.pure (.bl false)) (aCons (xTup aNil) (aCons (xFz (fLst aNil)) (aCons (M.pure (.dic [])) (aCons (xTup (aCons (M.pure (.str [98,111,120])) (aCons (M.pure (.str [97,110,121])) aNil))) (aCons (xFz (fLst (aCons (M.pure (.str [97,110,121])) aNil))) (aCons (xTup (aCons (M.pure (.str [100,101,101,100])) (aCons (M.pure (.str [97,110,121])) (aCons (M.pure (.str [110,117,109])) aNil)))) (aCons (xTup (aCons (M.pure (.str [97,110,121])) aNil)) aNil)))))))))))))) (mSet 7)) (sRet (mAnd (xCall P 125 1 (aCons (M.pure (.str [])) aNil)) (xBi .all (aCons (xFz (fComp (mItems (mVar 7)) [8] (mSet 8) (M.pure true) (xCmp .eq (xBi .repr (aCons (xCall P 124 1 (aCons (mVar 8) aNil)) aNil)) (xBi .repr (aCons (xTup (aCons (M.pure (.str [110,111,110,101])) (aCons (M.pure (.bl true)) aNil))) aNil))))) aNil)))))
theorem b_126_eq (P : Prm) : b_126 P = sSeq (sFor (mRng1 (aCons (xBi .max2 (aCons (M.pure (.int 1)) (aCons (xBi .min2 (aCons (M.pure (.int 6)) (aCons (xLen (mBor 0)) aNil))) aNil))) aNil)) (mSet 1) (turn P)) (tail P) := rfl
abbrev En (ns : List Int) (i n : Nat) (g p : Txt) (r5 r6 r7 r8 : Option SV) : Env := [some (.fz (.scr ns)), some (.fz (.int i)), some (.fz (.ref n)), some (.fz (.str g)), some (.fz (.str p)), r5, r6, r7, r8]
theorem inner_ok (ns : List Int) (i n : Nat) (g p : Txt) (r5 r6 r7 r8 : Option SV) (S : Sto) (hp : Pot S n) (hg : g.length ≤ 5000) (hl : p.length ≤ 2000) (j : Int) :
    ∃ (q : Txt) (S' : Sto), (M.bind (mSet 5 (.int j)) fun _ => inner (PP 39)) (En ns i n g p r5 r6 r7 r8) S = .ok .nx (En ns i n g q (some (.fz (.int j))) r6 r7 r8) S' ∧ q.length ≤ 2 * p.length + 10 ∧ Pot S' n := by
  obtain ⟨q, S1, e1, hq, p1⟩ := spoilt_ok p (by omega) S n 39 hp (by omega)
  have e2 := right_ok q (by omega) 39 S1 (by omega)
  have e3 := right_ok g (by omega) 39 S1 (by omega)
  exact ⟨q, S1, by simp (decide := true) [runD, enc, sSeq, sIf, sRet, sNx, sAsg, sEx, sRai, ↓mb, Res.bind, mp, M.of, mT, xIsi, mBor, mVar, isTy, mTruth, truth, mOr, mAnd, mIte, mNot, xCmp, cop, eqo_nn, eqo_nb, eqo_ni, eqo_ns, eqo_nt, eqo_nl, eqo_nd, eqo_bn, eqo_bb, eqo_bi, eqo_bs, eqo_bt, eqo_bl, eqo_bd, eqo_in, eqo_ib, eqo_ii, eqo_is, eqo_it, eqo_il, eqo_id, eqo_sn, eqo_sb, eqo_si, eqo_ss, eqo_st, eqo_sl, eqo_sd, eqo_tn, eqo_tb, eqo_ti, eqo_ts, eqo_tt, eqo_tl, eqo_td, eqo_ln, eqo_lb, eqo_li, eqo_ls, eqo_lt, eqo_ll, eqo_ld, eqo_dn, eqo_db, eqo_di, eqo_ds, eqo_dt, eqo_dl, eqo_dd, inOk, D.flat, xTup, aNil, aCons, mSet, plain_str, plain_tup, plain_int, plain_bl, plains_nil, plains_cons, eqb_str, eqb_int, eqb_bl, eqb_tup, eqbs_nil, eqbs_cn, eqbs_nc, eqbs_cc, eqb_nn, eqb_nb, eqb_ni, eqb_ns, eqb_nt, eqb_nl, eqb_nd, eqb_bn, eqb_bi, eqb_bs, eqb_bt, eqb_b_l, eqb_bd, eqb_in, eqb_ib, eqb_is, eqb_it, eqb_il, eqb_id, eqb_sn, eqb_sb, eqb_si, eqb_sl, eqb_sd, eqb_tn, eqb_tb, eqb_ti, eqb_tl, eqb_td, eqb_ln, eqb_lb, eqb_li, eqb_ls, eqb_lt, eqb_ll, eqb_ld, eqb_dn, eqb_db, eqb_di, eqb_ds, eqb_dt, eqb_dl, eqb_dd, plain_non, plain_lst, plain_dic, eqb_st, eqb_ts, xLen, bip, xIdx, mIdx, index, mItems, mList, xCall, pp_call, xBin, bop_ai, bop_as, bop_at, bop_al, bop_si, bop_mi, bop_ml, bop_mt, bop_ms, bop_mo, bop_fd, bop_pw, SZ, mSlc, mPart, slice, gUnp, gCon, gEnd, mLst, M.bad, mChn, sFor, loopM, xBi, xFz, fLst, mCalk, srcOf, isn_n, isn_b, isn_i, isn_s, isn_t, isn_l, isn_d, isn_r, isn_enc, inner, e1, e2, e3], hq, p1⟩
theorem turn_ok (ns : List Int) (i : Nat) (rs : Env) (S : Sto) (hi : i ≤ 100) (hl : rs.length = 7) : ∃ rs' S', rs'.length = 7 ∧ turn (PP 39) (some (.fz (.scr ns)) :: some (.fz (.int i)) :: rs) S = .ok .nx (some (.fz (.scr ns)) :: some (.fz (.int i)) :: rs') S' := by
  obtain ⟨r2, r3, r4, r5, r6, r7, r8, rfl⟩ := len7 hl
  obtain ⟨S1, e1, p1⟩ := pot TT ns i hi 39 S (by omega)
  obtain ⟨d, S2, e2, hd, p2, _⟩ := digit TT p1 6 (by omega) (by decide) 39 (by omega)
  have e2 : callT TT 39 113 [.ref S.length, .int 6] S1 = .ok (.int d) S2 := e2
  obtain ⟨f, S3, e3, hf, p3, _⟩ := form_drawn TT d S2 S.length 39 p2 (by omega)
  have hs := txt_small f (by omega)
  have e4 := law_written TT f 39 S3 (by omega) (by omega) (by omega)
  obtain ⟨q1, T1, a1, b1, c1⟩ := inner_ok ns i S.length (txt f) (txt f) r5 r6 r7 r8 S3 p3 (by omega) (by omega) 0
  obtain ⟨q2, T2, a2, b2, c2⟩ := inner_ok ns i S.length (txt f) q1 (some (.fz (.int 0))) r6 r7 r8 T1 c1 (by omega) (by omega) 1
  obtain ⟨q3, T3, a3, b3, c3⟩ := inner_ok ns i S.length (txt f) q2 (some (.fz (.int 1))) r6 r7 r8 T2 c2 (by omega) (by omega) 2
  obtain ⟨q4, T4, a4, b4, c4⟩ := inner_ok ns i S.length (txt f) q3 (some (.fz (.int 2))) r6 r7 r8 T3 c3 (by omega) (by omega) 3
  have lp : loopM (mSet 5) (inner (PP 39)) (rngD 0 4) (En ns i S.length (txt f) (txt f) r5 r6 r7 r8) S3 = .ok .nx (En ns i S.length (txt f) q4 (some (.fz (.int 3))) r6 r7 r8) T4 := by
    show loopM _ _ [.int 0, .int 1, .int 2, .int 3] _ _ = _
    rw [loop_step a1, loop_step a2, loop_step a3, loop_step a4]
    rfl
  have rg : ∀ (ρ : Env) (S : Sto), mRng1 ((M.pure (.int 4)).bind fun d => (M.pure []).bind fun ds => M.pure (d :: ds)) ρ S = .ok (rngD 0 4) ρ S := rng_lit 4 (by decide)
  obtain ⟨d5, T5, e5, hd5, p5, _⟩ := digit TT c4 3 (by omega) (by decide) 39 (by omega)
  have e5 : callT TT 39 113 [.ref S.length, .int 3] T4 = .ok (.int d5) T5 := e5
  have rr : ∀ x : Txt, x.length ≤ 1000 → callT TT 39 125 [.str x] T5 = .ok (.bl true) T5 := fun x hx => right_ok x (by omega) 39 T5 (by omega)
  have fin : ∀ x : Txt, [[97,110,121], [110,117,109], [116,101,120,116]][d5]? = some x → ∃ rs' S', rs'.length = 7 ∧ turn (PP 39) [some (.fz (.scr ns)), some (.fz (.int i)), r2, r3, r4, r5, r6, r7, r8] S = .ok .nx (some (.fz (.scr ns)) :: some (.fz (.int i)) :: rs') S' := fun x hx => by
    have hx' : ([.str [97,110,121], .str [110,117,109], .str [116,101,120,116]] : List D)[d5]? = some (.str x) := by
      rcases three hd5 with rfl | rfl | rfl <;> (simp at hx; subst hx; rfl)
    have lx : x.length ≤ 4 := by
      rcases three hd5 with rfl | rfl | rfl <;> (simp at hx; subst hx; decide)
    have ha : atI ([.str [97,110,121], .str [110,117,109], .str [116,101,120,116]] : List D) (d5 : Int) = some (.str x) := by
      unfold atI; rw [if_pos (by omega)]; simpa using hx'
    have m1 : bop .mul (.str [91]) (.int 5) = some (.str [91,91,91,91,91]) := rfl
    have m2 : bop .mul (.str [93]) (.int 5) = some (.str [93,93,93,93,93]) := rfl
    have m3 : bop .add (.str [91,91,91,91,91]) (.str x) = some (.str ([91,91,91,91,91] ++ x)) := bop_asC _ _ (by simp; omega)
    have m4 : bop .add (.str ([91,91,91,91,91] ++ x)) (.str [93,93,93,93,93]) = some (.str ([91,91,91,91,91] ++ x ++ [93,93,93,93,93])) := bop_asC _ _ (by simp; omega)
    generalize hH : ([91,91,91,91,91] ++ x ++ [93,93,93,93,93] : Txt) = H at m4
    have lH : H.length ≤ 20 := by rw [← hH]; simp; omega
    have m5 : bop .add (.str [91]) (.str H) = some (.str ([91] ++ H)) := bop_asC _ _ (by simp; omega)
    have m6 : bop .add (.str ([91] ++ H)) (.str [93]) = some (.str ([91] ++ H ++ [93])) := bop_asC _ _ (by simp; omega)
    have n1 := rr H (by omega)
    have n2 := rr ([91] ++ H ++ [93]) (by simp; omega)
    have n3 := rr (40 :: (H ++ [62,110,117,109,41])) (by simp; omega)
    have n4 : 1 + H.length ≤ 16777216 := by omega
    have n5 : H.length + 1 + 5 ≤ 16777216 := by omega
    have n6 : H.length ≤ 16777216 := by omega
    have n7 : H.length ≤ 16777210 := by omega
    generalize [91] ++ H ++ [93] = H2 at *
    generalize hA : [91] ++ H = H1 at *
    generalize hB : [91,91,91,91,91] ++ x = H0 at *
    refine ⟨[some (.fz (.ref S.length)), some (.fz (.str (txt f))), some (.fz (.str q4)), some (.fz (.int 3)), some (.fz (.str H)), r7, r8], T5, rfl, ?_⟩
    simp (decide := true) [runD, enc, sSeq, sIf, sRet, sNx, sAsg, sEx, sRai, ↓mb, Res.bind, mp, M.of, mT, xIsi, mBor, mVar, isTy, mTruth, truth, mOr, mAnd, mIte, mNot, xCmp, cop, eqo_nn, eqo_nb, eqo_ni, eqo_ns, eqo_nt, eqo_nl, eqo_nd, eqo_bn, eqo_bb, eqo_bi, eqo_bs, eqo_bt, eqo_bl, eqo_bd, eqo_in, eqo_ib, eqo_ii, eqo_is, eqo_it, eqo_il, eqo_id, eqo_sn, eqo_sb, eqo_si, eqo_ss, eqo_st, eqo_sl, eqo_sd, eqo_tn, eqo_tb, eqo_ti, eqo_ts, eqo_tt, eqo_tl, eqo_td, eqo_ln, eqo_lb, eqo_li, eqo_ls, eqo_lt, eqo_ll, eqo_ld, eqo_dn, eqo_db, eqo_di, eqo_ds, eqo_dt, eqo_dl, eqo_dd, inOk, D.flat, xTup, aNil, aCons, mSet, plain_str, plain_tup, plain_int, plain_bl, plains_nil, plains_cons, eqb_str, eqb_int, eqb_bl, eqb_tup, eqbs_nil, eqbs_cn, eqbs_nc, eqbs_cc, eqb_nn, eqb_nb, eqb_ni, eqb_ns, eqb_nt, eqb_nl, eqb_nd, eqb_bn, eqb_bi, eqb_bs, eqb_bt, eqb_b_l, eqb_bd, eqb_in, eqb_ib, eqb_is, eqb_it, eqb_il, eqb_id, eqb_sn, eqb_sb, eqb_si, eqb_sl, eqb_sd, eqb_tn, eqb_tb, eqb_ti, eqb_tl, eqb_td, eqb_ln, eqb_lb, eqb_li, eqb_ls, eqb_lt, eqb_ll, eqb_ld, eqb_dn, eqb_db, eqb_di, eqb_ds, eqb_dt, eqb_dl, eqb_dd, plain_non, plain_lst, plain_dic, eqb_st, eqb_ts, xLen, bip, xIdx, mIdx, index, mItems, mList, xCall, pp_call, xBin, bop_ai, bop_at, bop_al, bop_si, bop_mi, bop_ml, bop_mt, bop_mo, bop_fd, bop_pw, SZ, mSlc, mPart, slice, gUnp, gCon, gEnd, mLst, M.bad, mChn, sFor, loopM, xBi, xFz, fLst, mCalk, srcOf, isn_n, isn_b, isn_i, isn_s, isn_t, isn_l, isn_d, isn_r, isn_enc, turn, rg, e1, e2, e3, e4, lp, e5, ha, m1, m2, m3, m4, m5, m6, n1, n2, n3, n4, n5, n6, n7, mJoin, mFmt]
  rcases three hd5 with rfl | rfl | rfl
  · exact fin _ rfl
  · exact fin _ rfl
  · exact fin _ rfl
def things : List D := [.non, .int 0, .int 7, .bl true, .bl false, .tup [], .lst [], .dic [], .tup [.str [98,111,120], .str [97,110,121]], .lst [.str [97,110,121]], .tup [.str [100,101,101,100], .str [97,110,121], .str [110,117,109]], .tup [.str [97,110,121]]]
theorem thing_ok (S : Sto) : ∀ d ∈ things, callT TT 39 124 [d] S = .ok noneD S := by
  intro d hd
  simp only [things, List.mem_cons, List.not_mem_nil, or_false] at hd
  rcases hd with rfl | rfl | rfl | rfl | rfl | rfl | rfl | rfl | rfl | rfl | rfl | rfl <;> kernel_rfl
def depth : Nat := 40
theorem tail_ok (ns : List Int) (r1 r2 r3 r4 r5 r6 r7 r8 : Option SV) (S : Sto) : ∃ ρ S', tail (PP 39) [some (.fz (.scr ns)), r1, r2, r3, r4, r5, r6, r7, r8] S = .ok (.rt (.bl true)) ρ S' := by
  have e0 := right_ok [] (by decide) 39 S (by omega)
  obtain ⟨u, hu⟩ := none_sm
  have h := thing_ok S
  unfold noneD at h hu
  have h1 := h .non (by simp [things])
  have h2 := h (.int 0) (by simp [things])
  have h3 := h (.int 7) (by simp [things])
  have h4 := h (.bl true) (by simp [things])
  have h5 := h (.bl false) (by simp [things])
  have h6 := h (.tup []) (by simp [things])
  have h7 := h (.lst []) (by simp [things])
  have h8 := h (.dic []) (by simp [things])
  have h9 := h (.tup [.str [98,111,120], .str [97,110,121]]) (by simp [things])
  have h10 := h (.lst [.str [97,110,121]]) (by simp [things])
  have h11 := h (.tup [.str [100,101,101,100], .str [97,110,121], .str [110,117,109]]) (by simp [things])
  have h12 := h (.tup [.str [97,110,121]]) (by simp [things])
  refine ⟨[some (.fz (.scr ns)), r1, r2, r3, r4, r5, r6, some (.fz (.lst things)), none], S, ?_⟩
  simp (decide := true) [runD, enc, sSeq, sIf, sRet, sNx, sAsg, sEx, sRai, ↓mb, Res.bind, mp, M.of, mT, xIsi, mBor, mVar, isTy, mTruth, truth, mOr, mAnd, mIte, mNot, xCmp, cop, eqo_nn, eqo_nb, eqo_ni, eqo_ns, eqo_nt, eqo_nl, eqo_nd, eqo_bn, eqo_bb, eqo_bi, eqo_bs, eqo_bt, eqo_bl, eqo_bd, eqo_in, eqo_ib, eqo_ii, eqo_is, eqo_it, eqo_il, eqo_id, eqo_sn, eqo_sb, eqo_si, eqo_ss, eqo_st, eqo_sl, eqo_sd, eqo_tn, eqo_tb, eqo_ti, eqo_ts, eqo_tt, eqo_tl, eqo_td, eqo_ln, eqo_lb, eqo_li, eqo_ls, eqo_lt, eqo_ll, eqo_ld, eqo_dn, eqo_db, eqo_di, eqo_ds, eqo_dt, eqo_dl, eqo_dd, inOk, D.flat, xTup, aNil, aCons, mSet, plain_str, plain_tup, plain_int, plain_bl, plains_nil, plains_cons, eqb_str, eqb_int, eqb_bl, eqb_tup, eqbs_nil, eqbs_cn, eqbs_nc, eqbs_cc, eqb_nn, eqb_nb, eqb_ni, eqb_ns, eqb_nt, eqb_nl, eqb_nd, eqb_bn, eqb_bi, eqb_bs, eqb_bt, eqb_b_l, eqb_bd, eqb_in, eqb_ib, eqb_is, eqb_it, eqb_il, eqb_id, eqb_sn, eqb_sb, eqb_si, eqb_sl, eqb_sd, eqb_tn, eqb_tb, eqb_ti, eqb_tl, eqb_td, eqb_ln, eqb_lb, eqb_li, eqb_ls, eqb_lt, eqb_ll, eqb_ld, eqb_dn, eqb_db, eqb_di, eqb_ds, eqb_dt, eqb_dl, eqb_dd, plain_non, plain_lst, plain_dic, eqb_st, eqb_ts, xLen, bip, xIdx, mIdx, index, mItems, mList, xCall, pp_call, xBin, bop_ai, bop_at, bop_al, bop_si, bop_mi, bop_ml, bop_mt, bop_ms, bop_mo, bop_fd, bop_pw, SZ, mSlc, mPart, slice, gUnp, gCon, gEnd, mLst, M.bad, mChn, sFor, loopM, xBi, xFz, fLst, mCalk, srcOf, isn_n, isn_b, isn_i, isn_s, isn_t, isn_l, isn_d, isn_r, isn_enc, gStar, dget, atI, fComp, noX, Res.noX, mWipe, cmpR, wipeE, blsOf, intsOf, txtsOf, mZs, zsOf, zipD, mZip, zipOf, mRng1, mRng2, rngD, mCount, mIndexL, mMt, tyIs, mtp, findD, sTryAs, mIsE, noEx, sPar, sPar3, xRev, revD, sTry, reps, tail, e0, hu, h1, h2, h3, h4, h5, h6, h7, h8, h9, h10, h11, h12, things]
theorem answers (ns : List Int) (h1 : ns.length ≤ 63) (h2 : ∀ z ∈ ns, PySem.Builtin.Int.intBits z ≤ 1048576) : ∃ S', callT TT depth 126 [.scr ns] [] = .ok (.bl true) S' := by
  obtain ⟨r1, rs', S', hl, e⟩ := law_for (turn := turn (PP 39)) 7 ns [none, none, none, none, none, none, none] [] rfl (law_rng 6 (by decide) (by decide) ns _ []) (turn_ok ns)
  obtain ⟨a, b, c, d, x, y, z, rfl⟩ := len7 hl
  obtain ⟨ρ, S2, e2⟩ := tail_ok ns r1 a b c d x y z S'
  exact ⟨S2, run1 39 _ _ _ _ ρ rfl ((bind_ok e).trans e2)⟩
end k15
end Ev


set_option maxHeartbeats 0
namespace Ev
namespace k15
open PySem PySem.Spec PyProof.Rows L2
def nms : List PySem.Str := (["WallError", "NoForm", "DEED", "BOX", "PLAIN", "MOST_HEIGHT", "WIDTHS", "is_form_to", "is_form", "want_form", "text_of_form", "form_text", "want_sign", "form_at", "read_form", "_law_pot", "_law_digit", "_law_pick", "_law_form", "_law_written", "_law_read", "_law_due", "_law_told", "_law_spoilt", "_law_right"] : List PySem.Str)
theorem run (w : World) : HandSHeadRun.RunEq Rw (PySem.W.view Rw.prog [29]) hkx obx 6000 nms w := by
  refine PySem.W.byRow2 "special-get-raises" (P := fun w => HandSHeadRun.RunEq Rw (PySem.W.view Rw.prog [29]) hkx obx 6000 nms w) (fun w => ?_) (fun w => ?_) w
  · intro os
    kernel_rfl
  · intro os
    kernel_rfl
end k15
end Ev
open PySem PySem.W PySem.Calls PyProof.Rows
theorem PySem.Challenge.cw_wallseal_k15_form_texts_spoilt_holds : PySem.Challenge.rw_wallseal_k15_form_texts_spoilt.Holds := by
  w_on; o_law
  refine HandSHeadRun.head_any (r := OpenLaw.row PySem.Challenge.rw_wallseal_k15_form_texts_spoilt) (q := view (OpenLaw.row PySem.Challenge.rw_wallseal_k15_form_texts_spoilt).prog [29]) (H := Ev.k15.hkx) (ob := Ev.k15.obx) (M := 6000) (loose := Ev.k15.nms) (d := HandSHeadRun.topDef (OpenLaw.row PySem.Challenge.rw_wallseal_k15_form_texts_spoilt).prog 29) (kwd := []) Ev.k15.obx_eq
    (by kernel_rfl) (fun s => by kernel_rfl) Ev.k15.run (by kernel_rfl) (by kernel_rfl) (by kernel_rfl) (by rfl) (by first | assumption | decide +kernel) (by decide +kernel) ⟨rfl, rfl, rfl, rfl, rfl, by decide +kernel⟩ ?hw ?hc
  case hw => w_witness2
  case hc =>
    refine Ev.endG (l := PySem.Challenge.rw_wallseal_k15_form_texts_spoilt) (n := 63) (k := Ev.k15.depth) (x := "_law_script") rfl (by decide) (by kernel_rfl) ⟨rfl, by decide, by decide⟩ ?F
    intro w mg fa h Y G hmg0
    obtain ⟨K, KX, c⟩ := Y
    have hmg : mg ("law" : PySem.Str) = some (.ref fa) := by
      have e : (HandSHeadRun.topDef (OpenLaw.row PySem.Challenge.rw_wallseal_k15_form_texts_spoilt).prog 29).name = ("law" : PySem.Str) := by kernel_rfl
      rw [← e]
      exact hmg0
    obtain ⟨fd, sp, hb, hs, hF⟩ := Ev.k15.facts (P := (PySem.Challenge.rw_wallseal_k15_form_texts_spoilt).prog) (w := w) Ev.k15.depth Ev.k15.answers KX G hmg c
    exact ⟨K, fd, sp, KX, hb, hs, hF⟩

